import PyProof.Rows.All
import Wide.All
import OpenK.AllK
import Wide.FinOn
import Lean
import PySem.Challenge.RW_rg0169_01
set_option linter.all false
set_option backward.match.sparseCases false
set_option compiler.extract_closed false
set_option genSizeOf false
set_option genInjectivity false
set_option genCtorIdx false
set_option bootstrap.genMatcherCode false
set_option tactic.hygienic false
set_option maxRecDepth 10000
set_option maxHeartbeats 4000000
open Lean in
local macro_rules (kind:=Lean.Parser.Tactic.simpTrace)
|s=>do
let f(p x:String):=(x.splitOn " ").map fun y=>TSyntax.raw (mkNode ``Lean.Parser.Tactic.simpLemma #[if p==""then mkNullNode else mkNullNode #[mkNode ``Lean.Parser.Tactic.simpPre #[mkAtom p]],mkNullNode,mkIdent y.toName])
let r:=s[2]
let l:=f "↓" "O' Pa Op Ob Of Od Oc Oo On Oj Oh Oe Om Ol Oi Ot Os OE ON OZ OJ O2 OI OO OX OW OR OQ OF OM OT OV OY O0 OP O1 OL OS OG OH OK OU HJ t_ HK NP NR NQ NO MA Mz N3 N0 Fz IQ Mk IR GO Lq KU I7 Jz Lw LL Mx KZ K0 KW KY KX Ll Ju IZ IV N5 Ld Le Fh Js Gu Gt FG FH Ma FV EM My KE KD Ka KL J_ Kh Kx Kw Kz KA KB Kk Kj JW Kb Kg Nh Kv Ku Ky KF KC Ki KI Ke Kf Kd Ko Kn J0 J1 JZ J7 Kt Ks JY KJ J' JV J9 JX J6 J5 J3 J4 J2 KH KG KM KN KO KP Kr Km J8 Nr Fp Kq Kp JS JU Kc JP JQ JR JO JN"++f "" "Ng LK LJ FY FX Option.getD_some Option.getD_none Jf Je GI GH G2 G3 NC NE ND NF Nat.reduceBEq Iz IB"++(if r[2].isNone then[]else f "↓" "p8 AV cy cH"++f "" "ak lR")++if s[1].isNone then[]else f "" "cA PL P6 Qn Q5 QJ Q6 R6 R4 R5 PP PR PQ eq_self true_implies false_implies not_true_eq_false not_false_eq_true and_true true_and and_self implies_true reduceCtorEq decide_true decide_false if_true aD aC aO aN aF aE"
let a:=(r[3][0][1].getSepArgs.toList++l).foldl (fun b x=>if b.size==0 then #[x]else (b.push (mkAtom ",")).push x) #[]
pure (TSyntax.raw (mkNode ``Lean.Parser.Tactic.simp #[mkAtom "simp",r[0],r[1],mkNullNode #[mkAtom "only"],mkNullNode #[mkAtom "[",mkNullNode a,mkAtom "]"],r[4]]))
open Lean in
local macro_rules (kind:=Lean.Parser.Tactic.tacticErw___)
|s=>do
let l<-s[2][1].getSepArgs.mapM fun x=>do
 let k:=``Lean.Parser.Term.app
 let e:=if x[1].isOfKind k then x[1] else mkNode k #[x[1],mkNullNode]
 let e:TSyntax `term:=⟨e.setArg 1 (mkNullNode (e[1].getArgs.push (mkNode ``Lean.Parser.Term.ellipsis #[mkAtom ".."])))⟩
 let f:TSyntax `term:=mkIdent (if x[0].isNone then `Mine.bG else `Mine.Pb)
 `(tactic|refine $f ($e) ?_)
`(tactic|($[$l:tactic];*))
open And renaming intro->QN
open Array renaming length_toList->RA,getElem?_eq_none->Sy,toList_append->S5,size_append->TM,toList_push->Wy,size_push->Wz,getElem?_eq_getElem->WA
open Bool renaming true->L,false->J,and_eq_true->Qc,false_ne_true->Qf,and_eq_true_iff->Qv,noConfusion->QY,false_eq_true->Sa,true_and->TI,or_eq_true->TJ,not_eq_true'->TK,and_true->TL,or_eq_true_iff->UW,or_eq_false_iff->UX,eq_iff_iff->Wu,decide_or->Wv,and_false->Ww,and_comm->Wx
open Classical renaming byContradiction->US
open Decidable renaming decide->Ps,not_not->TG
open False renaming elim->Pz
open ForInStep renaming yield->Sw
open Int renaming reduceSub->PP,reduceNeg->PQ,reduceAdd->PR,ofNat->QK,le_refl->QL,le_trans->QU,zero_add->Q7,ofNat_le->RP,toNat_natCast->R3,reduceLT->R4,reduceLE->R5,reduceEq->R6,not_lt->R7,le_of_eq->R8,natCast_nonneg->Ss,lt_or_le->Su,le_of_lt->Sv,mul_add->S2,add_zero->S3,neg_one_mul->Tw,le_total->Tx,emod_nonneg->Tz,emod_lt_of_pos->TA,zero_mul->UB,toNat->UC,sub_zero->UD,sub_nonneg_of_le->UE,ofNat_lt->UF,mul_nonneg->UG,max_eq_right->UH,ediv_nonneg->UI,toNat_of_nonneg->VZ,ofNat_natAbs_of_nonpos->V0,neg_nonneg_of_nonpos->V1,ne_of_gt->V2,natAbs_of_nonneg->V3,min_eq_left->V4,max_eq_left->V5,lt_of_lt_of_le->V6,lt_of_le_of_lt->V7,ediv_le_self->V8,add_nonneg->V9,add_assoc->V_
open LawfulBEq renaming eq_of_beq->P5
open List renaming length_map->Pt,length_append->PC,nil->PJ,cons->PK,length_cons->PL,mem_cons->PM,map_append->PU,mem_cons_of_mem->PY,not_mem_nil->P0,append_nil->P3,length_nil->P6,getElem?_eq_getElem->P8,append_assoc->P9,mem_singleton->P_,mem_map->P',length_drop->Qe,mem_append->Qh,all_eq_true->Qi,map_cons->Qj,isEmpty_iff->Qk,zip_cons_cons->Qn,range->Qq,lookup_cons->Qr,length_take->Qs,flatMap_cons->Qt,replicate->QE,rec->QH,length->QI,foldl_cons->QJ,mem_of_mem_drop->QR,mem_cons_self->QS,getElem?_map->QT,map_map->QX,zip_nil_left->Q5,foldl_nil->Q6,reverse_cons->Ra,mem_range->Ri,mem_of_mem_take->Rj,getElem_mem->Rk,eq_nil_of_length_eq_zero->Rl,drop_eq_nil_of_le->Rm,nil_append->Rs,map_take->Rt,map_drop->Ru,getElem?_eq_some_iff->Rv,getElem?_append_left->Rw,cons_append->Rx,concat_eq_append->Ry,take_of_length_le->RJ,nodup_cons->RK,flatMap_append->RL,filter_eq_self->RM,eq_nil_or_concat->RN,size_toArray->RZ,map_reverse->R0,getElem?_eq_none->R1,getElem?_append_right->R2,replicate_succ->Sj,map_nil->Sk,map_id'->Sl,map_congr_left->Sm,length_reverse->Sn,getLast?_eq_none_iff->So,getLast?_eq_getElem?->Sp,drop_left->Sq,drop_eq_getElem_cons->Sr,takeWhile_cons_of_pos->SV,reverse_reverse->SW,mem_of_getElem?->SX,map->SY,length_singleton->SZ,length_range->S0,getLast?_concat->S1,takeWhile_cons_of_neg->Tm,mem_reverse->Tn,mem_of_getLast?->To,mem_map_of_mem->Tp,length_zip->Tq,getElem?_drop->Tr,flatten_cons->Ts,filter_cons_of_neg->Tt,drop_drop->Tu,cons_ne_nil->Tv,take_take->Uh,take_left->Ui,take_append_drop->Uj,nodup_append->Uk,map_set->Ul,map_inj_right->Um,length_filter_le->Un,getLast?_append->Uo,forIn_cons->Up,foldl_append->Uq,filter_map->Ur,filter_cons_of_pos->Us,filter_append->Ut,filter->Uu,drop_zero->Uv,drop_nil->Uw,drop_length->Ux,dropLast_concat->Uy,any_eq_true->UA,take_nil->Vw,prefix_nil->Vx,prefix_concat_iff->Vy,pairwise_iff_getElem->Vz,nodup_nil->VA,mem_flatMap->VB,mem_filterMap->VC,mem_filter->VD,map_snd_zip->VE,map_replicate->VF,map_id->VG,length_set->VH,isPrefixOf_iff_prefix->VI,head?_eq_getElem?->VJ,head?_cons->VK,getLast_mem->VL,getLast?_map->VM,getElem_drop->VN,getElem?_set->VO,getElem?_reverse->VP,getElem?_cons_succ->VQ,flatMap_map->VR,flatMap_eq_nil_iff->VS,filter_filter->VT,filter_eq_nil_iff->VU,filterMap_cons_some->VV,drop_take->VW,drop_succ_cons->VX,any_cons->VY
open List.cons renaming injEq->Uz
open Min renaming min->P1
open Nat renaming le_of_ble_eq_true->Pp,le_trans->PO,beq->PX,le_refl->P2,zero->Ql,succ->Qm,zero_le->QD,le_of_eq->QW,eq_of_beq_eq_true->Q3,lt_or_ge->Rg,not_lt->RI,min_eq_left->RW,le_total->RX,blt->RY,add_le_add_right->Si,succ_ne_self->SP,succ_le_succ->SQ,min_eq_right->SR,lt_irrefl->SS,le_succ->SU,zero_add->Tg,sub_self->Ti,not_succ_le_zero->Tj,le_add_right->Tk,casesOn->Tl,sub_eq_zero_of_le->Ua,ne_of_lt->Ub,min_self->Uc,min_le_right->Ud,le_of_succ_le_succ->Ue,add_le_add_left->Uf,add_comm->Ug,not_lt_zero->Vp,mul_le_mul_left->Vq,lt_trans->Vr,beq_refl->Vs,add_zero->Vt,add_right_comm->Vu,add_assoc->Vv
open Nat.succ renaming inj->Th
open Ne renaming symm->PB
open Option renaming some->O,none->U,or->Pm,map_some->Qy,map_eq_some_iff->Q2,bind_eq_some_iff->Rr,isSome_iff_exists->RG,isNone_iff_eq_none->RH,some_ne_none->RV,map->T_,isSome_some->T',or_none->Vn,isSome_none->Vo
open Option.some renaming inj->PS
open Prod renaming fst->Rf
open Pure renaming pure->PN
open PySem renaming Value->Pl,Shared->Pn,Expr->Po,wpAny->Pq,Str->Pr,wpAny_bind->Pu,Heap->Pv,Addr->Pw,Params->Px,model->Py,Obj->PA,Pos->PD,World->PE,Stmt->PF,OsState->PG,wpAny_pure->PH,Env->PI,Around->PT,sizeLine->PV,eval->PW,IsL->P4,wpAny_holding->P7,call->Qb,sizeLine_eq->Qd,clipAt->Qg,wpAny_mono->Qo,Scope->Qp,wpAny_standAt->Qw,mainGlobals->Qx,nsFind->Qz,intKind->QA,assign->QB,Sem->QC,wpAny_truthy_bool->QF,binaryOp->Q1,Model->Q4,FuncData->Q8,starEach->Q9,seqIndex?->Q_,Flow->Rb,pyNext->Rc,compareOp->Re,NameKind->Rh,treeTable->Rn,swapsWith->Ro,isTrue->Rp,codeAny->Rq,backTo->RD,Result->RE,Program->RF,IsPart->RO,sysModules->RQ,intKind_is->RR,call_meets->RS,builtinsNs->RT,Const->R_,CmpOp->R',valueAt->Sb,stored->Sc,seqItems?->Sd,execs->Se,bootBuiltins->Sg,Operator->Sh,DictEntry->Sx,wpAny_of_eq->Sz,wpAny_Constant_none->SA,truthy->SB,setItem->SD,mem_of_lookup->SE,markedBehindIn->SF,letOwnedTupleGo->SG,getMethod_builtin->SH,compEnvC->SI,cellsFrom->SJ,seqIndex_of->SM,PyData->SN,wpAny_typeOf->S6,wpAny_release->S7,wpAny_isTrue_BoolOp->S8,wpAny_assign_Name->S9,relabel->S',importedModules->Ta,allTrue->Tc,wpAny_seqItems->TO,wpAny_rule->TP,wpAny_operating->TQ,wpAny_newObj_type->TR,wpAny_items_cons->TS,wpAny_isTrue_Compare1->TT,wpAny_field->TU,wpAny_execs_nil->TV,wpAny_UnaryOp->TW,wpAny_Tuple->TX,wpAny_For->TY,wpAny_Compare1->TZ,wpAny_Assign_stores->T0,slot_list_getitem->T1,letTemporaryGo->T2,inplaceOp->T3,eval_Subscript->T4,closureFor->T5,call_meetsIn->T6,arm_eval_Call_Name'->T7,seqIndex_neg->T8,wpAny_storeName_local->UY,wpAny_setSeqItemAt->UZ,wpAny_sequenceKey->U0,wpAny_pyNext_list_item->U1,wpAny_pyNext_list_end->U2,wpAny_pyIter_list->U3,wpAny_letTemporaryGo->U4,wpAny_getItem_list_slice->U5,wpAny_comprehension_free->U6,wpAny_call_entry->U7,wpAny_callSpecial?_slot->U8,wpAny_allTrue_Or_cons->U9,wpAny_allTrue_And_cons->U_,wpAny_Constant_int->U',slot_list_setitem->Va,noFill_tuple_add->Vb,getattributeRaised->Vc,findBy_of_findIdx?->Vd,builtinLookup_eq_fast->Ve,UnaryOp->Vi,BoolOp->Vj
open PySem.AnswersAll renaming cons->TN,nil->WB
open PySem.Builtin.List renaming listTooLong->UV,listFitsIndex->Wt
open PySem.Builtin.Range renaming rangeSize->UU
open PySem.Builtin.Slice renaming slicePlaces->TH,sliceAdjust->UT,sliceApplied->Ws,slicePartIndex->WC,sliceFields->WD
open PySem.Env renaming kindOf->S4
open PySem.Expr renaming Name->R9
open PySem.Expr.Name renaming elim->TF
open PySem.F renaming slot_list_getattribute->UO,slot_list_extend->UP,slot_dict_get->UQ,plainAttrs_list->UR,slot_tuple_getitem->We,slot_tuple_add->Wf,slot_list_pop->Wg,slot_list_append->Wh,slot_int_rmul->Wi,slot_dict_items->Wj,plainAttrs_dict->Wk,isi_meta_tuple->Wl,isi_meta_list->Wm,entry_tuple_add->Wn,entry_list_extend->Wo,entry_dict_get->Wp,args_tuple_add_2->Wq,args_list_extend_2->Wr
open PySem.Heap renaming get?_push_size->Qu,lt_size->QV,get?_push_of_some->TB,size_push->UJ,SameBut->UK
open PySem.Obj renaming mapSeq->SO,putName->Tf
open PySem.PyData renaming keyHash->RU,eqv->Te,int->Vk,eqvAll->Vl,canLayAll0->Vm
open PySem.Str renaming ofString->Q'
open PySem.W renaming SharedT->PZ,Frag->Qa,keepIn->QG,nsIn->QO,findIn->QP,dictOf->QZ,boot_heap->Q0,looks_pair->Rd,topFrame->RB,instObj->RC,byRow2->Sf,topRun->SC,boot_toks->SK,boot_drawn->SL,topStub->S_,emptyDict->Tb,ownOf->Vf
open PySem.W.Fast renaming sDec_eq->QM,te3471404346716756564->Rz,tw14364793385576792824->Td,te18344453789297297638->TC,te17119622794617984870->TD,te10792542408131684335->TE,te14364793385576792824->T9,te6984425678791042302->UL,te5318747976498570220->UM,named_eq->UN,te821141287760084731->Vg,te3399658132070893891->Vh,te9572597257264208301->V',te8326940854005059898->Wa,te797321630700447069->Wb,te17095254045102204799->Wc,te12879404354523853263->Wd
open PySem.W.R renaming allR_eq->QQ
open PySem PySem.W PySem.Calls PyProof.Rows
noncomputable section
namespace Mine
namespace Ar
section
inductive aK where|R? (i:Nat)|H (P:Nat)|i (s F:aK)|u (s F:aK)|G (P:Nat) (F:aK)|a? (s F:aK)|w (s F:aK)|W (F:aK)|YR (F:aK)|Yx (F:aK)|B (F:aK)
inductive aV where|O? (F:Bool) (s P:aK)|K? (F:Bool) (s P:aK)|Q? (F:Bool) (s P:aK)|w (f:aV)|i (f R:aV)|B (f R:aV)|K
noncomputable def qa{a:Type}(c:a)(d:List a):Nat->a:=d.rec (λ_=>c) λe _ f b=>b.rec e λb _=>f b
def co(A:List Nat)(B:List Int)(a:aK):Nat×Int:=a.rec (λi=>(qa 0 A i,qa 0 B i)) (λb=>(b,QK b)) (λ_ _ s a=>(s.1+a.1,s.2+a.2)) (λ_ _ s a=>(s.1-a.1,s.2-a.2)) (λb _ a=>(b*a.1,QK b*a.2)) (λ_ _ s a=>(max s.1 a.1,max s.2 a.2)) (λ_ _ s a=>(P1 s.1 a.1,P1 s.2 a.2)) (λ_ a=>(0,(a.1:Int))) (λ_ a=>(a.2.toNat,0)) (λ_ a=>(a.2.natAbs,0)) (λ_ a=>(0,-a.2))
noncomputable def b0{a:Sort _}(b:Bool)(c d:a):a:=b.rec d c
def an(A:List Nat)(B:List Int)(f:aV):Prop:=f.rec (λb s a=>b0 b ((co A B s).1<=(co A B a).1) ((co A B s).2<=(co A B a).2)) (λb s a=>b0 b ((co A B s).1<(co A B a).1) ((co A B s).2<(co A B a).2)) (λb s a=>b0 b ((co A B s).1=(co A B a).1) ((co A B s).2=(co A B a).2)) (λ_ f=>¬f) (λ_ _ f c=>f/\c) (λ_ _ f c=>f\/c) False
abbrev cB:=Int×List Int
noncomputable def rn(c:List Int):List Int->List Int:=c.rec (λa=>a) λb xs d a=>a.rec (b::xs) λe f _=>(b+e)::d f
noncomputable def af(i:Int)(a:List Int):List Int:=a.rec [] λb _ c=>(i*b)::c
def ga(i:Int)(a:cB):cB:=(i*a.1,af i a.2)
def bu(a b:cB):cB:=(a.1+b.1,rn a.2 b.2)
def c_(a b:cB):cB:=bu a (ga (-1) b)
noncomputable def gf(i:Int):cB:=(i,[])
noncomputable def xW(a:Nat):List Int:=a.rec [1] λ_ b=>0::b
def ia(a:Bool)(i:Nat):Nat:=i.rec (b0 a 0 1) λ_ b=>b+2
abbrev gs:=List (List cB×cB)
noncomputable def l3(f:cB->gs)(b:gs):gs:=b.rec [] λC _ c=>(f C.2).rec c λa _ d=>(a.1++C.1,a.2)::d
def jG(f:cB->cB->gs)(b c:gs):gs:=b.rec [] λC _ d=>(l3 (f C.2) c).rec d λa _ e=>(a.1++C.1,a.2)::e
def lg(b:aK):Bool->gs:=b.rec (λi a=>[([],(0,xW (ia a i)))]) (λd _=>[([],gf (QK d))]) (λ_ _ s b a=>jG (λC c=>[([],bu C c)]) (s a) (b a)) (λ_ _ s b a=>jG (λC c=>b0 a [([c_ C c],c_ C c),([c_ c C],gf 0)] [([],c_ C c)]) (s a) (b a)) (λd _ b a=>l3 (λC=>[([],ga (QK d) C)]) (b a)) (λ_ _ s b a=>jG (λC c=>[([c_ C c],C),([c_ c C],c)]) (s a) (b a)) (λ_ _ s b a=>jG (λC c=>[([c_ C c],c),([c_ c C],C)]) (s a) (b a)) (λ_ b a=>b0 a [([],gf 0)] (b L)) (λ_ b a=>b0 a (l3 (λC=>[([C],C),([ga (-1) C],gf 0)]) (b J)) [([],gf 0)]) (λ_ b a=>b0 a (l3 (λC=>[([C],C),([ga (-1) C],ga (-1) C)]) (b J)) [([],gf 0)]) (λ_ b a=>b0 a [([],gf 0)] (l3 (λC=>[([],ga (-1) C)]) (b J)))
def rk(f:List cB->Bool)(a:gs):Bool:=a.rec L λC _ b=>b0 (f (C.2::C.1)) b J
def a4(f:aV):Bool->(List cB->Bool)->Bool:=f.rec (λd s e a b=>rk b (jG (λC c=>[([],b0 a (c_ c C) (c_ (c_ C c) (gf 1)))]) (lg s d) (lg e d))) (λd s e a b=>rk b (jG (λC c=>[([],b0 a (c_ (c_ c C) (gf 1)) (c_ C c))]) (lg s d) (lg e d))) (λd s e a b=>rk b (jG (λC c=>b0 a [([c_ C c],c_ c C)] [([],c_ (c_ c C) (gf 1)),([],c_ (c_ C c) (gf 1))]) (lg s d) (lg e d))) (λ_ f a b=>f (!a) b) (λ_ _ f g a b=>b0 a (f a λh=>g a λi=>b (h++i)) (b0 (f a b) (g a b) J)) (λ_ _ f g a b=>b0 a (b0 (f a b) (g a b) J) (f a λh=>g a λi=>b (h++i))) (λa b=>b0 a L (b []))
noncomputable def eu(a:cB):Int:=a.2.rec 0 λb _ _=>b
noncomputable def nj(a:cB):cB:=(a.1,a.2.rec [] λ_ b _=>b)
noncomputable def fm(i:Int):Bool:=i.rec (λ_=>J) λ_=>L
def bM(C a:cB):cB:=bu (ga (-(eu a)) (nj C)) (ga (eu C) (nj a))
def k7(C:cB)(c:List cB)(d:List cB):List cB:=c.rec d λa _ b=>b0 (fm (eu a)) (bM C a::b) b
def k8(b c:List cB)(d:List cB):List cB:=c.rec d λC _ a=>b0 (fm (-(eu C))) (k7 C b a) (b0 (fm (eu C)) a (nj C::a))
def qM(c:List cB):Bool:=c.rec J λa _ b=>b0 (fm a.1) (a.2.rec L λ_ _ _=>b) b
def Db(c:Nat):Bool->List cB->Bool:=c.rec (λ_ a=>qM a) λ_ d b a=>d (!b) (k8 a (b0 b ((0,[1])::a) a) [])
noncomputable def IP(a:List cB):Nat:=a.rec 0 λb _ c=>max b.2.length c
def Gm(a:List cB):Bool:=Db (IP a) L a
noncomputable def fY(a:List Int):(Nat->Int)->Int:=a.rec (λ_=>0) λb _ c C=>b*C 0+c λd=>C (d+1)
def da(C:Nat->Int)(a:cB):Int:=a.1+fY a.2 C
def eT(C:Nat->Int)(a:List cB):Prop:=a.rec True λb _ c=>0<=da C b/\c
def fX(C:Nat->Int)(b:Int->Prop)(c:gs):Prop:=c.rec False λa _ d=>(eT C a.1/\b (da C a.2))\/d
theorem MD(b:List Int):∀a C,fY (rn b a) C=fY b C+fY a C:=by induction b with
 |nil=>exactλa C=>(Q7 _).symm
 |cons c b e=>intro a C;cases a with|nil=>exact(S3 _).symm|cons d a=>show(c+d)*C 0+fY (rn b a) _=(c*C 0+fY b _)+(d*C 0+fY a _);rw[e,Int.add_mul];ac_rfl
theorem MC(i:Int)(a:List Int):∀C,fY (af i a) C=i*fY a C:=by induction a with
 |nil=>exactλC=>(Int.mul_zero _).symm
 |cons c a b=>exactλC=>(congr (congrArg _ (Int.mul_assoc ..)) (b _)).trans (S2 ..).symm
theorem ve(C a b):da C (bu a b)=da C a+da C b:=by show(a.1+b.1)+fY (rn a.2 b.2) C=(a.1+fY a.2 C)+(b.1+fY b.2 C);rw[MD];ac_rfl
theorem k2(C i a):da C (ga i a)=i*da C a:=(congrArg _ (MC i a.2 C)).trans (S2 ..).symm
theorem eP(C a b):da C (c_ a b)=da C a-da C b:=by rw[c_,ve,k2,Tw];rfl
theorem hM(C i):da C (gf i)=i:=S3 i
theorem oa(C a b)(c:eT C a)(d:eT C b):eT C (a++b):=by induction a with|nil=>exact d|cons f a e=>exact⟨c.1,e c.2⟩
theorem CT{C d f}{b c:gs}(a:(eT C f/\fX C d b)\/fX C d c):fX C d (b.rec c λe _ c=>(e.1++f,e.2)::c):=by induction b with
 |nil=>exact a.elim (λa=>a.2.elim) id
 |cons e b g=>
  rcases a with⟨h,a|a⟩|a;·exact .inl ⟨oa _ _ _ a.1 h,a.2⟩
  .exact .inr (g (.inl ⟨h,a⟩))
  .exact .inr (g (.inr a))
theorem nu{C f c d}{b:gs}(a:fX C c b)(k:∀e,c (da C e)->fX C d (f e)):fX C d (l3 f b):=by induction b with|nil=>exact a|cons h b g=>exact CT (a.imp (λa=>⟨a.1,k _ a.2⟩) g)
theorem kB{C f d e g}{b h:gs}(a:fX C d b)(j:fX C e h)(k:∀i c,d (da C i)->e (da C c)->fX C g (f i c)):fX C g (jG f b h):=by induction b with|nil=>exact a|cons n b l=>exact CT (a.imp (λa=>⟨a.1,nu j λc m=>k _ _ a.2 m⟩) l)
theorem fC{C a b}(c:a (da C b))(d:gs):fX C a (([],b)::d):=.inl ⟨trivial,c⟩
theorem u2{C a b c}(d:0<=da C c/\a (da C b))(e:gs):fX C a (([c],b)::e):=.inl ⟨⟨d.1,trivial⟩,d.2⟩
theorem nO{C b c d e f}(a:(0<=da C d/\b (da C c))\/(0<=da C f/\b (da C e))):fX C b [([d],c),([f],e)]:=a.elim (λa=>u2 a _) λa=>.inr (u2 a [])
theorem jC{a b:Int}(c:b<=a):0<=a-b:=UE c
theorem px{a b:Int}(c:b<a):0<=a-b-1:=by rw[Int.sub_sub];exact UE c
theorem lP{a b:Nat}(c:b<=a):0<=(a-b:Int):=UE (RP.mpr c)
theorem Gb(a b:Nat):(0<=(a-b:Int)/\((a-b:Nat):Int)=a-b)\/(0<=(b-a:Int)/\((a-b:Nat):Int)=0):=(RX b a).elim (λc=>.inl ⟨lP c,Int.ofNat_sub c⟩) (λc=>.inr ⟨lP c,congrArg QK (Ua c)⟩)
theorem EY(a b:Int):(0<=a-b/\max a b=a)\/(0<=b-a/\max a b=b):=(Tx b a).elim (λc=>.inl ⟨jC c,V5 c⟩) (λc=>.inr ⟨jC c,UH c⟩)
theorem EX(a b:Nat):(0<=(a-b:Int)/\((max a b:Nat):Int)=a)\/(0<=(b-a:Int)/\((max a b:Nat):Int)=b):=(RX b a).elim (λc=>.inl ⟨lP c,congrArg QK (Nat.max_eq_left c)⟩) (λc=>.inr ⟨lP c,congrArg QK (Nat.max_eq_right c)⟩)
theorem IN(a b:Int):(0<=a-b/\P1 a b=b)\/(0<=b-a/\P1 a b=a):=(Tx b a).elim (λc=>.inl ⟨jC c,Int.min_eq_right c⟩) (λc=>.inr ⟨jC c,V4 c⟩)
theorem IM(a b:Nat):(0<=(a-b:Int)/\((P1 a b:Nat):Int)=b)\/(0<=(b-a:Int)/\((P1 a b:Nat):Int)=a):=(RX b a).elim (λc=>.inl ⟨lP c,congrArg QK (SR c)⟩) (λc=>.inr ⟨lP c,congrArg QK (RW c)⟩)
theorem AX{a:Int}(b:a<=0):0<=-1*a:=by rw[Tw];exact V1 b
theorem LQ(a:Int):(0<=a/\(a.toNat:Int)=a)\/(0<=-1*a/\(a.toNat:Int)=0):=(Tx 0 a).elim (λb=>.inl ⟨b,VZ b⟩) (λb=>.inr ⟨AX b,congrArg QK (Int.toNat_of_nonpos b)⟩)
theorem NH(a:Int):(0<=a/\(a.natAbs:Int)=a)\/(0<=-1*a/\(a.natAbs:Int)=-1*a):=(Tx 0 a).elim (λb=>.inl ⟨b,V3 b⟩) (λb=>.inr ⟨AX b,by rw[Tw];exact V0 b⟩)
section
variable(A:List Nat)(B:List Int)
def fk(b:Bool)(c:Nat):Bool×Nat:=c.rec (b,0) λ_ a=>(!a.1,b0 a.1 a.2 (a.2+1))
def lX(a:Nat):Int:=b0 (fk L a).1 (QK (qa 0 A (fk L a).2)) (qa 0 B (fk L a).2)
theorem F7(a i):fk L (ia a i)=(a,i):=by induction i with
 |zero=>cases a<;>rfl
 |succ i b=>show(!(!(fk L (ia a i)).1),b0 (!(fk L (ia a i)).1) (b0 (fk L (ia a i)).1 (fk L (ia a i)).2 ((fk L (ia a i)).2+1)) (b0 (fk L (ia a i)).1 (fk L (ia a i)).2 ((fk L (ia a i)).2+1)+1))=_;rw[b];cases a<;>rfl
theorem MB(a):∀C,fY (xW a) C=C a:=by induction a with
 |zero=>exactλC=>(S3 _).trans (Int.one_mul _)
 |succ a b=>exactλC=>(congrArg (·+_) (UB _)).trans ((Q7 _).trans (b _))
def gR(b:Bool)(a:aK):Int:=b0 b ((co A B a).1:Int) (co A B a).2
theorem Pe{a b c:Int}(d:(0<=a-b/\a=c)\/(0<=b-a/\b=c)):(0<=a-b/\a=c)\/(0<=b-a/\b=c):=d
theorem mr(d:aK):∀a,fX (lX A B) (Eq (gR A B a d)) (lg d a):=by induction d with
 |R? i=>refineλa=>fC (((Q7 _).trans ((MB _ _).trans ?_)).symm) _;unfold lX;rw[F7];cases a<;>rfl
 |H k=>exactλa=>fC ((hM _ _).trans (by cases a<;>rfl)).symm _
 |i s d g b=>refineλa=>kB (g a) (b a) λh j c f=>fC ?_ _;rw[ve,<-c,<-f];cases a<;>rfl
 |u s d g b=>refineλa=>kB (f:=λC e=>b0 a [([c_ C e],c_ C e),([c_ e C],gf 0)] [([],c_ C e)]) (g a) (b a) λh j c f=>?_;cases a with|false=>exact fC (by rw[eP,<-c,<-f];rfl) _|true=>exact nO (by rw[eP,eP,hM,<-c,<-f];exact Gb _ _)
 |G k d b=>refineλa=>nu (f:=λC=>[([],ga (QK k) C)]) (b a) λh c=>fC ?_ _;rw[k2,<-c];cases a<;>rfl
 |a? s d g b=>
  refineλa=>kB (f:=λC e=>[([c_ C e],C),([c_ e C],e)]) (g a) (b a) λh j c f=>nO ?_;rw[eP,eP,<-c,<-f];cases a;·exact EY _ _
  .exact EX _ _
 |w s d g b=>
  refineλa=>kB (f:=λC e=>[([c_ C e],e),([c_ e C],C)]) (g a) (b a) λh j c f=>nO ?_;rw[eP,eP,<-c,<-f];cases a;·exact IN _ _
  .exact IM _ _
 |W d b=>intro a;cases a with|false=>exact b L|true=>exact fC (hM _ _).symm _
 |YR d b=>intro a;cases a with|false=>exact fC (hM _ _).symm _|true=>exact nu (f:=λC=>[([C],C),([ga (-1) C],gf 0)]) (b J) λh c=>nO (by rw[k2,hM,<-c];exact LQ _)
 |Yx d b=>intro a;cases a with|false=>exact fC (hM _ _).symm _|true=>exact nu (f:=λC=>[([C],C),([ga (-1) C],ga (-1) C)]) (b J) λh c=>nO (by rw[k2,<-c];exact NH _)
 |B d b=>intro a;cases a with|true=>exact fC (hM _ _).symm _|false=>exact nu (f:=λC=>[([],ga (-1) C)]) (b J) λh c=>fC (by rw[k2,<-c];exact(Tw _).symm) _
theorem l0{a b:Bool}(c:b0 a b J=L):a=L/\b=L:=by cases a with
 |false=>exact nomatch c
 |true=>exact⟨rfl,c⟩
theorem v0{C b c}(a:fX C (LE.le 0) b)(d:rk c b=L):∃e,eT C e/\c e=L:=by induction b with|nil=>exact a.elim|cons f b g=>exact a.elim (λa=>⟨f.2::f.1,⟨a.2,a.1⟩,(l0 d).1⟩) λa=>g a (l0 d).2
theorem N_{a s b}(c:b0 a ((co A B s).1<=(co A B b).1) ((co A B s).2<=(co A B b).2)):gR A B a s<=gR A B a b:=by cases a with|true=>exact RP.mpr c|false=>exact c
theorem N9{a s b}(c:b0 a ((co A B s).1<(co A B b).1) ((co A B s).2<(co A B b).2)):gR A B a s<gR A B a b:=by cases a with|true=>exact UF.mpr c|false=>exact c
theorem ED{a s b}(c:b0 a ((co A B s).1=(co A B b).1) ((co A B s).2=(co A B b).2)):gR A B a s=gR A B a b:=by cases a with|true=>exact congrArg QK c|false=>exact c
theorem N7{a s b}(d:¬b0 a ((co A B s).1<=(co A B b).1) ((co A B s).2<=(co A B b).2)):¬gR A B a s<=gR A B a b:=λc=>d (by cases a with|true=>exact RP.mp c|false=>exact c)
theorem N6{a s b}(d:¬b0 a ((co A B s).1<(co A B b).1) ((co A B s).2<(co A B b).2)):¬gR A B a s<gR A B a b:=λc=>d (by cases a with|true=>exact UF.mp c|false=>exact c)
theorem N8{a s b}(d:¬b0 a ((co A B s).1=(co A B b).1) ((co A B s).2=(co A B b).2)):¬gR A B a s=gR A B a b:=λc=>d (by cases a with|true=>exact Int.ofNat.inj c|false=>exact c)
theorem EL(f:aV):∀c d,a4 f c d=L->b0 c (an A B f) (¬an A B f)->∃k,eT (lX A B) k/\d k=L:=by induction f with
 |O? e s h=>refineλc d b a=>v0 (kB (mr A B s e) (mr A B h e) λn o f g=>?_) b;cases c with|true=>exact fC (by rw[b0,eP,<-f,<-g];exact jC (N_ A B a)) _|false=>exact fC (by rw[b0,eP,eP,hM,<-f,<-g];exact px (Int.not_le.mp (N7 A B a))) _
 |K? e s h=>refineλc d b a=>v0 (kB (mr A B s e) (mr A B h e) λn o f g=>?_) b;cases c with|true=>exact fC (by rw[b0,eP,eP,hM,<-f,<-g];exact px (N9 A B a)) _|false=>exact fC (by rw[b0,eP,<-f,<-g];exact jC (R7.mp (N6 A B a))) _
 |Q? e s h=>refineλc d b a=>v0 (kB (mr A B s e) (mr A B h e) λn o f g=>?_) b;cases c with
  |true=>exact u2 (by rw[eP,eP,<-f,<-g];exact⟨jC (R8 (ED A B a).symm),jC (R8 (ED A B a))⟩) _
  |false=>
   have:=N8 A B a;rcases Int.lt_or_gt_of_ne this with a|a;·exact fC (by rw[eP,eP,hM,<-f,<-g];exact px a) _
   .exact .inr (fC (by rw[eP,eP,hM,<-f,<-g];exact px a) [])
 |w f p=>refineλc d b a=>p (!c) d b ?_;cases c with|true=>exact a|false=>exact Classical.not_not.mp a
 |i f g i j=>intro c d b a;cases c with
  |true=>obtain⟨k,l,b⟩:=i L _ b a.1;obtain⟨q,e,b⟩:=j L _ b a.2;exact⟨_,oa _ _ _ l e,b⟩
  |false=>exact(Classical.not_and_iff_not_or_not.mp a).elim (i J d (l0 b).1) (j J d (l0 b).2)
 |B f g i j=>intro c d b a;cases c with|true=>exact a.elim (i L d (l0 b).1) (j L d (l0 b).2)|false=>obtain⟨k,l,b⟩:=i J _ b λm=>a (.inl m);obtain⟨q,e,b⟩:=j J _ b λm=>a (.inr m);exact⟨_,oa _ _ _ l e,b⟩
 |K=>intro c d b a;cases c with|true=>exact a.elim|false=>exact⟨[],trivial,b⟩
end
theorem EW(a b c:Int):b+c=-a+b+(a+c):=by rw[Int.add_comm (-a) b,V_ b,<-V_ (-a),Int.add_left_neg,Q7]
theorem ue{i:Int}(b:fm i=L):i<0:=by cases i with
 |ofNat a=>cases b
 |negSucc a=>exact Int.negSucc_lt_zero a
theorem AS{i:Int}(b:fm i=J):0<=i:=by cases i with|ofNat a=>exact Ss a|negSucc a=>cases b
section
variable{C:Nat->Int}
theorem vd(a:cB):da C a=eu a*C 0+da (λd=>C (d+1)) (nj a):=by obtain⟨b,a⟩:=a;cases a with|nil=>show _=0*C 0+_;rw[UB,Q7];rfl|cons c a=>show b+(c*C 0+fY a _)=c*C 0+(b+fY a _);ac_rfl
theorem M5{a b:cB}(d:0<=da C a)(e:0<=da C b)(f:fm (-(eu a))=L)(g:fm (eu b)=L):0<=da (λc=>C (c+1)) (bM a b):=by
 have h:da (λc=>C (c+1)) (bM a b)=-(eu b)*da C a+eu a*da C b:=by rw[bM,ve,k2,k2,vd a,vd b,S2,S2,Int.neg_mul,Int.neg_mul,Int.mul_left_comm (eu a) (eu b)];exact EW _ _ _
 rw[h];exact V9 (UG (V1 (Sv (ue g))) d) (UG (Sv (Int.neg_neg_iff_pos.mp (ue f))) e)
theorem Nn{a:cB}{b c}(h:0<=da C a)(i:fm (-(eu a))=L)(d:eT C b)(j:eT (λe=>C (e+1)) c):eT (λe=>C (e+1)) (k7 a b c):=by induction b with|nil=>exact j|cons f b g=>show eT _ (b0 (fm (eu f)) (bM a f::k7 a b c) (k7 a b c));cases k:fm (eu f)with|true=>exact⟨M5 h d.1 i k,g d.2⟩|false=>exact g d.2
theorem No{c b d}(i:eT C c)(e:eT C b)(j:eT (λf=>C (f+1)) d):eT (λf=>C (f+1)) (k8 c b d):=by induction b with|nil=>exact j|cons a b g=>show eT _ (b0 (fm (-(eu a))) (k7 a c (k8 c b d)) (b0 (fm (eu a)) (k8 c b d) (nj a::k8 c b d)));cases h:fm (-(eu a))with|true=>exact Nn e.1 h i (g e.2)|false=>cases k:fm (eu a)with|true=>exact g e.2|false=>have:eu a=0:=Int.le_antisymm (Int.nonpos_of_neg_nonneg (AS h)) (AS k);refine⟨?_,g e.2⟩;have:=vd (C:=C) a;rw[‹eu a=0›,UB,Q7]at this;rw[<-this];exact e.1
theorem ME{b}(d:eT C b)(a:qM b=L):False:=by induction b with
 |nil=>cases a
 |cons c b f=>have a:b0 (fm c.1) (c.2.rec L λ_ _ _=>qM b) (qM b)=L:=a;cases e:fm c.1 with|false=>rw[e]at a;exact f d.2 a|true=>rw[e]at a;obtain⟨h,g⟩:=c;cases g with|nil=>have:0<=h+0:=d.1;rw[S3]at this;exact R7.mpr this (ue e)|cons i g=>exact f d.2 a
theorem Mg(d:Nat):∀(C:Nat->Int) a f,eT C f->(∀b,(fk a b).1=L->0<=C b)->Db d a f=L->False:=by induction d with
 |zero=>exactλC a f e _ c=>ME e c
 |succ d g=>
  refineλC a f e h c=>g (λd=>C (d+1)) (!a) _ (No (d:=[]) e ?_ trivial) (λb c=>h (b+1) ?_) c;·cases a with|true=>exact⟨by have:=h 0 rfl;show 0<=0+(1*C 0+0);rw[Q7,S3,Int.one_mul];exact this,e⟩|false=>exact e
  .rw[<-c];show(!(fk a b).1)=_;clear c;induction b with|zero=>rfl|succ b g=>show(!(!(fk a b).1))=!((fk (!a) b).1);rw[g]
end
theorem Gl(A B)(a)(b:(fk L a).1=L):0<=lX A B a:=by unfold lX;rw[b];exact Ss _
def db(c:List aV)(d:aV):List cB->Bool:=c.rec (λa=>a4 d J λb=>Gm (a++b)) λf _ e a=>a4 f L λb=>e (a++b)
section
variable(A:List Nat)(B:List Int)
noncomputable def Ox(a:List aV)(b:aV):Prop:=a.rec (an A B b) λf _ c=>an A B f->c
theorem k'{a:List aV}{c:aV}:∀b,eT (lX A B) b->db a c b=L->Ox A B a c:=by induction a with
 |nil=>exactλb d e=>US λi=>by obtain⟨j,g,h⟩:=EL A B c J _ e i;exact Mg _ _ L _ (oa _ _ _ d g) (Gl A B) h
 |cons f a k=>exactλb d e C=>by obtain⟨j,g,h⟩:=EL A B f L _ e C;exact k _ (oa _ _ _ d g) h
theorem dW(a:aV)(b:db [] a []=L):an A B a:=k' A B [] trivial b
theorem dC(a b:aV)(c:db [a] b []=L):an A B a->an A B b:=k' A B [] trivial c
theorem cT(a b c:aV)(d:db [a,b] c []=L):an A B a->an A B b->an A B c:=k' A B [] trivial d
theorem dc(a b c d:aV)(e:db [a,b,c] d []=L):an A B a->an A B b->an A B c->an A B d:=k' A B [] trivial e
theorem d3(a b c d e:aV)(f:db [a,b,c,d] e []=L):an A B a->an A B b->an A B c->an A B d->an A B e:=k' A B [] trivial f
theorem lc(a b c d e f:aV)(g:db [a,b,c,d,e] f []=L):an A B a->an A B b->an A B c->an A B d->an A B e->an A B f:=k' A B [] trivial g
theorem ro(a b c d e f g:aV)(h:db [a,b,c,d,e,f] g []=L):an A B a->an A B b->an A B c->an A B d->an A B e->an A B f->an A B g:=k' A B [] trivial h
end
end
end Ar
section
open Ar (aK aV)
noncomputable def ai:=@aV.O? L
noncomputable def aq:=@aV.O? J
noncomputable def a8:=@aV.K? L
noncomputable def a3:=@aV.K? J
noncomputable def a9:=@aV.Q? L
noncomputable def aT:=@aV.Q? J
noncomputable def lO:=@aK.R?
noncomputable def bP:=@aK.H
noncomputable def br:=@aK.i
noncomputable def fj:=@aK.u
noncomputable def s8:=@aK.G
noncomputable def xC:=@aK.a?
noncomputable def s7:=@aK.w
noncomputable def hr:=@aK.W
noncomputable def nc:=@aK.YR
noncomputable def EV:=@aK.Yx
noncomputable def s6:=@aK.B
noncomputable def jB:=@aV.w
noncomputable def dQ:=@aV.i
noncomputable def f8:=@aV.B
def aX:=bP 0
def aG:=bP 1
def o0:=bP 10
def c7:=bP 100
def gZ:=bP 1000
def rK:=bP 10000
def cQ:=bP 100000
def wi:=bP 1000000
def cP:=bP 10000000
def na:=bP 1000000000
def iQ:=bP 1073741823
def jz:=bP 11
def jx:=bP 128
def m6:=bP 16
def jv:=bP 16777216
def sV:=bP 18446744073709551616
def cD:=bP 2
def m3:=bP 200
def sM:=bP 210
def pl:=bP 2147483629
def lJ:=bP 2147483647
def sH:=bP 230
def mX:=bP 255
def c1:=bP 3
def pa:=bP 300
def lE:=bP 310
def sq:=bP 320
def cj:=bP 4
def mQ:=bP 40
def sh:=bP 400
def oW:=bP 41
def mM:=bP 46
def f3:=bP 4611686018427387904
def ft:=bP 5
def hm:=bP 6
def jn:=bP 60
def hl:=bP 63
def iH:=bP 65
def hj:=bP 7
def gu:=bP 8
def rU:=bP 80000
def oC:=bP 8000000
def iF:=bP 9
def lr:=bP 90
def rL:=bP 90000
def f2:=bP 9223372036854775808
def hi:=bP 97
def mE:=bP 98
def oz:=bP 99
def wl:=bP 9999999
def ag:=lO 0
def ap:=lO 1
def av:=lO 2
def bj:=lO 3
def cR:=lO 4
def fs:=lO 5
def ey:=aT ag aX
def lq:=aT ag aG
def kf:=aT ag jx
def lp:=aT ag cD
def iE:=aT ag mX
def ln:=aT ag c1
def wk:=aT ag (.H 33)
def rJ:=aT ag cj
def oy:=aT ag (.H 45)
def rI:=aT ag ft
def rH:=aT ag hm
def rG:=aT ag iH
def rF:=aT ag hj
def ox:=aT ag hi
def ow:=aT ag mE
def ov:=aT ag oz
def wj:=aT ap (.H 256)
def jk:=a9 ag aX
def bX:=a9 ag ap
def mD:=a9 ap ag
def ou:=a9 ap av
def ot:=a9 av ag
def lm:=a9 av bj
def oq:=a9 bj aX
def ke:=aq aX aX
def bl:=aq aX ag
def iD:=aq aX ap
def mC:=aq aG aX
def rE:=aq aG aG
def rD:=aq aG c1
def bL:=aq aG ag
def hh:=aq aG ap
def kd:=aq jx ag
def h4:=aq hi ag
def rC:=aq ag aX
def jj:=aq ag c7
def rB:=aq ag gZ
def rA:=aq ag wi
def kc:=aq ag jx
def h3:=aq ag cD
def ll:=aq ag mX
def eo:=aq ag c1
def op:=aq ag ft
def m':=aq ag (.H 59)
def s5:=aq ag hm
def s4:=aq ag (.H 900)
def cJ:=aq ag ap
def m_:=aq ap ft
def pv:=aq ap ag
def pu:=aq av ag
def fQ:=ai aG ag
def s3:=ai aG av
def m9:=ai ag aX
def m8:=ai ag aG
def eG:=ai ag c7
def dP:=ai ag gZ
def ky:=ai ag cQ
def dm:=ai ag cP
def jA:=ai ag jv
def kx:=ai ag cD
def pt:=ai ag (.H 2000)
def kw:=ai ag sH
def fi:=ai ag c1
def xB:=ai ag (.H 3000)
def g1:=ai ag cj
def ps:=ai ag hm
def pr:=ai ag hl
def dD:=ai ag hj
def m7:=ai ag gu
def jy:=ai ag rU
def f7:=ai ag iF
def eY:=ai ag lr
def pq:=ai ag rL
def xA:=ai ag (.H 91)
def xz:=ai ag (.H 9999998)
def a_:=ai ag ap
def kv:=ai ag av
def lN:=ai ap aG
def s2:=ai ap c7
def iP:=ai ap gZ
def h_:=ai ap cP
def xy:=ai ap (.H 2000)
def ku:=ai ap c1
def fP:=ai ap ag
def jw:=ai ap av
def pp:=ai av c7
def s1:=ai av gZ
def s0:=ai av cQ
def xx:=ai av (.H 3000)
def xw:=ai av (.H 88)
def m5:=ai av ag
def kt:=ai av ap
def sZ:=ai av bj
def sY:=a3 aX cD
def fv:=a3 aX ag
def po:=a3 jx ag
def hq:=a3 ag aX
def ks:=a3 ag jx
def ju:=a3 ag cD
def fu:=a3 ag c1
def sX:=a3 ag ft
def sW:=a3 ag hm
def dk:=a3 ag ap
def hp:=a3 ap ag
def sU:=a8 ag aX
def bA:=a8 ag ap
def ho:=a8 ag av
def sT:=a8 ap av
def h9:=br aX aG
def sS:=br aX mQ
def d9:=br aG ag
def pn:=br aG ap
def sR:=br jv aG
def sQ:=br pa aG
def sP:=br lE aG
def bk:=br ag aG
def jt:=br ag cD
def xv:=br ag (.H 32)
def d8:=br ag ap
def js:=br ag av
def m4:=br ag bj
def cv:=br ap aG
def g0:=br ap cD
def lM:=br ap ag
def fO:=br ap av
def h8:=br av aG
def jr:=br av ag
def kr:=br av bj
def m2:=br bj aG
def sO:=br bj cD
def m1:=br cR aG
def sN:=EV ag
def pm:=hr aX
def bm:=hr ag
def cS:=hr ap
def fh:=hr av
def kq:=hr bj
def m0:=hr cR
def fN:=nc ag
def jq:=nc ap
def mZ:=s8 2 ap
def kp:=s8 3 ap
def xu:=s8 4000 ap
def jp:=s7 ap ag
def lL:=s6 aG
def jo:=s6 iQ
def gx:=s6 f3
def pk:=fj cj ap
def f6:=fj ag aG
def f5:=fj ag ap
def pj:=fj ag av
def lK:=fj ap aG
def fg:=fj ap ag
def gw:=fj ap av
def ph:=fj ap bj
def sL:=fj av ag
def pg:=fj av ap
def sK:=fj av bj
def pf:=xC ag ap
def sJ:=dQ ke (aq aX mX)
def sI:=dQ ke (aq aX c1)
def xt:=dQ ke (aq aX ft)
def gv:=dQ bl ll
def xr:=dQ bl (aq ag gu)
def xq:=dQ rE (aq aG c7)
def lI:=dQ (aq aG cD) (aq cD c7)
def iO:=dQ rD (aq c1 c7)
def mY:=dQ (aq aG cj) (aq cj c7)
def xp:=dQ (aq aG ft) (aq ft c7)
def xo:=dQ (aq aG hm) (aq hm c7)
def xn:=dQ (aq aG iF) (aq iF c7)
def xm:=dQ bL (aq ag hl)
def sG:=dQ h4 jj
def sF:=aT bm aX
def ko:=aT bm ap
def sE:=aT cS ap
def iN:=a9 ag cv
def mW:=a9 ag fN
def sD:=a9 av bk
def sC:=aq d9 c1
def sB:=aq bk jn
def sA:=aq bk ap
def pe:=aq bm (.i cD ag)
def pd:=aq bm cS
def mV:=aq bm ag
def mU:=aq aX bm
def pc:=aq aG d9
def lH:=aq ag cv
def xl:=aq ag (.i ap cj)
def lG:=aq ag bm
def lF:=aq ag (.a? ap av)
def sz:=aq ag (.a? av ap)
def pb:=ai d9 cP
def xk:=ai (.i m3 aG) cQ
def hn:=ai bk cv
def mT:=ai bk cj
def fM:=ai bk ap
def sy:=ai (.i ag cj) ap
def o':=ai d8 cP
def iM:=ai d8 av
def sx:=ai lM cP
def o_:=ai jr cP
def sw:=ai ag d8
def iL:=ai ag cv
def sv:=ai ag g0
def su:=ai ag fO
def o9:=ai ag (.w ap av)
def ss:=ai ag lK
def o8:=ai ap h8
def o7:=ai ap (.G 2 cj)
def sr:=ai av (.i ap bj)
def xj:=ai av (.G 4000 bj)
def xi:=ai bj (.G 300 cR)
def xh:=ai bj (.G 4000 cR)
def xg:=ai cR (.i ag fs)
def mS:=jB ey
def kn:=jB bl
def o6:=jB hq
def f4:=jB bA
def o5:=jB ho
def sp:=f8 ey lq
def lD:=f8 ey kf
def mR:=f8 (aT ap aX) pv
def so:=f8 cJ (aq ag av)
def eX:=a3 bm cS
def sn:=a3 bm fh
def xf:=a3 m0 (.W fs)
def o4:=a3 aX bm
def xe:=a3 ag (.i hi cj)
def iK:=a3 ag bm
def o3:=a3 ap d9
def o2:=a8 bk cv
def lC:=a8 (.i ap sh) av
def iJ:=a8 sN f2
def sm:=a8 (.Yx ap) f2
def km:=a8 fN ag
def sl:=a8 ag bk
def kl:=a8 ag cv
def sk:=a8 ag g0
def sj:=a8 ag (.w ap av)
def si:=br (.i m3 aG) aG
def h7:=br bk ap
def o1:=br jt kp
def oZ:=br (.i ag c1) kp
def sg:=br xv aG
def xd:=br (.i ag cj) kp
def mP:=br d8 aG
def oY:=br d8 av
def oX:=br (.i bj ag) av
def kk:=br bm cS
def fL:=br bm aG
def mO:=br bm ag
def lB:=br cS aG
def sf:=br jq aG
def xc:=br (.H 300000) (.G 1000 ag)
def xb:=br (.G 256 ag) ap
def xa:=br (.G 4 av) gu
def w':=br (.G 8 ag) m6
def se:=br (.G 8 av) m6
def oV:=br f6 aG
def iI:=br ag cv
def lA:=br ag fO
def mN:=br ag bm
def sd:=br ag fN
def sc:=br ap bm
def h6:=hr bk
def oU:=hr jt
def sb:=hr d8
def oT:=hr (.w ag ap)
def mL:=nc f5
def sa:=nc fg
def oS:=s7 gw bj
def lz:=s7 ap sK
def kj:=fj bm aG
def mK:=fj cj cv
def r':=fj f5 av
def r_:=fj ag cv
def r9:=fj ag sK
def ly:=fj ap bk
def oR:=dQ kf (.i iD (aq ap cD))
def w_:=dQ bl (a3 ag cv)
def oQ:=dQ pc sC
def w9:=dQ (aq jo aX) (aq aX iQ)
def oP:=dQ (aq gx d9) (a3 d9 f3)
def w8:=dQ (aq gx bm) (a3 bm f3)
def r8:=dQ (aq gx ag) (a3 ag f3)
def r7:=dQ (aq (.B f2) ag) (a3 ag f2)
def w7:=dQ (ai jr ap) sZ
def oO:=aT kk sb
def ki:=aT fL h6
def w6:=aT kj (.W f6)
def w5:=aT (.u cS bm) (.W fg)
def oN:=aT (.u fh bm) (.W sL)
def w4:=aT (.u ag cS) bm
def mJ:=a9 h7 av
def lx:=a9 iI av
def lw:=a9 mL bk
def oM:=a9 mL aX
def w3:=a9 (.YR gw) aX
def r6:=a9 aX (.i ap js)
def oL:=a9 (.w pj gw) pj
def lv:=a9 (.u d8 ag) ap
def kh:=a9 ag (.i fO bj)
def w2:=a9 ag (.YR d9)
def w1:=a9 ap (.i js bj)
def w0:=a9 av (.i cv bj)
def r5:=aq aX mN
def wZ:=aq (.B bm) ag
def wY:=aq (.u bk fh) cS
def wX:=aq ag (.u bm ap)
def wW:=aq ap (.i av bm)
def wV:=ai (.i h9 ag) cP
def wU:=ai (.i jp h9) cP
def oK:=ai lA hl
def wT:=ai (.i bj sL) cP
def wS:=ai (.YR (.u ag aX)) cP
def wR:=ai ag (.i ag mZ)
def wQ:=ai ag (.i ap h8)
def r4:=ai ag lz
def hk:=ai ap w'
def wP:=ai av (.w fg bj)
def wO:=jB (aq aX lL)
def wN:=jB (.B hq wj)
def jm:=jB eX
def r3:=f8 (aT hi iH) (.i (aq hi hi) (aq hi c7))
def wM:=f8 ey (.B lq lp)
def wL:=f8 lq (.B lp ln)
def r2:=f8 (aT ap aX) (aq ap d9)
def r1:=a3 bm (.u cS fh)
def r0:=a3 bm (.u fh kq)
def oJ:=a8 (.i cv (.w bj ag)) av
def wK:=a8 (.i ap (.w bj ag)) av
def wJ:=a8 (.Yx bk) f2
def mI:=a8 (.u lK ag) ap
def jl:=a8 ly fg
def rZ:=a8 ag mL
def iG:=a8 ag oS
def oI:=br (.i ag kp) cD
def wI:=br (.i av (.G 3 ag)) cD
def rY:=br oU aG
def rX:=br aG (.G 4 bm)
def oH:=br (.u bm ag) aG
def lu:=br (.u bm ap) aG
def oG:=br ag (.G 10 fN)
def oF:=br ag (.G 10 jq)
def h5:=br ag (.G 20 fN)
def ls:=br ag (.G 20 jq)
def wH:=br ap (.G 10 fN)
def oE:=br ap (.G 20 jq)
def wG:=br ap (.G 8 (.u cj ag))
def kg:=hr mL
def rW:=xC aG (.w cD bm)
def rV:=dQ (aq gx fL) (a3 fL f3)
def rT:=aT (.i mN cS) (.i ag kk)
def wF:=aT (.u cS h6) (.W ly)
def oD:=aT (.u (.u cS aG) bm) (.W (.u lK ag))
def wE:=aT ag (.u kk fh)
def rS:=a9 (.YR r_) ag
def wD:=a9 fg (.i ly aG)
def wC:=ai (.i si aG) sM
def wB:=ai (.i (.i bk kp) aG) o1
def rR:=ai oI aX
def wA:=ai (.i (.i ag (.G 3 av)) cD) (.i (.G 4 ap) gu)
def wz:=ai (.w r' (.u bj av)) cP
def rQ:=f8 ox (.B ow (.B ov oy))
def wy:=a3 ap (.i (.u bm av) aG)
def wx:=a8 (.YR mN) ag
def rP:=br h5 aG
def rO:=br h5 (.H 12)
def ww:=br h5 (.H 14)
def wv:=br ls (.H 12)
def rN:=br (.W (.w f5 av)) aG
def wu:=br (.u oU cS) aG
def wt:=br ag (.G 8 mK)
def ws:=br ag (.u av (.u av fg))
def wr:=dQ (aq gx oH) (a3 oH f3)
def wq:=aT (.i ag (.W sa)) ap
def wp:=ai (.YR (.u fL aX)) cP
def rM:=f8 ox (.B ow (.B ov (.B oy (aT ag (.H 256)))))
def oB:=f8 ox (.B ow (.B ov (.B oy wk)))
def wo:=br (.i ap (.G 8 (.u cj bk))) aG
def mH:=nc (.u lu ag)
def oA:=ai (.i (.i h5 jz) aG) rO
def mG:=f8 ey (.B lq (.B lp (.B ln (.B rI (.B rH (.B rF (aT ag jz)))))))
def wn:=f8 oR (.i mG (.i hh (aq ap c1)))
def mF:=f8 ox (.B ow (.B ov (.B (aT ag c7) (.B rG (.B oy (.B (aT ag mM) (.B (aT ag mQ) wL)))))))
def wm:=br (.i (.i (.i (.i (.i (.i (.i (.i (.i h9 aG) aG) aG) aG) aG) aG) aG) aG) aG) aG
theorem b5{b:Nat}(a:aV)(c:Ar.db [] a []=L):Ar.an [b] [] a:=Ar.dW [b] [] a c
theorem gY{b:Nat}{c:Int}(a:aV)(d:Ar.db [] a []=L):Ar.an [b] [c] a:=Ar.dW [b] [c] a d
theorem b4{b c:Nat}(a:aV)(d:Ar.db [] a []=L):Ar.an [b,c] [] a:=Ar.dW [b,c] [] a d
theorem aR(a:aV)(b:Ar.db [] a []=L):Ar.an [] [] a:=Ar.dW [] [] a b
theorem bg{a:Int}(f b:aV)(c:Ar.db [f] b []=L):Ar.an [] [a] f->Ar.an [] [a] b:=Ar.dC [] [a] f b c
theorem gX{a:Nat}{b c:Int}(f d:aV)(e:Ar.db [f] d []=L):Ar.an [a] [b,c] f->Ar.an [a] [b,c] d:=Ar.dC [a] [b,c] f d e
theorem ff{a b c d:Nat}(f e:aV)(g:Ar.db [f] e []=L):Ar.an [a,b,c,d] [] f->Ar.an [a,b,c,d] [] e:=Ar.dC [a,b,c,d] [] f e g
theorem fK{a:Nat}{b:Int}(f c:aV)(d:Ar.db [f] c []=L):Ar.an [a] [b] f->Ar.an [a] [b] c:=Ar.dC [a] [b] f c d
theorem hg{a b c:Int}(f d:aV)(e:Ar.db [f] d []=L):Ar.an [] [a,b,c] f->Ar.an [] [a,b,c] d:=Ar.dC [] [a,b,c] f d e
theorem aQ{a b:Nat}(f c:aV)(d:Ar.db [f] c []=L):Ar.an [a,b] [] f->Ar.an [a,b] [] c:=Ar.dC [a,b] [] f c d
theorem bO{a b c:Nat}(f d:aV)(e:Ar.db [f] d []=L):Ar.an [a,b,c] [] f->Ar.an [a,b,c] [] d:=Ar.dC [a,b,c] [] f d e
theorem dO{a b:Int}(f c:aV)(d:Ar.db [f] c []=L):Ar.an [] [a,b] f->Ar.an [] [a,b] c:=Ar.dC [] [a,b] f c d
theorem a7{a:Nat}(f b:aV)(c:Ar.db [f] b []=L):Ar.an [a] [] f->Ar.an [a] [] b:=Ar.dC [a] [] f b c
theorem bx{a:Int}(f b c:aV)(d:Ar.db [f,b] c []=L):Ar.an [] [a] f->Ar.an [] [a] b->Ar.an [] [a] c:=Ar.cT [] [a] f b c d
theorem dd{a b c d:Nat}(f e g:aV)(h:Ar.db [f,e] g []=L):Ar.an [a,b,c,d] [] f->Ar.an [a,b,c,d] [] e->Ar.an [a,b,c,d] [] g:=Ar.cT [a,b,c,d] [] f e g h
theorem fr{a:Nat}{b:Int}(f c d:aV)(e:Ar.db [f,c] d []=L):Ar.an [a] [b] f->Ar.an [a] [b] c->Ar.an [a] [b] d:=Ar.cT [a] [b] f c d e
theorem cp{a b:Nat}(f c d:aV)(e:Ar.db [f,c] d []=L):Ar.an [a,b] [] f->Ar.an [a,b] [] c->Ar.an [a,b] [] d:=Ar.cT [a,b] [] f c d e
theorem b8{a b c:Nat}(f d e:aV)(g:Ar.db [f,d] e []=L):Ar.an [a,b,c] [] f->Ar.an [a,b,c] [] d->Ar.an [a,b,c] [] e:=Ar.cT [a,b,c] [] f d e g
theorem ex{a b:Int}(f c d:aV)(e:Ar.db [f,c] d []=L):Ar.an [] [a,b] f->Ar.an [] [a,b] c->Ar.an [] [a,b] d:=Ar.cT [] [a,b] f c d e
theorem en{a:Nat}{b c:Int}(f d i e:aV)(g:Ar.db [f,d,i] e []=L):Ar.an [a] [b,c] f->Ar.an [a] [b,c] d->Ar.an [a] [b,c] i->Ar.an [a] [b,c] e:=Ar.dc [a] [b,c] f d i e g
theorem f1{a b c d:Nat}(f e i g:aV)(h:Ar.db [f,e,i] g []=L):Ar.an [a,b,c,d] [] f->Ar.an [a,b,c,d] [] e->Ar.an [a,b,c,d] [] i->Ar.an [a,b,c,d] [] g:=Ar.dc [a,b,c,d] [] f e i g h
theorem em{a b c:Nat}(f d i e:aV)(g:Ar.db [f,d,i] e []=L):Ar.an [a,b,c] [] f->Ar.an [a,b,c] [] d->Ar.an [a,b,c] [] i->Ar.an [a,b,c] [] e:=Ar.dc [a,b,c] [] f d i e g
end
theorem cc{b c d:Prop}{e:Prop}(a:b/\c/\d)(k:b->c->d->e):e:=k a.1 a.2.1 a.2.2
theorem ry{b c d e:Prop}{f:Prop}(a:b/\c/\d/\e)(k:b->c->d->e->f):f:=k a.1 a.2.1 a.2.2.1 a.2.2.2
theorem EQ{b c d e f:Prop}{g:Prop}(a:b/\c/\d/\e/\f)(k:b->c->d->e->f->g):g:=k a.1 a.2.1 a.2.2.1 a.2.2.2.1 a.2.2.2.2
theorem wg{b c d e f g:Prop}{h:Prop}(a:b/\c/\d/\e/\f/\g)(k:b->c->d->e->f->g->h):h:=k a.1 a.2.1 a.2.2.1 a.2.2.2.1 a.2.2.2.2.1 a.2.2.2.2.2
theorem az{f:Sort _}{c d:f->Prop}{e:Prop}(b:∃a,c a/\d a)(k:∀a,c a->d a->e):e:=b.elim λa b=>k a b.1 b.2
theorem dY{g:Sort _}{c d e:g->Prop}{f:Prop}(b:∃a,c a/\d a/\e a)(k:∀a,c a->d a->e a->f):f:=b.elim λa b=>k a b.1 b.2.1 b.2.2
theorem rx{h:Sort _}{c d e f:h->Prop}{g:Prop}(b:∃a,c a/\d a/\e a/\f a)(k:∀a,c a->d a->e a->f a->g):g:=b.elim λa b=>k a b.1 b.2.1 b.2.2.1 b.2.2.2
theorem O_{i:Sort _}{c d e f g:i->Prop}{h:Prop}(b:∃a,c a/\d a/\e a/\f a/\g a)(k:∀a,c a->d a->e a->f a->g a->h):h:=b.elim λa b=>k a b.1 b.2.1 b.2.2.1 b.2.2.2.1 b.2.2.2.2
theorem on{f g:Sort _}{d:f->g->Prop}{e:Prop}(a:∃b c,d b c)(k:∀b c,d b c->e):e:=a.elim λb a=>a.elim λc a=>k b c a
theorem iC{g h:Sort _}{d e:g->h->Prop}{f:Prop}(c:∃a b,d a b/\e a b)(k:∀a b,d a b->e a b->f):f:=c.elim λa c=>c.elim λb c=>k a b c.1 c.2
theorem cn{h i:Sort _}{d e f:h->i->Prop}{g:Prop}(c:∃a b,d a b/\e a b/\f a b)(k:∀a b,d a b->e a b->f a b->g):g:=c.elim λa c=>c.elim λb c=>k a b c.1 c.2.1 c.2.2
theorem om{i j:Sort _}{d e f g:i->j->Prop}{h:Prop}(c:∃a b,d a b/\e a b/\f a b/\g a b)(k:∀a b,d a b->e a b->f a b->g a b->h):h:=c.elim λa c=>c.elim λb c=>k a b c.1 c.2.1 c.2.2.1 c.2.2.2
theorem EP{j l:Sort _}{d e f g h:j->l->Prop}{i:Prop}(c:∃a b,d a b/\e a b/\f a b/\g a b/\h a b)(k:∀a b,d a b->e a b->f a b->g a b->h a b->i):i:=c.elim λa c=>c.elim λb c=>k a b c.1 c.2.1 c.2.2.1 c.2.2.2.1 c.2.2.2.2
theorem ol{l m:Sort _}{d e f g h i:l->m->Prop}{j:Prop}(c:∃a b,d a b/\e a b/\f a b/\g a b/\h a b/\i a b)(k:∀a b,d a b->e a b->f a b->g a b->h a b->i a b->j):j:=c.elim λa c=>c.elim λb c=>k a b c.1 c.2.1 c.2.2.1 c.2.2.2.1 c.2.2.2.2.1 c.2.2.2.2.2
theorem d7{h i j:Sort _}{e f:h->i->j->Prop}{g:Prop}(a:∃b c d,e b c d/\f b c d)(k:∀b c d,e b c d->f b c d->g):g:=a.elim λb a=>a.elim λc a=>a.elim λd a=>k b c d a.1 a.2
theorem jh{i j l:Sort _}{e f g:i->j->l->Prop}{h:Prop}(a:∃b c d,e b c d/\f b c d/\g b c d)(k:∀b c d,e b c d->f b c d->g b c d->h):h:=a.elim λb a=>a.elim λc a=>a.elim λd a=>k b c d a.1 a.2.1 a.2.2
theorem h1{j l m:Sort _}{e f g h:j->l->m->Prop}{i:Prop}(d:∃a b c,e a b c/\f a b c/\g a b c/\h a b c)(k:∀a b c,e a b c->f a b c->g a b c->h a b c->i):i:=d.elim λa d=>d.elim λb d=>d.elim λc d=>k a b c d.1 d.2.1 d.2.2.1 d.2.2.2
theorem hf{l m n:Sort _}{e f g h i:l->m->n->Prop}{j:Prop}(d:∃a b c,e a b c/\f a b c/\g a b c/\h a b c/\i a b c)(k:∀a b c,e a b c->f a b c->g a b c->h a b c->i a b c->j):j:=d.elim λa d=>d.elim λb d=>d.elim λc d=>k a b c d.1 d.2.1 d.2.2.1 d.2.2.2.1 d.2.2.2.2
theorem O9{m n o:Sort _}{e f g h i j:m->n->o->Prop}{l:Prop}(d:∃a b c,e a b c/\f a b c/\g a b c/\h a b c/\i a b c/\j a b c)(k:∀a b c,e a b c->f a b c->g a b c->h a b c->i a b c->j a b c->l):l:=d.elim λa d=>d.elim λb d=>d.elim λc d=>k a b c d.1 d.2.1 d.2.2.1 d.2.2.2.1 d.2.2.2.2.1 d.2.2.2.2.2
theorem wf{i j l m:Sort _}{f g:i->j->l->m->Prop}{h:Prop}(a:∃b c d e,f b c d e/\g b c d e)(k:∀b c d e,f b c d e->g b c d e->h):h:=a.elim λb a=>a.elim λc a=>a.elim λd a=>a.elim λe a=>k b c d e a.1 a.2
theorem rw{j l m n:Sort _}{f g h:j->l->m->n->Prop}{i:Prop}(a:∃b c d e,f b c d e/\g b c d e/\h b c d e)(k:∀b c d e,f b c d e->g b c d e->h b c d e->i):i:=a.elim λb a=>a.elim λc a=>a.elim λd a=>a.elim λe a=>k b c d e a.1 a.2.1 a.2.2
theorem O8{l m n o:Sort _}{f g h i:l->m->n->o->Prop}{j:Prop}(a:∃b c d e,f b c d e/\g b c d e/\h b c d e/\i b c d e)(k:∀b c d e,f b c d e->g b c d e->h b c d e->i b c d e->j):j:=a.elim λb a=>a.elim λc a=>a.elim λd a=>a.elim λe a=>k b c d e a.1 a.2.1 a.2.2.1 a.2.2.2
theorem O7{m n o p:Sort _}{f g h i j:m->n->o->p->Prop}{l:Prop}(a:∃b c d e,f b c d e/\g b c d e/\h b c d e/\i b c d e/\j b c d e)(k:∀b c d e,f b c d e->g b c d e->h b c d e->i b c d e->j b c d e->l):l:=a.elim λb a=>a.elim λc a=>a.elim λd a=>a.elim λe a=>k b c d e a.1 a.2.1 a.2.2.1 a.2.2.2.1 a.2.2.2.2
theorem O6{j l m n o:Sort _}{g h:j->l->m->n->o->Prop}{i:Prop}(a:∃b c d e f,g b c d e f/\h b c d e f)(k:∀b c d e f,g b c d e f->h b c d e f->i):i:=a.elim λb a=>a.elim λc a=>a.elim λd a=>a.elim λe a=>a.elim λf a=>k b c d e f a.1 a.2
theorem O5{l m n o p:Sort _}{g h i:l->m->n->o->p->Prop}{j:Prop}(a:∃b c d e f,g b c d e f/\h b c d e f/\i b c d e f)(k:∀b c d e f,g b c d e f->h b c d e f->i b c d e f->j):j:=a.elim λb a=>a.elim λc a=>a.elim λd a=>a.elim λe a=>a.elim λf a=>k b c d e f a.1 a.2.1 a.2.2
theorem we{m n o p q:Sort _}{g h i j:m->n->o->p->q->Prop}{l:Prop}(a:∃b c d e f,g b c d e f/\h b c d e f/\i b c d e f/\j b c d e f)(k:∀b c d e f,g b c d e f->h b c d e f->i b c d e f->j b c d e f->l):l:=a.elim λb a=>a.elim λc a=>a.elim λd a=>a.elim λe a=>a.elim λf a=>k b c d e f a.1 a.2.1 a.2.2.1 a.2.2.2
theorem O4{p q r s t:Sort _}{g h i j l m n:p->q->r->s->t->Prop}{o:Prop}(a:∃b c d e f,g b c d e f/\h b c d e f/\i b c d e f/\j b c d e f/\l b c d e f/\m b c d e f/\n b c d e f)(k:∀b c d e f,g b c d e f->h b c d e f->i b c d e f->j b c d e f->l b c d e f->m b c d e f->n b c d e f->o):o:=a.elim λb a=>a.elim λc a=>a.elim λd a=>a.elim λe a=>a.elim λf a=>k b c d e f a.1 a.2.1 a.2.2.1 a.2.2.2.1 a.2.2.2.2.1 a.2.2.2.2.2.1 a.2.2.2.2.2.2
theorem ok{q r s t u:Sort _}{g h i j l m n o:q->r->s->t->u->Prop}{p:Prop}(f:∃a b c d e,g a b c d e/\h a b c d e/\i a b c d e/\j a b c d e/\l a b c d e/\m a b c d e/\n a b c d e/\o a b c d e)(k:∀a b c d e,g a b c d e->h a b c d e->i a b c d e->j a b c d e->l a b c d e->m a b c d e->n a b c d e->o a b c d e->p):p:=f.elim λa f=>f.elim λb f=>f.elim λc f=>f.elim λd f=>f.elim λe f=>k a b c d e f.1 f.2.1 f.2.2.1 f.2.2.2.1 f.2.2.2.2.1 f.2.2.2.2.2.1 f.2.2.2.2.2.2.1 f.2.2.2.2.2.2.2
theorem EO{j l m n o p:Sort _}{h:j->l->m->n->o->p->Prop}{i:Prop}(a:∃b c d e f g,h b c d e f g)(k:∀b c d e f g,h b c d e f g->i):i:=a.elim λb a=>a.elim λc a=>a.elim λd a=>a.elim λe a=>a.elim λf a=>a.elim λg a=>k b c d e f g a
theorem O3{m n o p q r s:Sort _}{i j:m->n->o->p->q->r->s->Prop}{l:Prop}(a:∃b c d e f g h,i b c d e f g h/\j b c d e f g h)(k:∀b c d e f g h,i b c d e f g h->j b c d e f g h->l):l:=a.elim λb a=>a.elim λc a=>a.elim λd a=>a.elim λe a=>a.elim λf a=>a.elim λg a=>a.elim λh a=>k b c d e f g h a.1 a.2
theorem EN{q r s t u v w:Sort _}{i j l m n o:q->r->s->t->u->v->w->Prop}{p:Prop}(a:∃b c d e f g h,i b c d e f g h/\j b c d e f g h/\l b c d e f g h/\m b c d e f g h/\n b c d e f g h/\o b c d e f g h)(k:∀b c d e f g h,i b c d e f g h->j b c d e f g h->l b c d e f g h->m b c d e f g h->n b c d e f g h->o b c d e f g h->p):p:=a.elim λb a=>a.elim λc a=>a.elim λd a=>a.elim λe a=>a.elim λf a=>a.elim λg a=>a.elim λh a=>k b c d e f g h a.1 a.2.1 a.2.2.1 a.2.2.2.1 a.2.2.2.2.1 a.2.2.2.2.2
theorem Pk{w x y z A B C D:Sort _}{j l m n o p q r s t u:w->x->y->z->A->B->C->D->Prop}{v:Prop}(a:∃b c d e f g h i,j b c d e f g h i/\l b c d e f g h i/\m b c d e f g h i/\n b c d e f g h i/\o b c d e f g h i/\p b c d e f g h i/\q b c d e f g h i/\r b c d e f g h i/\s b c d e f g h i/\t b c d e f g h i/\u b c d e f g h i)(k:∀b c d e f g h i,j b c d e f g h i->l b c d e f g h i->m b c d e f g h i->n b c d e f g h i->o b c d e f g h i->p b c d e f g h i->q b c d e f g h i->r b c d e f g h i->s b c d e f g h i->t b c d e f g h i->u b c d e f g h i->v):v:=a.elim λb a=>a.elim λc a=>a.elim λd a=>a.elim λe a=>a.elim λf a=>a.elim λg a=>a.elim λh a=>a.elim λi a=>k b c d e f g h i a.1 a.2.1 a.2.2.1 a.2.2.2.1 a.2.2.2.2.1 a.2.2.2.2.2.1 a.2.2.2.2.2.2.1 a.2.2.2.2.2.2.2.1 a.2.2.2.2.2.2.2.2.1 a.2.2.2.2.2.2.2.2.2.1 a.2.2.2.2.2.2.2.2.2.2
theorem wd{c d:Sort _}{e:c->d->Prop}(a:c)(b:d)(f:e a b):∃a b,e a b:=⟨a,b,f⟩
theorem OC{c d:Sort _}{e f:c->d->Prop}(a:c)(b:d)(g:e a b)(h:f a b):∃a b,e a b/\f a b:=⟨a,b,g,h⟩
theorem fe{c d:Sort _}{e f g:c->d->Prop}(a:c)(b:d)(h:e a b)(i:f a b)(j:g a b):∃a b,e a b/\f a b/\g a b:=⟨a,b,h,i,j⟩
theorem wc{c d:Sort _}{e f g h:c->d->Prop}(a:c)(b:d)(i:e a b)(j:f a b)(k:g a b)(l:h a b):∃a b,e a b/\f a b/\g a b/\h a b:=⟨a,b,i,j,k,l⟩
theorem EJ{c d:Sort _}{e f g h i:c->d->Prop}(a:c)(b:d)(j:e a b)(k:f a b)(l:g a b)(m:h a b)(n:i a b):∃a b,e a b/\f a b/\g a b/\h a b/\i a b:=⟨a,b,j,k,l,m,n⟩
theorem EI{c d:Sort _}{e f g h i j:c->d->Prop}(a:c)(b:d)(k:e a b)(l:f a b)(m:g a b)(n:h a b)(o:i a b)(p:j a b):∃a b,e a b/\f a b/\g a b/\h a b/\i a b/\j a b:=⟨a,b,k,l,m,n,o,p⟩
theorem oh{d e f:Sort _}{g h:d->e->f->Prop}(a:d)(b:e)(c:f)(i:g a b c)(j:h a b c):∃a b c,g a b c/\h a b c:=⟨a,b,c,i,j⟩
theorem EH{d e f:Sort _}{g h i:d->e->f->Prop}(a:d)(b:e)(c:f)(j:g a b c)(k:h a b c)(l:i a b c):∃a b c,g a b c/\h a b c/\i a b c:=⟨a,b,c,j,k,l⟩
theorem wb{d e f:Sort _}{g h i j k:d->e->f->Prop}(a:d)(b:e)(c:f)(l:g a b c)(m:h a b c)(n:i a b c)(o:j a b c)(p:k a b c):∃a b c,g a b c/\h a b c/\i a b c/\j a b c/\k a b c:=⟨a,b,c,l,m,n,o,p⟩
theorem OB{d e f:Sort _}{g h i j k l:d->e->f->Prop}(a:d)(b:e)(c:f)(m:g a b c)(n:h a b c)(o:i a b c)(p:j a b c)(q:k a b c)(r:l a b c):∃a b c,g a b c/\h a b c/\i a b c/\j a b c/\k a b c/\l a b c:=⟨a,b,c,m,n,o,p,q,r⟩
theorem OA{e f g h:Sort _}{i j:e->f->g->h->Prop}(a:e)(b:f)(c:g)(d:h)(k:i a b c d)(l:j a b c d):∃a b c d,i a b c d/\j a b c d:=⟨a,b,c,d,k,l⟩
theorem ru{e f g h:Sort _}{i j k:e->f->g->h->Prop}(a:e)(b:f)(c:g)(d:h)(l:i a b c d)(m:j a b c d)(n:k a b c d):∃a b c d,i a b c d/\j a b c d/\k a b c d:=⟨a,b,c,d,l,m,n⟩
theorem Oz{e f g h:Sort _}{i j k l m:e->f->g->h->Prop}(a:e)(b:f)(c:g)(d:h)(n:i a b c d)(o:j a b c d)(p:k a b c d)(q:l a b c d)(r:m a b c d):∃a b c d,i a b c d/\j a b c d/\k a b c d/\l a b c d/\m a b c d:=⟨a,b,c,d,n,o,p,q,r⟩
theorem wa{f g h i j:Sort _}{k l m n:f->g->h->i->j->Prop}(a:f)(b:g)(c:h)(d:i)(e:j)(o:k a b c d e)(p:l a b c d e)(q:m a b c d e)(r:n a b c d e):∃a b c d e,k a b c d e/\l a b c d e/\m a b c d e/\n a b c d e:=⟨a,b,c,d,e,o,p,q,r⟩
theorem Pj{g h i j k l:Sort _}{m:g->h->i->j->k->l->Prop}(a:g)(b:h)(c:i)(d:j)(e:k)(f:l)(n:m a b c d e f):∃a b c d e f,m a b c d e f:=⟨a,b,c,d,e,f,n⟩
theorem Oy{h i j k l m n:Sort _}{o p q r s t:h->i->j->k->l->m->n->Prop}(a:h)(b:i)(c:j)(d:k)(e:l)(f:m)(g:n)(u:o a b c d e f g)(v:p a b c d e f g)(w:q a b c d e f g)(x:r a b c d e f g)(y:s a b c d e f g)(z:t a b c d e f g):∃a b c d e f g,o a b c d e f g/\p a b c d e f g/\q a b c d e f g/\r a b c d e f g/\s a b c d e f g/\t a b c d e f g:=⟨a,b,c,d,e,f,g,u,v,w,x,y,z⟩
variable{z:Prop}{k:Nat}
section
@[elab_as_elim] theorem bG {E:Sort _} {a b:E} {c:E->Prop} (z?:a=b) (d:c b):c a:=z?▸d
@[elab_as_elim] theorem Pb {E:Sort _} {a b:E} {c:E->Prop} (z?:a=b) (d:c a):c b:=z?▸d
theorem k9(z?:∀a:Prop,(z->a)->a):z:=z? z id
theorem fU{E:Type}{a:E->Prop}:∀b∈([]:List E),a b:=λc z?=>(P0 z?).elim
theorem aU{E:Type}{a:E}(z?:U=O a):z:=by injection z?
noncomputable def kP{E:Type}(f:E->Bool)(a:Option E):Bool:=match a with|some b=>f b|none=>J
theorem nw{E:Type}{f:E->Bool}{b:Option E}(z?:kP f b=L):∃a,b=O a/\f a=L:=by
 rcases b with _|a;·exact QY z?
 .exact⟨a,rfl,z?⟩
abbrev aJ:Nat:=10000000
set_option genInjectivity true in
inductive aa where|WK|g (F:Bool)|a (i:Int)|E (s:Pr)|h (vs:List aa)|WW (P R:Int)|b (S:Nat)
variable{o:aa}
set_option genInjectivity true in
inductive ca where|WE (xs:List aa)|WN (F:Nat) (P:List (Int×aa))|WO (R:Nat) (S:Nat) (ab:List (Nat×aa))|W5 (xs:List aa)
noncomputable def aa.ctorIdx(a:aa):Nat:=a.casesOn 0 (λ_=>1) (λ_=>2) (λ_=>3) (λ_=>4) (λ_ _=>5) λ_=>6
noncomputable def ca.ctorIdx(a:ca):Nat:=a.casesOn (λ_=>0) (λ_ _=>1) (λ_ _ _=>2) λ_=>3
abbrev ab:=Nat->Option ca
noncomputable def am(b:ab)(c:Nat)(d:ca):ab:=λa=>if a=c then O d else b a
mutual
noncomputable def dx:aa->aa->Bool
|.WK,a=>match a with|.WK=>L|_=>J
|.g c,a=>match a with|.g b=>c==b|.a b=>(if c then 1 else 0)==b|_=>J
|.a c,a=>match a with|.g b=>c==(if b then 1 else 0)|.a b=>c==b|_=>J
|.E c,a=>match a with|.E b=>c==b|_=>J
|.h c,a=>match a with|.h b=>cq c b|_=>J
|.WW _ _,_=>J
|.b _,_=>J
noncomputable def cq:List aa->List aa->Bool|[],a=>a.isEmpty|d::xs,a=>match a with|[]=>J|e::f=>dx d e&&cq xs f
end
noncomputable def p4(a:List aa->Bool)(b:aa):Bool:=match b with|.WK=>L|.g _=>L|.a _=>L|.E s=>PySem.PyData.strOk s|.h vs=>a vs|.WW _ _=>J|.b _=>J
noncomputable def bu:Nat->aa->Bool
|0,a=>p4 (λc=>J) a
|b+1,a=>p4 (λvs=>vs.all (bu b)) a
def G0(a:Nat)(vs:List aa):Bool:=match a with|0=>J|a+1=>vs.all (bu a)
theorem i3(a:Nat)(b:aa):bu a b=p4 (G0 a) b:=by cases a<;>rfl
noncomputable def nv(a:aa)(b:Prop):Prop:=match a with|.WK=>b|_=>False
noncomputable def cd(a:aa)(b c:Prop):Prop:=match a with
|.g d=>(match d with|true=>b|false=>c)
|_=>False
noncomputable def aP{E:Type}(a:Option E)(b:E->Prop):Prop:=match a with|some c=>b c|none=>False
noncomputable def fA(a:aa)(b:Int->Prop):Prop:=match a with|.a i=>b i|_=>False
noncomputable def tr(a:aa)(b:Pr->Prop):Prop:=match a with|.E i=>b i|_=>False
noncomputable def tm(a:aa)(b:List aa->Prop):Prop:=match a with|.h i=>b i|_=>False
noncomputable def gA(a:aa)(b:Nat->Prop):Prop:=match a with|.b i=>b i|_=>False
noncomputable def ea(a:ca)(b:List aa->Prop):Prop:=match a with|.WE xs=>b xs|_=>False
noncomputable def n0(a:ca)(b:Nat->List (Int×aa)->Prop):Prop:=match a with|.WN c d=>b c d|_=>False
noncomputable def nK(a:ca)(b:Nat->Nat->List (Nat×aa)->Prop):Prop:=match a with|.WO c d e=>b c d e|_=>False
noncomputable def lW(b:ca)(a:List aa->Prop):Prop:=match b with|.WE xs=>a xs|.W5 xs=>a xs|_=>False
noncomputable def qf(vs:List aa)(Q:Prop):Prop:=match vs with|[]=>Q|_::_=>False
noncomputable def g5(vs:List aa)(a:aa->Prop):Prop:=match vs with|[]=>False|b::c=>qf c (a b)
noncomputable def tk(vs:List aa)(a:aa->aa->Prop):Prop:=match vs with|[]=>False|b::c=>g5 c (a b)
def dv(a b:aa)(c:ab):Option Bool:=match a with
|.b e=>match b with
 |.b f=>(c e).bind λg=>(c f).bind λh=>match g with
  |.WE xs=>(match h with|.WE d=>if xs.all (bu 8)&&d.all (bu 8)then O (cq xs d)else U|_=>U)
  |_=>U
 |_=>U
|a=>if bu 9 a&&bu 9 b then O (dx a b)else U
noncomputable def gc(a:aa)(b:ab):List aa->Option Bool|[]=>O J|c::d=>(dv c a b).bind λe=>(gc a b d).map (e||·)
noncomputable def be:List (Int×aa)->Int->Option aa|[],_=>U|(k,b)::c,a=>if k=a then O b else be c a
noncomputable def c2:List (Int×aa)->Int->aa->List (Int×aa)|[],a,b=>[(a,b)]|(k,d)::c,a,b=>if k=a then(k,b)::c else(k,d)::c2 c a b
noncomputable def bS:List (Nat×aa)->Nat->Option aa|[],_=>U|(k,b)::c,a=>match PX k a with|true=>O b|false=>bS c a
noncomputable def ci:List (Nat×aa)->Nat->aa->List (Nat×aa)|[],a,b=>[(a,b)]|(k,d)::c,a,b=>match PX k a with|true=>(k,b)::c|false=>(k,d)::ci c a b
noncomputable def bQ(xs:List aa)(k:Int):Option aa:=if 0<=k then xs[k.toNat]? else if-(xs.length:Int)<=k then xs[(k+xs.length).toNat]? else U
noncomputable def fT(xs:List aa)(k:Int)(a:aa):Option (List aa):=if 0<=k then(if k<xs.length then O (xs.set k.toNat a)else U)else if-(xs.length:Int)<=k then O (xs.set (k+xs.length).toNat a)else U
noncomputable def hO(a:Nat)(i:Int):Nat:=(max 0 (P1 (if i<0 then i+a else i) a)).toNat
def c8(xs:List aa)(b c:Option Int):List aa:=let a:=match b with|some i=>hO xs.length i|none=>0;let d:=match c with|some i=>hO xs.length i|none=>xs.length;(xs.drop a).take (d-a)
noncomputable def dq(a b:Int):List aa:=(Qq (b-a).toNat).map λ(i:Nat)=>.a (a+i)
mutual
inductive dT where|WM|WV|YO|ZZ|Zl|c?
inductive el where|t|YW|YI|YT|Y_|Zf|Y9|ZE
inductive fJ where|WJ|ZF|ZJ|Z'|Zr|a|W2|WE|WN|WW
inductive ei where|a|g|E|W2|Zq
end
noncomputable def fJ.Xi(a:fJ):Nat:=a.casesOn 0 1 2 3 4 5 6 7 8 9
noncomputable def ei.Xi(a:ei):Nat:=a.casesOn 0 1 2 3 4
mutual
inductive aL where|f (ae:aa)|d (k:Nat)|m (af:dT) (R P:aL)|M (F:aL)|V (R P:aL)|YF (R P:aL)|l (S ab F:aL)|j (S:el) (R P:aL)|Y7 (S ag:el) (R ac P:aL)|Zn (F:aL)|Zy (F:aL)|h (ad:di)|x (ad:di)|ZH|W1 (ah:Nat) (ai aj al:aL)|k (f:Nat) (C:di)|WH (S:Nat) (C:di)|o (am:fJ) (C:di)|YU (F:aL) (ab:ei)|n (F:aL) (an:Nat)|N (F:aL) (ac:Nat) (C:di)|y (F i:aL)|Yv (F:aL) (ao ap:gr)|ZW (F:aL)|D
inductive di where|e|c (F:aL) (P:di)
inductive gr where|WK|WI (F:aL)
end
noncomputable def gr.ctorIdx(a:gr):Nat:=a.casesOn 0 λ_=>1
inductive ej where|z (k:Nat)|Y5 (F:List Nat)
inductive N' where|X (F:aL)|Xe (F:aL)|Xu (F:aL)
mutual
inductive gS where|s (k:Nat) (F:aL)|ZC (R:List Nat) (F:aL)|Y0 (R:List Nat) (ae:di)|A (P:aL) (S:Nat) (F:aL)|Zh (P i:aL) (F:aL)|Zc (k:Nat) (aa:dT) (F:aL)|Z_ (P:aL) (S:Nat) (aa:dT) (F:aL)|Y (F:aL)|l (ab:aL) (ac f:aI)|Za (ab:aL) (ad:aI)|R (ac:ej) (s:N') (ad:aI)|p (F:gr)|YA|Yz|D
inductive aI where|e|c (s:gS) (af:aI)
end
abbrev al:=List (Option aa)
noncomputable def eB:al->Nat->Option aa|[],_=>U|a::_,0=>a|_::b,c+1=>eB b c
noncomputable def bD:al->Nat->aa->al|[],_,_=>[]|_::a,0,b=>O b::a|c::a,d+1,b=>c::bD a d b
inductive bb where|WL|YA|Yz|p (F:aa)
structure as where
 k:Nat->List aa->ab->(aa->ab->Prop)->Prop
 ZA:Nat->Nat->Option aa
 Zp:Nat->Nat->Option Nat
 Zv:Nat->Nat
 YY:Nat->Nat->Bool
section
variable(B:as)
noncomputable def gh(a b:aa)(c:Int->Int->Prop):Prop:=fA a λd=>fA b (c d)
def dK(h:dT)(d e:aa)(c:ab)(Q:aa->ab->Prop):Prop:=match h with
|.WM=>match d with
 |.a b=>fA e λa=>Q (.a (b+a)) c
 |.E b=>tr e λa=>b.length+a.length<=1000/\Q (.E (b++a)) c
 |.h b=>tm e λa=>b.length+a.length<=aJ/\Q (.h (b++a)) c
 |.b b=>gA e λa=>aP (c b) λf=>ea f λxs=>aP (c a) λi=>ea i λg=>xs.length+g.length<=aJ/\∀d,c d=U->Q (.b d) (am c d (.WE (xs++g)))
 |_=>False
|.WV=>gh d e λb a=>Q (.a (b-a)) c
|.YO=>match d with
 |.a b=>fA e λa=>(b.natAbs<2^63/\a.natAbs<2^63)/\Q (.a (b*a)) c
 |.b b=>fA e λa=>aP (c b) λf=>ea f λxs=>(0<=a/\a<=1000000/\xs.length<=1)/\∀d,c d=U->Q (.b d) (am c d (.WE (QE a.toNat xs).flatten))
 |_=>False
|.ZZ=>gh d e λb a=>(0<a/\a<1000000000)/\Q (.a (b/a)) c
|.Zl=>gh d e λb a=>0<a/\Q (.a (b%a)) c
|.c?=>gh d e λb a=>(0<=a/\a<=100/\b.natAbs<2^63)/\Q (.a (b^a.toNat)) c
noncomputable def hK(f:dT)(c d:aa)(e:ab)(Q:aa->ab->Prop):Prop:=match f with
|.WM=>gh c d λa b=>Q (.a (a+b)) e
|.WV=>gh c d λa b=>Q (.a (a-b)) e
|_=>False
def ul(a e:aa)(b:ab)(c:Bool->Prop):Prop:=match e with
|.h d=>aP (gc a b d) c
|.b f=>aP (b f) λg=>match g with
 |.WE d=>aP (gc a b d) c
 |.WN _ h=>fA a λk=>c (be h k).isSome
 |_=>False
|_=>False
def b3(g:el)(b c:aa)(a:ab)(Q:aa->ab->Prop):Prop:=match g with
|.t=>aP (dv b c a) λd=>Q (.g d) a
|.YW=>aP (dv b c a) λd=>Q (.g (!d)) a
|.YI=>gh b c λe f=>Q (.g (Ps (e<f))) a
|.YT=>gh b c λe f=>Q (.g (Ps (e<=f))) a
|.Y_=>gh b c λe f=>Q (.g (Ps (f<e))) a
|.Zf=>gh b c λe f=>Q (.g (Ps (f<=e))) a
|.Y9=>ul b c a λd=>Q (.g d) a
|.ZE=>ul b c a λd=>Q (.g (!d)) a
noncomputable def fR:List aa->Option Int|[]=>O 0|a::b=>match a with|.a i=>(fR b).map (i+·)|_=>U
noncomputable def t9(a:aa):Option (Int×aa):=match a with
|.h vs=>match vs with
 |[]=>U
 |k::b=>match k with
  |.a k=>(match b with|[]=>U|c::d=>if d.isEmpty then O (k,c)else U)
  |_=>U
|_=>U
noncomputable def l2(a:ab):List aa->Option (List (Int×aa))|[]=>O []|b::c=>(t9 b).bind λd=>(l2 a c).map (d::·)
noncomputable def i5:List (Int×aa)->List (Int×aa)->List (Int×aa)|a,[]=>a|a,(k,b)::c=>i5 (c2 a k b) c
def cz(e:fJ)(vs:List aa)(a:ab)(Q:aa->ab->Prop):Prop:=match e with
|.WJ=>g5 vs λd=>match d with
 |.h xs=>Q (.a xs.length) a
 |.b b=>aP (a b) λc=>match c with|.WE xs=>Q (.a xs.length) a|.W5 xs=>Q (.a xs.length) a|.WN _ g=>Q (.a g.length) a|_=>False
 |_=>False
|.ZF=>tk vs λb e=>gh b e λc h=>Q (.a (max c h)) a
|.ZJ=>tk vs λb e=>gh b e λc h=>Q (.a (P1 c h)) a
|.Z'=>g5 vs λd=>fA d λc=>Q (.a c.natAbs) a
|.Zr=>g5 vs λd=>gA d λb=>aP (a b) λc=>lW c λxs=>aP (fR xs) λf=>Q (.a f) a
|.a=>g5 vs λd=>match d with|.a c=>Q (.a c) a|.g e=>Q (.a (if e then 1 else 0)) a|_=>False
|.W2=>g5 vs λd=>match d with
 |.h xs=>Q (.h xs) a
 |.b b=>aP (a b) λc=>ea c λxs=>Q (.h xs) a
 |_=>False
|.WE=>g5 vs λd=>match d with
 |.h xs=>∀b,a b=U->Q (.b b) (am a b (.WE xs))
 |.b e=>aP (a e) λc=>ea c λxs=>∀b,a b=U->Q (.b b) (am a b (.WE xs))
 |_=>False
|.WN=>g5 vs λd=>gA d λe=>aP (a e) λc=>match c with
 |.WN _ g=>∀b i,a b=U->Q (.b b) (am a b (.WN i g))
 |.WE xs=>aP (l2 a xs) λg=>∀b i,a b=U->Q (.b b) (am a b (.WN i (i5 [] g)))
 |_=>False
|.WW=>match vs with
 |[]=>False
 |d::k=>match k with
  |[]=>fA d λf=>(-(2^62)<=f/\f<2^62)/\Q (.WW 0 f) a
  |l::m=>qf m (gh d l λj f=>((-(2^62)<=j/\j<2^62)/\-(2^62)<=f/\f<2^62)/\Q (.WW j f) a)
noncomputable def hI(b:ei)(a:aa)(c:ab):Option Bool:=match b with
|.Zq=>match a with
 |.h _=>O L
 |.b d=>(c d).bind λe=>match e with|.WE _=>O L|_=>U
 |_=>U
|.a=>match a with|.g _=>O L|.a _=>O L|.E _=>O J|_=>U
|.g=>match a with|.g _=>O L|.a _=>O J|.E _=>O J|_=>U
|.E=>match a with|.g _=>O J|.a _=>O J|.E _=>O L|_=>U
|.W2=>match a with|.h _=>O L|_=>U
def dB(c:aa)(a:Nat)(b:ab)(Q:aa->ab->Prop):Prop:=gA c λd=>aP (b d) λe=>nK e λf i g=>aP ((bS g a).or (B.ZA f a)) λh=>Q h b
def eN(c i:aa)(b:ab)(Q:aa->ab->Prop):Prop:=match c with
|.h xs=>fA i λk=>aP (bQ xs k) λa=>Q a b
|.b d=>fA i λk=>aP (b d) λe=>match e with
 |.WE xs=>aP (bQ xs k) λa=>Q a b
 |.W5 xs=>aP (bQ xs k) λa=>Q a b
 |.WN _ f=>aP (be f k) λa=>Q a b
 |_=>False
|.E s=>fA i λk=>(0<=k/\k<1000)/\aP s.cps[k.toNat]? λg=>Q (.E ⟨#[g]⟩) b
|_=>False
noncomputable def e5(a:Option aa):Option (Option Int):=match a with|none=>O U|some b=>match b with|.a i=>O (O i)|_=>U
def gz(e:aa)(a b:Option aa)(c:ab)(Q:aa->ab->Prop):Prop:=aP (e5 a) λa=>aP (e5 b) λb=>match e with
|.h xs=>Q (.h (c8 xs a b)) c
|.b f=>aP (c f) λg=>lW g λxs=>∀d,c d=U->Q (.b d) (am c d (.WE (c8 xs a b)))
|_=>False
def kK(c:aa)(a:ab)(Q:aa->ab->Prop):Prop:=gA c λd=>aP (a d) λe=>ea e λxs=>∀b,a b=U->Q (.b b) (am a b (.WE xs.reverse))
inductive hc where|W9 (F:Nat)|Z4 (F:Nat)|ZU (F:Nat)|Xa (F:Nat)|C (f F:Nat)
noncomputable def hc.ctorIdx(a:hc):Nat:=a.casesOn (λ_=>0) (λ_=>1) (λ_=>2) (λ_=>3) λ_ _=>4
noncomputable def hD(c:aa)(b:Nat)(d:ab):Option hc:=match c with
|.b a=>(d a).bind λe=>match e with
 |.WE _=>match b with|0=>O (.W9 a)|1=>O (.Z4 a)|2=>O (.ZU a)|_=>U
 |.WN _ _=>if b=3 then O (.Xa a)else U
 |.WO g _ _=>(B.Zp g b).map λf=>.C f a
 |.W5 _=>U
|_=>U
def dA(i:hc)(vs:List aa)(b:ab)(Q:aa->ab->Prop):Prop:=match i with
|.W9 a=>g5 vs λd=>aP (b a) λc=>ea c λxs=>xs.length<=aJ/\Q .WK (am b a (.WE (xs++[d])))
|.Z4 a=>qf vs (aP (b a) λc=>ea c λxs=>aP xs.getLast? λd=>Q d (am b a (.WE xs.dropLast)))
|.ZU a=>g5 vs λd=>match d with
 |.h e=>aP (b a) λc=>ea c λxs=>xs.length+e.length<=aJ/\Q .WK (am b a (.WE (xs++e)))
 |.b g=>a≠g/\aP (b a) λc=>ea c λxs=>aP (b g) λj=>ea j λe=>xs.length+e.length<=aJ/\Q .WK (am b a (.WE (xs++e)))
 |_=>False
|.Xa a=>aP (b a) λc=>n0 c λn h=>match vs with|[]=>False|k::l=>fA k λk=>match l with|[]=>Q ((be h k).getD .WK) b|d::m=>qf m (Q ((be h k).getD d) b)
|.C f a=>B.k f (.b a::vs) b Q
inductive dh where|YM|x (F:Nat) (xs:List aa)|ZV (F:Nat) (P:Nat) (R:List (Int×aa))
noncomputable def dh.WP:dh->ab->Prop|.YM,_=>True|.x a xs,b=>b a=O (.WE xs)|.ZV a c d,b=>b a=O (.WN c d)
def f_(c:aa)(d:ab):Option (dh×List aa):=match c with
|.h xs=>O (.YM,xs)
|.WW e f=>O (.YM,dq e f)
|.b a=>(d a).bind λg=>match g with
 |.WE xs=>O (.x a xs,xs)
 |.WN h b=>O (.ZV a h b,b.map λi=>.a i.1)
 |_=>U
|_=>U
noncomputable def dS(b:aa->ab->(aa->ab->Prop)->Prop)(c:aa->ab->(aa->ab->Prop)->Prop)(k:dh):List aa->ab->(List aa->ab->Prop)->Prop|[],a,Q=>k.WP a/\Q [] a|d::e,a,Q=>k.WP a/\b d a λg f=>cd g (c d f λh i=>dS b c k e i λus j=>Q (h::us) j) (dS b c k e f Q)
noncomputable def b1:aa->Bool|.WK=>L|_=>J
mutual
noncomputable def au:aL->al->ab->(aa->ab->Prop)->Prop
|.f d,_,b,Q=>Q d b
|.d k,a,b,Q=>aP (eB a k) λd=>Q d b
|.m v e j,a,b,Q=>au e a b λd c=>au j a c λl h=>dK v d l h Q
|.M g,a,b,Q=>au g a b λd c=>cd d (Q (.g J) c) (Q (.g L) c)
|.V e j,a,b,Q=>au e a b λd c=>cd d (au j a c Q) (Q (.g J) c)
|.YF e j,a,b,Q=>au e a b λd c=>cd d (Q (.g L) c) (au j a c Q)
|.l m e j,a,b,Q=>au m a b λd c=>cd d (au e a c Q) (au j a c Q)
|.j m e j,a,b,Q=>au e a b λd c=>au j a c λl h=>b3 m d l h Q
|.Y7 m w e p j,a,b,Q=>au e a b λd c=>au p a c λl h=>b3 m d l h λn o=>cd n (au j a o λx y=>b3 w l x y Q) (Q (.g J) o)
|.Zn g,a,b,Q=>au g a b λd c=>Q (.g (b1 d)) c
|.Zy g,a,b,Q=>au g a b λd c=>Q (.g (!b1 d)) c
|.h q,a,b,Q=>dF q a b λvs c=>vs.length<=100/\Q (.h vs) c
|.x q,a,b,Q=>dF q a b λvs c=>vs.length<=100/\∀e,c e=U->Q (.b e) (am c e (.WE vs))
|.ZH,_,b,Q=>∀e n,b e=U->Q (.b e) (am b e (.WN n []))
|.W1 u z A D,a,b,Q=>au z a b λd c=>aP (f_ d c) λr=>r.2.length<=aJ/\dS (λd b Q=>au A (bD a u d) b Q) (λd b Q=>au D (bD a u d) b Q) r.1 r.2 c λus h=>∀e,h e=U->Q (.b e) (am h e (.WE us))
|.k f C,a,b,Q=>dF C a b λvs c=>B.k f vs c Q
|.WH m C,a,b,Q=>dF C a b λvs c=>∀e s,c e=U->c s=U->e≠s->B.k (B.Zv m) (.b e::vs) (am c e (.WO m s [])) λt h=>nv t (Q (.b e) h)
|.o j C,a,b,Q=>dF C a b λvs c=>cz j vs c Q
|.YU g n,a,b,Q=>au g a b λd c=>aP (hI n d c) λj=>Q (.g j) c
|.n g e,a,b,Q=>au g a b λd c=>dB B d e c Q
|.N g p C,a,b,Q=>au g a b λd c=>aP (hD B d p c) λn=>dF C a c λvs h=>dA B n vs h Q
|.y g i,a,b,Q=>au g a b λd c=>au i a c λl h=>eN d l h Q
|.Yv g E F,a,b,Q=>au g a b λd c=>f9 E a c λe h=>f9 F a h λj o=>gz d e j o Q
|.ZW g,a,b,Q=>au g a b λd c=>kK d c Q
|.D,_,_,_=>False
noncomputable def dF:di->al->ab->(List aa->ab->Prop)->Prop|.e,_,b,Q=>Q [] b|.c g t,a,b,Q=>au g a b λd c=>dF t a c λvs h=>Q (d::vs) h
noncomputable def f9:gr->al->ab->(Option aa->ab->Prop)->Prop|.WK,_,b,Q=>Q U b|.WI g,a,b,Q=>au g a b λd c=>Q (O d) c
end
def cA(e:ej)(b:aa)(a:al):Option al:=match e with
|.z k=>O (bD a k b)
|.Y5 c=>match b with
 |.h vs=>if c.length=vs.length then O ((c.zip vs).foldl (λa d=>bD a d.1 d.2) a)else U
 |_=>U
noncomputable def gD(b:bb)(a c:Prop)(d:aa->Prop):Prop:=match b with|.WL=>a|.Yz=>a|.YA=>c|.p e=>d e
noncomputable def b_(e:al->ab->(bb->al->ab->Prop)->Prop)(f:ej)(k:dh):List aa->al->ab->(bb->al->ab->Prop)->Prop|[],b,a,Q=>k.WP a/\Q .WL b a|g::h,b,a,Q=>k.WP a/\aP (cA f g b) λi=>e i a λj c d=>gD j (b_ e f k h c d Q) (Q .WL c d) (λl=>Q (.p l) c d)
noncomputable def iS(d:al->ab->(aa->ab->Prop)->Prop)(e:al->ab->(bb->al->ab->Prop)->Prop):Nat->al->ab->(bb->al->ab->Prop)->Prop|0,_,_,_=>False|g+1,a,h,Q=>d a h λi f=>cd i (e a f λj b c=>gD j (iS d e g b c Q) (Q .WL b c) (λk=>Q (.p k) b c)) (Q .WL a f)
def hv(e i c:aa)(a:ab)(Q:ab->Prop):Prop:=gA e λb=>fA i λk=>aP (a b) λf=>match f with
|.WE xs=>aP (fT xs k c) λg=>Q (am a b (.WE g))
|.WN _ d=>d.length<=aJ/\∀h,Q (am a b (.WN h (c2 d k c)))
|_=>False
def fS(f:aa)(a:Nat)(g:aa)(b:ab)(Q:ab->Prop):Prop:=gA f λc=>aP (b c) λh=>nK h λd i e=>(B.YY d a=L/\e.length<=100)/\Q (am b c (.WO d i (ci e a g)))
noncomputable def gj:Nat->List aa->List aa|_,[]=>[]|a,b::c=>.h [.a a,b]::gj (a+1) c
noncomputable def io(b:List (Int×aa)):List aa:=b.map λa=>.h [.a a.1,a.2]
mutual
noncomputable def eH:gS->al->ab->(bb->al->ab->Prop)->Prop
|.s k e,a,b,Q=>au B e a b λd c=>Q .WL (bD a k d) c
|.ZC t e,a,b,Q=>au B e a b λd c=>aP (cA (.Y5 t) d a) λh=>Q .WL h c
|.Y0 t r,a,b,Q=>dF B r a b λvs c=>aP (cA (.Y5 t) (.h vs) a) λh=>Q .WL h c
|.A m g e,a,b,Q=>au B e a b λd c=>au B m a c λl j=>fS B l g d j λn=>Q .WL a n
|.Zh m i e,a,b,Q=>au B e a b λd c=>au B m a c λl j=>au B i a j λA n=>hv l A d n λu=>Q .WL a u
|.Zc k v e,a,b,Q=>aP (eB a k) λw=>au B e a b λd c=>hK v w d c λo j=>Q .WL (bD a k o) j
|.Z_ m g v e,a,b,Q=>au B m a b λl c=>dB B l g c λw j=>au B e a j λd n=>hK v w d n λo u=>fS B l g o u λC=>Q .WL a C
|.Y e,a,b,Q=>au B e a b λG c=>Q .WL a c
|.l x p f,a,b,Q=>au B x a b λd c=>cd d (bo p a c Q) (bo f a c Q)
|.Za x q,a,b,Q=>∃D,iS (λa b Q=>au B x a b Q) (λa b Q=>bo q a b Q) D a b Q
|.R p s q,a,b,Q=>match s with
 |.X e=>au B e a b λd c=>aP (f_ d c) λz=>b_ (λa b Q=>bo q a b Q) p z.1 z.2 a c Q
 |.Xe e=>au B e a b λd c=>gA d λg=>aP (c g) λy=>ea y λxs=>b_ (λa b Q=>bo q a b Q) p (.x g xs) (gj 0 xs) a c Q
 |.Xu e=>au B e a b λd c=>gA d λg=>aP (c g) λy=>n0 y λE r=>b_ (λa b Q=>bo q a b Q) p (.ZV g E r) (io r) a c Q
|.p e,a,b,Q=>f9 B e a b λd c=>Q (.p (d.getD .WK)) a c
|.YA,a,b,Q=>Q .YA a b
|.Yz,a,b,Q=>Q .Yz a b
|.D,_,_,_=>False
noncomputable def bo:aI->al->ab->(bb->al->ab->Prop)->Prop|.e,a,b,Q=>Q .WL a b|.c s o,a,b,Q=>eH s a b λF h c=>match F with|.WL=>bo o h c Q|.YA=>Q .YA h c|.Yz=>Q .Yz h c|.p d=>Q (.p d) h c
end
end
structure gW where
 YN:Nat
 W8:Nat
 Zb:List aa
 F?:aI
noncomputable def q5(f:gW)(C:List aa):Option al:=let a:=C.length;if a<=f.YN/\f.YN<=a+f.Zb.length then O ((C++f.Zb.drop (f.Zb.length-(f.YN-a))).map O++QE (f.W8-f.YN) U)else U
structure oc where
 Zz:Nat->Option gW
 ZA:Nat->Nat->Option aa
 Zp:Nat->Nat->Option Nat
 Zv:Nat->Nat
 YY:Nat->Nat->Bool
noncomputable def oc.WY(a:oc)(b:Nat->List aa->ab->(aa->ab->Prop)->Prop):as:=⟨b,a.ZA,a.Zp,a.Zv,a.YY⟩
noncomputable def a2(a:oc):Nat->Nat->List aa->ab->(aa->ab->Prop)->Prop|0,_,_,_,_=>False|d+1,f,C,e,Q=>aP (a.Zz f) λb=>aP (q5 b C) λg=>bo (a.WY (a2 a d)) b.F? g e λh j c=>match h with|.WL=>Q .WK c|.p i=>Q i c|_=>False
inductive cC where|C (f:Nat)|YJ (F:Nat)|f (P:aa)|o (R:fJ)|Zx (S:ei)|YU|Xe
theorem c4(z?:J=L):z:=absurd z? Qf
theorem cm{E:Type}{c:E->Prop}{b:Option E}(z?:aP b c)(k:∀a,b=O a->c a->z):z:=by cases b with|none=>exact Pz z?|some a=>exact k a rfl z?
theorem CH{a:Int->Prop}{b:aa->Prop}(z?:fA o a)(k:∀i,a i->b (.a i)):b o:=by cases o with|a i=>exact k i z?|_=>exact Pz z?
theorem FD{a:Pr->Prop}{b:aa->Prop}(z?:tr o a)(k:∀i,a i->b (.E i)):b o:=by cases o with|E i=>exact k i z?|_=>exact Pz z?
theorem Fk{a:List aa->Prop}{b:aa->Prop}(z?:tm o a)(k:∀i,a i->b (.h i)):b o:=by cases o with|h i=>exact k i z?|_=>exact Pz z?
theorem pQ{a:Nat->Prop}{b:aa->Prop}(z?:gA o a)(k:∀i,a i->b (.b i)):b o:=by cases o with|b i=>exact k i z?|_=>exact Pz z?
theorem n5{b:Prop}{a:aa->Prop}(z?:cd o z b)(c:z->a (.g L))(d:b->a (.g J)):a o:=by cases o with
 |g e=>cases e with|true=>exact c z?|false=>exact d z?
 |_=>exact Pz z?
theorem Bd{b:List aa->Prop}{c:Option ca}(z?:aP c λa=>ea a b)(k:∀xs,c=O (.WE xs)->b xs->z):z:=cm z? λa d z?=>by cases a with|WE xs=>exact k xs d z?|_=>exact Pz z?
theorem Ds{d:Nat->List (Int×aa)->Prop}{e:Option ca}(z?:aP e λc=>n0 c d)(k:∀a b,e=O (.WN a b)->d a b->z):z:=cm z? λc f z?=>by cases c with|WN a b=>exact k a b f z?|_=>exact Pz z?
theorem CI{e:Nat->Nat->List (Nat×aa)->Prop}{f:Option ca}(z?:aP f λd=>nK d e)(k:∀a b c,f=O (.WO a b c)->e a b c->z):z:=cm z? λd g z?=>by cases d with|WO a b c=>exact k a b c g z?|_=>exact Pz z?
noncomputable def bq{E G:Type}(A:E->G->Prop)(C:List E):List G->Prop:=@QH E (λa=>List G->Prop) (λD=>@QH G (λa=>Prop) True (λa a a=>False) D) (λb a c D=>@QH G (λa=>Prop) False (λd D a=>A b d/\c D) D) C
section
variable{E G:Type}{A:E->G->Prop}
theorem bq.Xl{a:List E->List G->Prop}(e:a [] [])(f:∀b C c D,A b c->bq A C D->a C D->a (b::C) (c::D)){C:List E}:∀{D:List G},bq A C D->a C D:=@QH E (λC=>∀{D:List G},bq A C D->a C D) (λ{D}=>@QH G (λD=>bq A [] D->a [] D) (λd=>e) (λd d d z?=>Pz z?) D) (λb C g {D}=>@QH G (λD=>bq A (b::C) D->a (b::C) D) (λz?=>Pz z?) (λc D d z?=>f b C c D z?.1 z?.2 (g z?.2)) D) C
variable{C:List E}{D:List G}(z?:bq A C D)
include z?
theorem bq.W6{d e:Type}{b:d->e->Prop}{f:E->d}{c:G->e}(k:∀g h,A g h->b (f g) (c h)):bq b (C.map f) (D.map c):=z?.Xl (a:=λC D=>bq b (C.map f) (D.map c)) trivial λa a a a j a i=>⟨k _ _ j,i⟩
theorem bq.WR{b:E->G->Prop}(k:∀c d,A c d->b c d):bq b C D:=z?.Xl (a:=bq b) trivial λa a a a e a i=>⟨k _ _ e,i⟩
theorem bq.Yj{d:E->G->Prop}(k:∀b a,a∈D->A b a->d b a):bq d C D:=z?.Xl (a:=λ(C:List E) (D:List G)=>(∀b a,a∈D->A b a->d b a)->bq d C D) (λc=>trivial) (λc c c c e c i k=>⟨k _ _ (.head _) e,i λb a f=>k b a (.tail _ f)⟩) k
theorem bq.WJ:C.length=D.length:=z?.Xl (a:=λ(C:List E) (D:List G)=>C.length=D.length) rfl λa a a a a a i=>congrArg (·+1) i
theorem bq.W_{a:List E}{b:List G}(k:bq A a b):bq A (C++a) (D++b):=z?.Xl (a:=λ(C:List E) (D:List G)=>bq A (C++a) (D++b)) k λc C d D e f i=>show bq A (c::(C++a)) (d::(D++b))from⟨e,i⟩
theorem bq.W7(k:Nat):bq A (C.drop k) (D.drop k):=z?.Xl (a:=λC D=>∀k,bq A (C.drop k) (D.drop k)) (λk=>by erw[Uw,Uw];trivial) (λa a a a b c i k=>Tl (motive:=λk=>bq A (List.drop k _) (List.drop k _)) k ⟨b,c⟩ i) k
theorem bq.W3(k:Nat):bq A (C.take k) (D.take k):=z?.Xl (a:=λC D=>∀k,bq A (C.take k) (D.take k)) (λk=>by erw[Vw,Vw];trivial) (λa a a a b a i k=>Tl (motive:=λk=>bq A (List.take k _) (List.take k _)) k trivial λk=>⟨b,i k⟩) k
theorem bq.W0(k:Nat):(C[k]?=U/\D[k]?=U)\/∃a b,C[k]?=O a/\D[k]?=O b/\A a b:=z?.Xl (a:=λC D=>∀k:Nat,(C[k]?=U/\D[k]?=U)\/∃a b,C[k]?=O a/\D[k]?=O b/\A a b) (λc=>.inl ⟨rfl,rfl⟩) (λa c b c d c i k=>Tl (motive:=λk=>((_::_)[k]?=U/\(_::_)[k]?=U)\/∃a b,(_::_)[k]?=O a/\(_::_)[k]?=O b/\A a b) k (.inr ⟨a,b,rfl,rfl,d⟩) i) k
theorem bq.Xa(k:Nat){d:G}(a:D[k]?=O d):∃b,C[k]?=O b/\A b d:=by
 rcases z?.W0 k with c|⟨b,g,e,c,f⟩;·rw[c.2]at a;injection a
 .rw[c]at a;injection a with a;exact⟨b,e,a▸f⟩
theorem bq.Yq{d:E}(a:C[k]?=O d):∃b,D[k]?=O b/\A d b:=by
 rcases z?.W0 k with c|⟨g,b,e,c,f⟩;·rw[c.1]at a;injection a
 .rw[e]at a;injection a with a;exact⟨b,c,a▸f⟩
theorem bq.Xn(k:Nat){a:E}{b:G}(d:A a b):bq A (C.set k a) (D.set k b):=z?.Xl (a:=λC D=>∀k,bq A (C.set k a) (D.set k b)) (λc=>trivial) (λc c c c e f i k=>Tl (motive:=λk=>bq A (List.set _ k a) (List.set _ k b)) k ⟨d,f⟩ λk=>⟨e,i k⟩) k
theorem bq.XJ:bq A C.reverse D.reverse:=z?.Xl (a:=λC D=>bq A C.reverse D.reverse) trivial λa a a a b a i=>by erw[Ra,Ra];exact i.W_ ⟨b,trivial⟩
theorem bq.X6{b:G}(c:b∈D):∃a,a∈C/\A a b:=by obtain⟨k,d⟩:=List.mem_iff_getElem?.mp c;obtain⟨a,e,f⟩:=z?.Xa k d;exact⟨a,SX e,f⟩
end
end
noncomputable def D0:aI:=(.c (.p (.WI (.V (.YU (.d 0) .a) (.V (.M (.YU (.d 0) .g)) (.Y7 .YT .YT (.d 1) (.d 0) (.d 2)))))) .e)
noncomputable def D7:aI:=(.c (.l (.YF (.M (.YU (.d 0) .a)) (.YU (.d 0) .g)) (.c .D .e) .e) (.c (.p (.WI (.d 0))) .e))
noncomputable def D9:aI:=(.c (.l (.M (.Y7 .YT .YT (.f (.a (-2147483647))) (.k 1 (.c (.d 0) .e)) (.f (.a 2147483647)))) (.c .D .e) .e) (.c (.p (.WI (.d 0))) .e))
noncomputable def D_:aI:=(.c (.l (.M (.Y7 .YT .YT (.f (.a (-1073741823))) (.k 1 (.c (.d 0) .e)) (.f (.a 1073741823)))) (.c .D .e) .e) (.c (.p (.WI (.d 0))) .e))
noncomputable def Eo:aI:=(.c (.l (.YF (.M (.k 0 (.c (.d 3) (.c (.f (.a 0)) (.c (.f (.a 3)) .e))))) (.M (.k 0 (.c (.d 5) (.c (.f (.a 0)) (.c (.f (.a 3)) .e)))))) (.c .D .e) .e) (.c (.A (.d 0) 4 (.k 3 (.c (.d 1) .e))) (.c (.A (.d 0) 5 (.k 3 (.c (.d 2) .e))) (.c (.A (.d 0) 6 (.l (.j .YW (.d 2) (.f (.a 0))) (.d 3) (.f (.a 0)))) (.c (.A (.d 0) 7 (.k 3 (.c (.d 4) .e))) (.c (.A (.d 0) 8 (.l (.j .YW (.d 4) (.f (.a 0))) (.d 5) (.f (.a 0)))) .e))))))
noncomputable def jb:aI:=(.c (.p (.WI (.h (.c (.n (.d 0) 4) (.c (.n (.d 0) 5) (.c (.n (.d 0) 6) (.c (.n (.d 0) 7) (.c (.n (.d 0) 8) .e)))))))) .e)
noncomputable def D1:aI:=(.c (.p (.WI (.k 0 (.c (.d 0) (.c (.f (.a (-1073741823))) (.c (.f (.a 1073741823)) .e)))))) .e)
noncomputable def D8:aI:=(.c (.R (.z 1) (.X (.d 0)) (.c (.l (.M (.k 6 (.c (.d 1) .e))) (.c .D .e) .e) .e)) .e)
noncomputable def Ea:aI:=(.c (.R (.Y5 [2,3]) (.Xu (.d 0)) (.c (.l (.YF (.M (.k 0 (.c (.d 2) (.c (.f (.a 0)) (.c (.f (.a 255)) .e))))) (.YF (.M (.YU (.d 3) .W2)) (.j .YW (.o .WJ (.c (.d 3) .e)) (.f (.a 6))))) (.c .D .e) .e) (.c (.Y (.k 7 (.c (.Yv (.d 3) .WK (.WI (.f (.a 4)))) .e))) (.c (.Y0 [4,5] (.c (.y (.d 3) (.f (.a 4))) (.c (.y (.d 3) (.f (.a 5))) .e))) (.c (.l (.M (.k 0 (.c (.d 4) (.c (.f (.a 0)) (.c (.f (.a 3)) .e))))) (.c .D .e) .e) (.c (.l (.j .t (.d 4) (.f (.a 3))) (.c .D .e) (.c (.l (.YF (.M (.k 0 (.c (.d 5) (.c (.f (.a 0)) (.c (.f (.a 255)) .e))))) (.V (.j .t (.d 4) (.f (.a 1))) (.j .Zf (.d 5) (.d 1)))) (.c .D .e) .e) .e)) .e)))))) .e)
noncomputable def vY:aI:=(.c (.R (.z 1) (.X (.d 0)) (.c (.Y0 [2,3] (.c (.d 1) (.c (.f (.a 0)) .e))) (.c (.Za (.V (.j .Y9 (.d 2) (.d 0)) (.j .t (.y (.y (.d 0) (.d 2)) (.f (.a 4))) (.f (.a 2)))) (.c .D .e)) .e))) .e)
noncomputable def rf:aI:=(.c (.s 4 (.o .WJ (.c (.d 0) .e))) (.c (.R (.Y5 [5,6]) (.Xe (.d 0)) (.c (.l (.YF (.M (.YU (.d 6) .W2)) (.j .YW (.o .WJ (.c (.d 6) .e)) (.f (.a 4)))) (.c .D .e) .e) (.c (.R (.z 7) (.X (.d 6)) (.c (.l (.M (.k 0 (.c (.d 7) (.c (.f (.a 0)) (.c (.f (.a 255)) .e))))) (.c .D .e) .e) .e)) (.c (.ZC [8,9,10,11] (.d 6)) (.c (.l (.j .Y_ (.d 8) (.f (.a 128))) (.c (.l (.j .Zf (.m .WM (.m .YO (.f (.a 256)) (.d 10)) (.d 11)) (.d 4)) (.c .D .e) .e) (.c .Yz .e)) .e) (.c (.l (.V (.j .YW (.d 9) (.d 3)) (.j .ZE (.d 9) (.d 2))) (.c .D .e) .e) (.c (.l (.YF (.V (.j .YI (.d 10) (.f (.a 128))) (.j .ZE (.d 11) (.d 2))) (.V (.j .Zf (.d 10) (.f (.a 128))) (.j .Zf (.m .WM (.m .YO (.f (.a 256)) (.m .WV (.d 10) (.f (.a 128)))) (.d 11)) (.o .WJ (.c (.d 1) .e))))) (.c .D .e) .e) (.c (.l (.V (.j .YI (.d 8) (.f (.a 128))) (.j .Zf (.m .WM (.m .WM (.d 5) (.d 8)) (.f (.a 1))) (.d 4))) (.c .D .e) .e) .e)))))))) .e))
noncomputable def q_:aI:=(.c (.l (.j .t (.o .WJ (.c (.d 0) .e)) (.f (.a 0))) (.c (.p (.WI (.f (.a (-1))))) .e) .e) (.c (.ZC [1,2,3,4] (.y (.d 0) (.f (.a (-1))))) (.c (.p (.WI (.l (.j .t (.d 1) (.f (.a 255))) (.m .WM (.m .YO (.f (.a 256)) (.d 3)) (.d 4)) (.f (.a (-1)))))) .e)))
noncomputable def ml:aI:=(.c (.l (.YF (.M (.k 0 (.c (.d 1) (.c (.f (.a 1)) (.c (.f (.a 255)) .e))))) (.YF (.M (.YU (.d 2) .E)) (.YF (.j .t (.d 2) (.f (.E (Q' "")))) (.M (.k 0 (.c (.d 3) (.c (.f (.a 1)) (.c (.f (.a 134217727)) .e)))))))) (.c .D .e) .e) (.c (.l (.YF (.M (.k 0 (.c (.d 8) (.c (.f (.a 0)) (.c (.f (.a 256)) .e))))) (.j .Y_ (.o .WJ (.c (.d 4) .e)) (.f (.a 64)))) (.c .D .e) .e) (.c (.Y (.k 7 (.c (.d 4) .e))) (.c (.Y (.k 7 (.c (.d 7) .e))) (.c (.Y (.k 8 (.c (.d 5) (.c (.o .WJ (.c (.d 6) .e)) .e)))) (.c (.Y (.k 9 (.c (.d 5) .e))) (.c (.Y (.k 10 (.c (.d 6) (.c (.d 7) (.c (.d 5) (.c (.d 8) .e)))))) (.c (.A (.d 0) 9 (.d 1)) (.c (.A (.d 0) 10 (.d 2)) (.c (.A (.d 0) 11 (.d 3)) (.c (.A (.d 0) 12 (.d 3)) (.c (.A (.d 0) 13 (.f (.a 0))) (.c (.A (.d 0) 14 (.o .WE (.c (.d 4) .e))) (.c (.A (.d 0) 15 (.o .WN (.c (.d 5) .e))) (.c (.A (.d 0) 16 (.o .W2 (.c (.d 6) .e))) (.c (.A (.d 0) 17 (.o .W2 (.c (.d 7) .e))) (.c (.A (.d 0) 18 (.d 8)) (.c (.A (.d 0) 19 (.k 11 (.c (.d 6) .e))) (.c (.A (.d 0) 20 (.f (.a 45))) (.c (.A (.d 0) 21 (.f (.a (-1)))) .e))))))))))))))))))))
noncomputable def mm:aI:=(.c (.p (.WI (.j .Y9 (.d 1) (.n (.d 0) 15)))) .e)
noncomputable def ka:aI:=(.c (.l (.j .t (.d 1) (.f (.a 256))) (.c (.p (.WI (.n (.d 0) 19))) .e) .e) (.c (.s 2 (.N (.n (.d 0) 15) 3 (.c (.d 1) (.c (.f (.h [(.a 0),(.a 0),(.a 0),(.a 0),(.a 0),(.a 0)])) .e)))) (.c (.p (.WI (.l (.j .t (.y (.d 2) (.f (.a 4))) (.f (.a 1))) (.y (.d 2) (.f (.a 5))) (.f (.a (-1)))))) .e)))
noncomputable def D4:aI:=(.c (.s 1 (.m .WV (.d 0) (.f (.a 1)))) (.c (.s 2 (.y (.f (.E (Q' "abcdefghjklmnopqrstuvwxyz"))) (.m .Zl (.d 1) (.f (.a 25))))) (.c (.Za (.j .Zf (.d 1) (.f (.a 25))) (.c .D .e)) (.c (.p (.WI (.m .WM (.f (.E (Q' "f"))) (.d 2)))) .e))))
noncomputable def vU:aI:=(.c (.l (.M (.k 0 (.c (.d 0) (.c (.f (.a 1)) (.c (.f (.a 255)) .e))))) (.c .D .e) .e) (.c (.s 6 .ZH) (.c (.R (.z 7) (.X (.d 1)) (.c (.l (.YF (.M (.Y7 .YT .YT (.f (.a 4)) (.o .WJ (.c (.d 7) .e)) (.f (.a 7)))) (.j .Y9 (.y (.d 7) (.f (.a 0))) (.d 6))) (.c .D .e) .e) (.c (.Zh (.d 6) (.y (.d 7) (.f (.a 0))) (.Yv (.m .WM (.o .W2 (.c (.d 7) .e)) (.h (.c (.f (.a 0)) (.c (.f (.a 0)) (.c (.f (.a 0)) .e))))) (.WI (.f (.a 1))) (.WI (.f (.a 7))))) .e))) (.c (.p (.WI (.WH 1 (.c (.d 0) (.c (.k 15 (.c (.d 0) .e)) (.c (.f (.a 655360)) (.c (.d 2) (.c (.d 6) (.c (.d 3) (.c (.d 4) (.c (.d 5) .e))))))))))) .e))))
noncomputable def D':aI:=(.c (.l (.M (.k 0 (.c (.d 0) (.c (.f (.a 0)) (.c (.f (.a 255)) .e))))) (.c .D .e) .e) (.c (.p (.WI (.d 0))) .e))
noncomputable def vW:aI:=(.c (.R (.z 1) (.X (.d 0)) (.c (.l (.j .Y_ (.n (.d 1) 22) (.f (.a 5))) (.c .D .e) .e) .e)) (.c (.p (.WI (.d 0))) .e))
noncomputable def Er:aI:=(.c (.A (.d 0) 23 (.d 1)) (.c (.A (.d 0) 24 (.k 17 (.c (.d 2) .e))) .e))
noncomputable def Em:aI:=(.c (.A (.d 0) 23 (.d 1)) (.c (.A (.d 0) 24 (.k 17 (.c (.d 2) .e))) (.c (.A (.d 0) 25 (.o .W2 (.c (.W1 6 (.d 3) (.f (.g L)) (.k 17 (.c (.d 6) .e))) .e))) (.c (.A (.d 0) 26 (.d 4)) (.c (.A (.d 0) 27 (.d 5)) .e)))))
noncomputable def Ef:aI:=(.c (.R (.z 4) (.X (.h (.c (.d 1) (.c (.d 2) (.c (.d 3) .e))))) (.c (.l (.Zy (.d 4)) (.c (.Y (.k 3 (.c (.d 4) .e))) .e) .e) .e)) (.c (.A (.d 0) 4 (.d 1)) (.c (.A (.d 0) 28 (.d 2)) (.c (.A (.d 0) 29 (.d 3)) .e))))
noncomputable def En:aI:=(.c (.l (.M (.k 0 (.c (.d 2) (.c (.f (.a 0)) (.c (.f (.a 3)) .e))))) (.c .D .e) .e) (.c (.A (.d 0) 4 (.k 3 (.c (.d 1) .e))) (.c (.A (.d 0) 30 (.d 2)) .e)))
noncomputable def Ee:aI:=(.c (.l (.V (.M (.k 0 (.c (.d 2) (.c (.f (.a 0)) (.c (.f (.a 5)) .e))))) (.M (.k 0 (.c (.d 2) (.c (.f (.a 100)) (.c (.m .WM (.f (.a 100)) (.f (.a 99))) .e)))))) (.c .D .e) .e) (.c (.l (.j .t (.Zn (.d 3)) (.Y7 .YT .YT (.f (.a 1)) (.d 2) (.f (.a 3)))) (.c .D .e) .e) (.c (.l (.V (.Zy (.d 3)) (.M (.Y7 .YT .YT (.f (.a 2)) (.n (.d 3) 22) (.f (.a 4))))) (.c .D .e) .e) (.c (.A (.d 0) 31 (.d 1)) (.c (.A (.d 0) 30 (.d 2)) (.c (.A (.d 0) 32 (.d 3)) .e))))))
noncomputable def Eg:aI:=(.c (.A (.d 0) 33 (.k 2 (.c (.d 1) .e))) .e)
noncomputable def Ep:aI:=(.c (.A (.d 0) 34 (.k 18 (.c (.d 1) .e))) (.c (.A (.d 0) 35 (.k 18 (.c (.d 2) .e))) (.c (.A (.d 0) 36 (.k 18 (.c (.d 3) .e))) .e)))
noncomputable def Ek:aI:=(.c (.A (.d 0) 37 (.o .W2 (.c (.d 1) .e))) .e)
noncomputable def Ej:aI:=(.c (.A (.d 0) 38 (.d 1)) (.c (.A (.d 0) 4 (.k 3 (.c (.d 2) .e))) .e))
noncomputable def vZ:aI:=(.c (.l (.j .Y_ (.d 0) (.f (.a 60))) (.c .D .e) .e) .e)
noncomputable def D6:aI:=(.c (.s 2 (.n (.d 0) 22)) (.c (.l (.j .t (.d 2) (.f (.a 8))) (.c (.p (.WI (.h (.c (.f (.a 8)) (.c (.k 31 (.c (.n (.d 0) 34) (.c (.m .WM (.d 1) (.f (.a 1))) .e))) (.c (.k 31 (.c (.n (.d 0) 35) (.c (.m .WM (.d 1) (.f (.a 1))) .e))) (.c (.k 31 (.c (.n (.d 0) 36) (.c (.m .WM (.d 1) (.f (.a 1))) .e))) .e))))))) .e) .e) (.c .D .e)))
noncomputable def vV:aI:=(.c (.Y (.k 28 (.c (.d 1) .e))) (.c (.s 2 (.n (.d 0) 22)) (.c (.l (.j .t (.d 2) (.f (.a 0))) (.c (.p (.WI (.h (.c (.f (.a 0)) (.c (.n (.n (.d 0) 23) 9) (.c (.n (.d 0) 24) .e)))))) .e) .e) (.c (.l (.j .t (.d 2) (.f (.a 1))) (.c (.p (.WI (.h (.c (.f (.a 1)) (.c (.n (.n (.d 0) 23) 9) (.c (.n (.d 0) 24) (.c (.n (.d 0) 25) (.c (.l (.n (.d 0) 26) (.f (.a 1)) (.f (.a 0))) (.c (.l (.n (.d 0) 27) (.f (.a 1)) (.f (.a 0))) .e))))))))) .e) .e) (.c (.l (.YF (.j .t (.d 2) (.f (.a 2))) (.j .t (.d 2) (.f (.a 3)))) (.c .D .e) .e) (.c (.l (.j .t (.d 2) (.f (.a 4))) (.c (.p (.WI (.m .WM (.h (.c (.f (.a 4)) .e)) (.o .W2 (.c (.W1 4 (.h (.c (.n (.d 0) 4) (.c (.n (.d 0) 28) (.c (.n (.d 0) 29) .e)))) (.f (.g L)) (.l (.Zn (.d 4)) (.h .e) (.h (.c (.d 4) .e)))) .e))))) .e) .e) (.c (.l (.j .t (.d 2) (.f (.a 5))) (.c (.p (.WI (.h (.c (.f (.a 5)) (.c (.n (.d 0) 4) (.c (.n (.d 0) 30) .e)))))) .e) .e) (.c (.l (.j .t (.d 2) (.f (.a 6))) (.c (.p (.WI (.h (.c (.f (.a 6)) (.c (.N (.n (.d 0) 31) 25 .e) (.c (.n (.d 0) 30) (.c (.l (.Zn (.n (.d 0) 32)) (.h .e) (.k 30 (.c (.n (.d 0) 32) (.c (.m .WM (.d 1) (.f (.a 1))) .e)))) .e))))))) .e) .e) (.c (.l (.j .t (.d 2) (.f (.a 7))) (.c (.p (.WI (.h (.c (.f (.a 7)) (.c (.n (.d 0) 33) .e))))) .e) .e) (.c (.l (.j .t (.d 2) (.f (.a 9))) (.c (.p (.WI (.h (.c (.f (.a 9)) (.c (.n (.d 0) 37) .e))))) .e) .e) (.c (.l (.j .t (.d 2) (.f (.a 12))) (.c (.p (.WI (.h (.c (.f (.a 12)) (.c (.l (.n (.d 0) 38) (.f (.a 1)) (.f (.a 0))) (.c (.n (.d 0) 4) .e)))))) .e) .e) (.c (.p (.WI (.k 29 (.c (.d 0) (.c (.d 1) .e))))) .e))))))))))))
noncomputable def rd:aI:=(.c (.p (.WI (.o .W2 (.c (.W1 2 (.d 0) (.f (.g L)) (.k 30 (.c (.d 2) (.c (.d 1) .e)))) .e)))) .e)
noncomputable def n_:aI:=(.c (.s 3 (.N (.d 0) 39 (.c (.d 1) .e))) (.c (.l (.YF (.j .YI (.d 3) (.f (.a 0))) (.j .t (.d 2) (.f (.a 256)))) (.c (.p (.WI (.f .WK))) .e) .e) (.c (.s 4 (.n (.d 0) 16)) (.c (.l (.V (.j .YW (.d 1) (.f (.a 256))) (.j .Y_ (.y (.y (.d 4) (.d 3)) (.f (.a 0))) (.f (.a 128)))) (.c .D .e) .e) (.c (.s 5 (.f (.g L))) (.c (.Za (.d 5) (.c (.ZC [6,7,8,9] (.y (.d 4) (.d 3))) (.c (.l (.V (.j .t (.d 7) (.d 2)) (.j .YT (.d 6) (.f (.a 128)))) (.c (.l (.j .Zf (.d 8) (.f (.a 128))) (.c (.p (.WI (.h (.c (.f (.a 0)) (.c (.y (.n (.d 0) 17) (.m .WM (.m .YO (.f (.a 256)) (.m .WV (.d 8) (.f (.a 128)))) (.d 9))) .e))))) .e) .e) (.c (.p (.WI (.h (.c (.m .WM (.l (.j .Y9 (.d 8) (.f (.h [(.a 0),(.a 1),(.a 2),(.a 3),(.a 5),(.a 6),(.a 7),(.a 11)]))) (.d 8) (.f (.a 0))) (.f (.a 1))) (.c (.d 9) .e))))) .e)) .e) (.c (.s 5 (.j .YI (.d 6) (.f (.a 128)))) (.c (.s 3 (.m .WM (.m .WM (.d 3) (.d 6)) (.f (.a 1)))) .e))))) (.c (.p (.WI (.f .WK))) .e)))))))
noncomputable def rg:aI:=(.c (.A (.d 0) 23 (.d 1)) (.c (.A (.d 0) 40 (.W1 5 (.ZW (.d 2)) (.f (.g L)) (.h (.c (.d 5) (.c (.h (.c (.d 5) .e)) (.c (.f (.g J)) .e)))))) (.c (.A (.d 0) 41 (.l (.d 3) (.f .WK) (.N (.n (.d 0) 40) 1 .e))) (.c (.A (.d 0) 42 (.d 4)) (.c (.A (.d 0) 43 (.x .e)) (.c (.A (.d 0) 44 (.f (.g J))) (.c (.A (.d 0) 45 (.f (.g J))) (.c (.A (.d 0) 46 (.f (.g L))) .e))))))))
noncomputable def vQ:aI:=(.c (.l (.Zn (.n (.d 0) 41)) (.c (.p .WK) .e) .e) (.c (.ZC [1,2,3] (.n (.d 0) 41)) (.c (.l (.d 3) (.c (.Y (.N (.n (.d 0) 43) 0 (.c (.WH 3 (.c (.n (.d 0) 23) (.c (.d 1) (.c (.d 2) (.c (.n (.d 0) 44) (.c (.V (.n (.d 0) 45) (.j .t (.n (.d 0) 40) (.x .e))) .e)))))) .e))) (.c (.A (.d 0) 44 (.f (.g J))) .e)) (.c (.Y (.N (.n (.d 0) 43) 0 (.c (.WH 2 (.c (.n (.d 0) 23) (.c (.d 1) .e))) .e))) .e)) .e)))
noncomputable def DR:aI:=(.c (.Y (.k 34 (.c (.d 0) .e))) (.c (.l (.j .t (.n (.d 0) 40) (.x .e)) (.c (.A (.d 0) 46 (.f (.g J))) .e) (.c (.A (.d 0) 41 (.N (.n (.d 0) 40) 1 .e)) .e)) .e))
noncomputable def j8:aI:=(.c (.s 3 (.n (.d 0) 41)) (.c (.l (.Zn (.d 3)) (.c (.A (.d 0) 44 (.f (.g L))) .e) (.c (.l (.j .t (.n (.d 0) 40) (.x .e)) (.c (.A (.d 0) 45 (.f (.g L))) .e) .e) .e)) (.c (.Y0 [4,5] (.c (.j .t (.m .Zl (.m .ZZ (.d 1) (.f (.a 2))) (.f (.a 2))) (.f (.a 1))) (.c (.j .t (.m .Zl (.d 1) (.f (.a 2))) (.f (.a 1))) .e))) (.c (.s 6 (.l (.V (.Zy (.d 3)) (.M (.d 4))) (.y (.d 3) (.f (.a 1))) (.h .e))) (.c (.l (.V (.M (.d 5)) (.j .t (.n (.d 0) 40) (.x .e))) (.c (.A (.d 0) 42 (.f (.a 256))) .e) (.c (.l (.M (.d 5)) (.c (.s 7 (.N (.n (.d 0) 40) 1 .e)) (.c (.s 6 (.m .WM (.d 6) (.y (.d 7) (.f (.a 1))))) .e)) .e) .e)) (.c (.s 8 (.h (.c (.d 2) (.c (.d 6) (.c (.f (.g L)) .e))))) (.c (.l (.d 4) (.c (.Y (.N (.n (.d 0) 40) 0 (.c (.d 8) .e))) .e) (.c (.A (.d 0) 41 (.d 8)) .e)) (.c (.R (.z 9) (.X (.o .WW (.c (.m .ZZ (.d 1) (.f (.a 4))) .e))) (.c (.Y (.k 35 (.c (.d 0) .e))) .e)) .e))))))))
noncomputable def mh:aI:=(.c (.l (.j .t (.d 1) (.x .e)) (.c (.p (.WI (.x .e))) .e) .e) (.c (.s 4 (.WH 11 (.c (.d 0) (.c (.d 1) (.c (.V (.d 2) (.j .Zf (.N (.d 0) 39 (.c (.f (.a 256)) .e)) (.f (.a 0)))) (.c (.d 3) .e)))))) (.c (.s 5 (.m .YO (.f (.a 20)) (.m .WM (.o .WJ (.c (.d 1) .e)) (.f (.a 1))))) (.c (.Za (.n (.d 4) 46) (.c (.s 6 (.l (.Zn (.n (.d 4) 41)) (.f (.a 256)) (.y (.n (.d 4) 41) (.f (.a 0))))) (.c (.s 7 (.l (.j .t (.n (.d 4) 40) (.x .e)) (.n (.d 4) 42) (.y (.y (.n (.d 4) 40) (.f (.a (-1)))) (.f (.a 0))))) (.c (.s 8 (.k 32 (.c (.d 0) (.c (.d 6) (.c (.d 7) .e))))) (.c (.l (.Zn (.d 8)) (.c (.Y (.k 35 (.c (.d 4) .e))) .e) (.c (.l (.j .t (.y (.d 8) (.f (.a 0))) (.f (.a 0))) (.c (.Y (.k 35 (.c (.d 4) .e))) (.c (.Y (.N (.n (.d 4) 43) 0 (.c (.WH 5 (.c (.y (.d 8) (.f (.a 1))) (.c (.f (.a 0)) .e))) .e))) .e)) (.c (.l (.j .t (.d 5) (.f (.a 0))) (.c .D .e) (.c (.s 5 (.m .WV (.d 5) (.f (.a 1)))) (.c (.Y (.k 36 (.c (.d 4) (.c (.m .WV (.y (.d 8) (.f (.a 0))) (.f (.a 1))) (.c (.y (.d 8) (.f (.a 1))) .e))))) .e))) .e)) .e)) .e))))) (.c (.p (.WI (.n (.d 4) 43))) .e)))))
noncomputable def hT:aI:=(.c (.R (.z 4) (.X (.d 1)) (.c (.l (.M (.k 0 (.c (.d 4) (.c (.f (.a 0)) (.c (.f (.a 255)) .e))))) (.c .D .e) .e) .e)) (.c (.s 5 (.x .e)) (.c (.s 6 (.x .e)) (.c (.s 7 (.d 2)) (.c (.R (.z 4) (.X (.d 1)) (.c (.l (.N (.d 0) 47 (.c (.d 4) .e)) (.c (.Y (.N (.d 6) 0 (.c (.d 4) .e))) (.c .Yz .e)) .e) (.c (.Y (.N (.d 5) 2 (.c (.k 37 (.c (.d 0) (.c (.d 6) (.c (.d 7) (.c (.f (.a 256)) .e))))) .e))) (.c (.s 6 (.x .e)) (.c (.s 7 (.f (.g L))) .e))))) (.c (.Y (.N (.d 5) 2 (.c (.k 37 (.c (.d 0) (.c (.d 6) (.c (.d 7) (.c (.l (.d 3) (.n (.d 0) 18) (.f (.a 256))) .e))))) .e))) (.c (.p (.WI (.d 5))) .e)))))))
noncomputable def vT:aI:=(.c (.p (.WI (.V (.j .t (.n (.d 0) 22) (.f (.a 5))) (.j .t (.n (.d 0) 30) (.f (.a 0)))))) .e)
noncomputable def re:aI:=(.c (.l (.j .t (.n (.d 0) 22) (.f (.a 0))) (.c (.p (.WI (.h (.c (.n (.d 0) 24) .e)))) .e) .e) (.c (.p (.WI (.l (.j .t (.n (.d 0) 22) (.f (.a 1))) (.n (.d 0) 25) (.h .e)))) .e))
noncomputable def rb:aI:=(.c (.l (.YF (.j .t (.n (.d 0) 22) (.f (.a 0))) (.j .t (.n (.d 0) 22) (.f (.a 1)))) (.c (.p (.WI (.j .t (.n (.n (.d 0) 23) 9) (.n (.d 1) 9)))) .e) .e) (.c (.p (.WI (.k 39 (.c (.d 0) .e)))) .e))
noncomputable def D5:aI:=(.c (.R (.z 4) (.X (.o .WW (.c (.m .WM (.d 1) (.f (.a 1))) (.c (.o .WJ (.c (.d 0) .e)) .e)))) (.c (.s 5 (.y (.d 0) (.d 4))) (.c (.l (.V (.j .YW (.n (.d 5) 22) (.f (.a 0))) (.V (.j .YW (.n (.d 5) 22) (.f (.a 1))) (.V (.j .YW (.n (.d 5) 22) (.f (.a 13))) (.M (.k 39 (.c (.d 5) .e)))))) (.c (.p (.WI (.f (.a (-1))))) .e) .e) (.c (.s 6 (.k 40 (.c (.d 5) .e))) (.c (.s 7 (.l (.j .YW (.d 6) (.h .e)) (.N (.d 2) 48 (.c (.y (.d 6) (.f (.a 0))) .e)) (.f (.a 0)))) (.c (.l (.j .YW (.d 7) (.f (.a 0))) (.c (.p (.WI (.l (.YF (.j .t (.d 7) (.y (.d 6) (.f (.a 0)))) (.d 3)) (.d 4) (.f (.a (-1)))))) .e) .e) .e)))))) (.c (.p (.WI (.f (.a (-1))))) .e))
noncomputable def D2:aI:=(.c (.R (.z 2) (.X (.Yv (.d 0) (.WI (.d 1)) .WK)) (.c (.l (.V (.j .YW (.n (.d 2) 22) (.f (.a 0))) (.V (.j .YW (.n (.d 2) 22) (.f (.a 1))) (.M (.k 39 (.c (.d 2) .e))))) (.c (.p (.WI (.j .Y9 (.n (.d 2) 22) (.f (.h [(.a 5),(.a 13),(.a 6),(.a 7),(.a 10),(.a 11),(.a 9)]))))) .e) .e) .e)) (.c (.p (.WI (.f (.g L)))) .e))
noncomputable def q9:aI:=(.c (.s 4 (.k 42 (.c (.d 0) (.c (.d 1) (.c (.d 2) (.c (.d 3) .e)))))) (.c (.l (.YF (.j .YI (.d 4) (.f (.a 0))) (.M (.Y7 .YT .YT (.f (.a 0)) (.n (.n (.y (.d 0) (.d 4)) 23) 20) (.f (.a 255))))) (.c (.p (.WI (.f .WK))) .e) .e) (.c (.s 5 (.n (.y (.d 0) (.d 4)) 23)) (.c (.s 6 (.x .e)) (.c (.s 7 (.d 4)) (.c (.Za (.V (.j .YI (.d 7) (.o .WJ (.c (.d 0) .e))) (.k 41 (.c (.y (.d 0) (.d 7)) (.c (.d 5) .e)))) (.c (.s 8 (.W1 9 (.k 40 (.c (.y (.d 0) (.d 7)) .e)) (.f (.g L)) (.N (.d 2) 48 (.c (.d 9) .e)))) (.c (.l (.YF (.j .Y9 (.f (.a 0)) (.d 8)) (.j .Y_ (.m .WM (.o .WJ (.c (.d 6) .e)) (.o .WJ (.c (.d 8) .e))) (.f (.a 63)))) (.c .YA .e) .e) (.c (.Y (.N (.d 6) 2 (.c (.d 8) .e))) (.c (.Zc 7 .WM (.f (.a 1))) .e))))) (.c (.p (.WI (.l (.k 43 (.c (.d 0) (.c (.d 7) .e))) (.h (.c (.d 4) (.c (.d 7) (.c (.d 6) .e)))) (.f .WK)))) .e)))))))
noncomputable def n9:aI:=(.c (.l (.j .t (.n (.d 0) 22) (.f (.a 0))) (.c (.p (.WI (.h (.c (.f (.a 0)) (.c (.n (.n (.d 0) 23) 9) (.c (.n (.d 0) 24) .e)))))) .e) .e) (.c (.l (.j .t (.n (.d 0) 22) (.f (.a 1))) (.c (.p (.WI (.h (.c (.f (.a 1)) (.c (.n (.n (.d 0) 23) 9) (.c (.n (.d 0) 24) (.c (.n (.d 0) 25) (.c (.n (.d 0) 26) (.c (.n (.d 0) 27) .e))))))))) .e) .e) (.c (.l (.j .t (.n (.d 0) 22) (.f (.a 5))) (.c (.p (.WI (.h (.c (.f (.a 5)) (.c (.n (.d 0) 4) (.c (.n (.d 0) 30) .e)))))) .e) .e) (.c .D .e))))
noncomputable def vP:aI:=(.c (.p (.WI (.W1 1 (.d 0) (.f (.g L)) (.k 45 (.c (.d 1) .e))))) .e)
noncomputable def DS:aI:=(.c (.Y0 [1,2] (.c (.f (.a 0)) (.c (.f (.a 0)) .e))) (.c (.Za (.V (.j .YI (.d 1) (.o .WJ (.c (.d 0) .e))) (.j .t (.n (.y (.d 0) (.d 1)) 22) (.f (.a 5)))) (.c (.Zc 1 .WM (.f (.a 1))) .e)) (.c (.Za (.V (.j .YI (.d 2) (.m .WV (.o .WJ (.c (.d 0) .e)) (.d 1))) (.j .t (.n (.y (.d 0) (.m .WV (.m .WV (.o .WJ (.c (.d 0) .e)) (.f (.a 1))) (.d 2))) 22) (.f (.a 5)))) (.c (.Zc 2 .WM (.f (.a 1))) .e)) (.c (.p (.WI (.h (.c (.d 1) (.c (.d 2) .e))))) .e))))
noncomputable def fo:aI:=(.c (.A (.d 0) 23 (.n (.y (.d 1) (.d 2)) 23)) (.c (.Y0 [4,5] (.c (.d 2) (.c (.d 3) .e))) (.c (.Za (.V (.j .Y_ (.d 4) (.f (.a 0))) (.k 41 (.c (.y (.d 1) (.m .WV (.d 4) (.f (.a 1)))) (.c (.n (.d 0) 23) .e)))) (.c (.Zc 4 .WV (.f (.a 1))) .e)) (.c (.Za (.V (.j .YI (.d 5) (.o .WJ (.c (.d 1) .e))) (.k 41 (.c (.y (.d 1) (.d 5)) (.c (.n (.d 0) 23) .e)))) (.c (.Zc 5 .WM (.f (.a 1))) .e)) (.c (.ZC [6,7] (.k 47 (.c (.Yv (.d 1) (.WI (.d 4)) (.WI (.d 5))) .e))) (.c (.A (.d 0) 49 (.m .WM (.d 4) (.d 6))) (.c (.A (.d 0) 50 (.m .WV (.d 5) (.d 7))) (.c (.A (.d 0) 51 (.x .e)) (.c (.R (.z 8) (.X (.Yv (.d 1) (.WI (.n (.d 0) 49)) (.WI (.n (.d 0) 50)))) (.c (.Y (.N (.n (.d 0) 51) 2 (.c (.k 40 (.c (.d 8) .e)) .e))) .e)) (.c (.A (.d 0) 26 (.f (.g J))) (.c (.A (.d 0) 27 (.f (.g J))) (.c (.Y (.N (.d 0) 52 (.c (.d 1) .e))) (.c (.A (.d 0) 53 (.Yv (.d 1) (.WI (.n (.d 0) 49)) (.WI (.n (.d 0) 50)))) (.c (.A (.d 0) 54 (.x (.c (.f (.a 0)) .e))) (.c (.R (.z 8) (.X (.n (.d 0) 53)) (.c (.Y (.N (.n (.d 0) 54) 0 (.c (.m .WM (.y (.n (.d 0) 54) (.f (.a (-1)))) (.o .WJ (.c (.k 40 (.c (.d 8) .e)) .e))) .e))) .e)) .e)))))))))))))))
noncomputable def Eb:aI:=(.c (.R (.Y5 [2,3]) (.X (.h (.c (.h (.c (.f (.g L)) (.c (.f (.g L)) .e))) (.c (.h (.c (.f (.g J)) (.c (.f (.g L)) .e))) (.c (.h (.c (.f (.g L)) (.c (.f (.g J)) .e))) (.c (.h (.c (.f (.g J)) (.c (.f (.g J)) .e))) .e)))))) (.c (.s 4 (.k 38 (.c (.n (.d 0) 23) (.c (.n (.d 0) 51) (.c (.d 2) (.c (.d 3) .e)))))) (.c (.ZC [5,6] (.k 47 (.c (.d 4) .e))) (.c (.l (.j .t (.k 46 (.c (.d 4) .e)) (.k 46 (.c (.Yv (.d 1) (.WI (.m .WV (.n (.d 0) 49) (.d 5))) (.WI (.m .WM (.n (.d 0) 50) (.d 6)))) .e))) (.c (.A (.d 0) 26 (.d 2)) (.c (.A (.d 0) 27 (.d 3)) (.c (.Z_ (.d 0) 49 .WV (.d 5)) (.c (.Z_ (.d 0) 50 .WM (.d 6)) (.c (.p .WK) .e))))) .e) .e)))) .e)
noncomputable def Ed:aI:=(.c (.s 3 (.f (.a 0))) (.c (.Za (.V (.j .YI (.d 3) (.o .WJ (.c (.n (.d 0) 53) .e))) (.V (.j .YI (.d 3) (.o .WJ (.c (.d 1) .e))) (.j .YT (.y (.n (.d 0) 54) (.m .WM (.d 3) (.f (.a 1)))) (.d 2)))) (.c (.l (.j .YW (.k 45 (.c (.y (.n (.d 0) 53) (.d 3)) .e)) (.k 45 (.c (.y (.d 1) (.d 3)) .e))) (.c .YA .e) .e) (.c (.Zc 3 .WM (.f (.a 1))) .e))) (.c (.p (.WI (.d 3))) .e)))
noncomputable def Ec:aI:=(.c (.s 4 (.f (.a 0))) (.c (.s 5 (.m .WV (.o .WJ (.c (.n (.d 0) 53) .e)) (.f (.a 1)))) (.c (.Za (.V (.j .Zf (.d 5) (.d 3)) (.V (.j .YI (.d 4) (.o .WJ (.c (.d 1) .e))) (.j .Zf (.y (.n (.d 0) 54) (.d 5)) (.d 2)))) (.c (.l (.j .YW (.k 45 (.c (.y (.n (.d 0) 53) (.d 5)) .e)) (.k 45 (.c (.y (.d 1) (.m .WV (.m .WV (.o .WJ (.c (.d 1) .e)) (.f (.a 1))) (.d 4))) .e))) (.c .YA .e) .e) (.c (.Zc 4 .WM (.f (.a 1))) (.c (.Zc 5 .WV (.f (.a 1))) .e)))) (.c (.p (.WI (.d 4))) .e))))
noncomputable def j':aI:=(.c (.s 2 (.l (.N (.n (.d 0) 23) 47 (.c (.n (.n (.d 0) 23) 20) .e)) (.x (.c (.n (.n (.d 0) 23) 20) .e)) (.x .e))) (.c (.s 3 (.x .e)) (.c (.s 4 (.f (.a 0))) (.c (.R (.z 5) (.X (.d 1)) (.c (.s 6 (.k 38 (.c (.n (.d 0) 23) (.c (.m .WM (.Yv (.n (.d 0) 51) .WK (.WI (.d 5))) (.d 2)) (.c (.n (.d 0) 26) (.c (.f (.g L)) .e)))))) (.c (.s 7 (.k 38 (.c (.n (.d 0) 23) (.c (.Yv (.n (.d 0) 51) (.WI (.d 5)) .WK) (.c (.f (.g L)) (.c (.n (.d 0) 27) .e)))))) (.c (.s 8 (.N (.d 0) 55 (.c (.d 6) (.c (.d 5) .e)))) (.c (.l (.j .YI (.d 8) (.d 4)) (.c .Yz .e) .e) (.c (.s 9 (.N (.d 0) 56 (.c (.d 7) (.c (.d 5) (.c (.d 8) .e))))) (.c (.s 10 (.m .WV (.o .WJ (.c (.n (.d 0) 53) .e)) (.d 9))) (.c (.Y (.N (.d 3) 2 (.c (.Yv (.n (.d 0) 53) (.WI (.d 4)) (.WI (.d 8))) .e))) (.c (.Y (.N (.d 3) 0 (.c (.WH 8 (.c (.Yv (.d 6) (.WI (.d 8)) .WK) (.c (.Yv (.d 7) .WK (.WI (.m .WV (.o .WJ (.c (.d 7) .e)) (.d 9)))) (.c (.Yv (.n (.d 0) 53) (.WI (.d 8)) (.WI (.d 10))) .e)))) .e))) (.c (.s 4 (.d 10)) .e)))))))))) (.c (.p (.WI (.m .WM (.d 3) (.Yv (.n (.d 0) 53) (.WI (.d 4)) .WK)))) .e)))))
noncomputable def vN:aI:=(.c (.p (.WI (.o .Zr (.c (.W1 3 (.Yv (.d 1) (.WI (.n (.d 0) 49)) (.WI (.d 2))) (.f (.g L)) (.o .WJ (.c (.k 40 (.c (.d 3) .e)) .e))) .e)))) .e)
noncomputable def D3:aI:=(.c (.s 6 (.x .e)) (.c (.s 7 (.f (.a 0))) (.c (.s 8 (.f (.g L))) (.c (.Za (.j .YI (.d 7) (.o .WJ (.c (.d 0) .e))) (.c (.s 9 (.y (.d 0) (.d 7))) (.c (.Y (.N (.d 6) 0 (.c (.d 9) .e))) (.c (.Zc 7 .WM (.f (.a 1))) (.c (.l (.j .t (.n (.d 9) 22) (.f (.a 12))) (.c (.s 8 (.M (.n (.d 9) 38))) .e) .e) (.c (.s 10 (.l (.V (.j .t (.n (.d 9) 22) (.f (.a 6))) (.d 8)) (.k 44 (.c (.d 0) (.c (.m .WV (.d 7) (.f (.a 1))) (.c (.d 2) (.c (.d 3) .e))))) (.f .WK))) (.c (.s 11 (.l (.Zy (.d 10)) (.N (.d 1) 57 (.c (.y (.d 10) (.f (.a 2))) (.c (.d 4) (.c (.d 5) .e)))) (.x .e))) (.c (.l (.j .YW (.d 11) (.x .e)) (.c (.s 12 (.WH 12 (.c (.d 0) (.c (.y (.d 10) (.f (.a 0))) (.c (.y (.d 10) (.f (.a 1))) .e))))) (.c (.s 13 (.k 53 (.c (.d 12) (.c (.d 0) (.c (.y (.d 10) (.f (.a 0))) .e))))) (.c (.Y (.N (.d 6) 2 (.c (.Yv (.d 0) (.WI (.d 7)) (.WI (.n (.d 12) 49))) .e))) (.c (.Y (.N (.d 6) 2 (.c (.N (.d 12) 58 (.c (.W1 14 (.d 11) (.f (.g L)) (.m .WM (.d 13) (.d 14))) .e)) .e))) (.c (.s 7 (.n (.d 12) 50)) .e))))) .e) .e)))))))) (.c (.p (.WI (.d 6))) .e)))))
noncomputable def DZ:aI:=(.c (.l (.M (.Y7 .YT .YI (.f (.a 0)) (.d 1) (.f (.a 1048576)))) (.c .D .e) .e) (.c (.p (.WI (.m .WM (.m .YO (.d 0) (.f (.a 1048576))) (.d 1)))) .e))
noncomputable def El:aI:=(.c (.A (.d 0) 59 (.d 1)) .e)
noncomputable def ri:aI:=(.c (.p (.WI (.N (.n (.d 0) 59) 3 (.c (.k 55 (.c (.f (.a 14)) (.c (.d 1) .e))) .e)))) .e)
noncomputable def mi:aI:=(.c (.l (.YF (.M (.YU (.d 0) .Zq)) (.j .t (.o .WJ (.c (.d 0) .e)) (.f (.a 0)))) (.c (.p (.WI (.f (.g J)))) .e) .e) (.c (.R (.z 1) (.X (.d 0)) (.c (.l (.M (.k 0 (.c (.d 1) (.c (.f (.a 1)) (.c (.f (.a 255)) .e))))) (.c (.p (.WI (.f (.g J)))) .e) .e) .e)) (.c (.p (.WI (.f (.g L)))) .e)))
noncomputable def rc:aI:=(.c (.Y0 [1,2] (.c (.f (.a 0)) (.c (.o .WJ (.c (.d 0) .e)) .e))) (.c (.l (.V (.j .Y_ (.d 2) (.d 1)) (.j .t (.y (.d 0) (.d 1)) (.f (.a 0)))) (.c (.Zc 1 .WM (.f (.a 1))) .e) .e) (.c (.l (.V (.j .Y_ (.d 2) (.d 1)) (.j .t (.y (.d 0) (.m .WV (.d 2) (.f (.a 1)))) (.f (.a 0)))) (.c (.Zc 2 .WV (.f (.a 1))) .e) .e) (.c (.p (.WI (.o .WE (.c (.Yv (.d 0) (.WI (.d 1)) (.WI (.d 2))) .e)))) .e))))
noncomputable def vX:aI:=(.c (.l (.YF (.M (.YU (.d 0) .Zq)) (.M (.YU (.d 1) .Zq))) (.c .D .e) .e) (.c (.R (.z 2) (.X (.d 0)) (.c (.l (.M (.k 0 (.c (.d 2) (.c (.f (.a 0)) (.c (.f (.a 255)) .e))))) (.c .D .e) .e) .e)) (.c (.l (.M (.k 58 (.c (.k 59 (.c (.d 0) .e)) .e))) (.c .D .e) .e) (.c (.l (.j .Y_ (.o .WJ (.c (.d 0) .e)) (.f (.a 63))) (.c .D .e) .e) (.c (.l (.j .YW (.o .WJ (.c (.d 1) .e)) (.m .WM (.o .WJ (.c (.d 0) .e)) (.f (.a 1)))) (.c .D .e) .e) (.c (.R (.z 3) (.X (.d 1)) (.c (.l (.M (.k 0 (.c (.d 3) (.c (.f (.a 0)) (.c (.f (.a 9)) .e))))) (.c .D .e) .e) .e)) .e))))))
noncomputable def vO:aI:=(.c (.s 1 (.f (.a 0))) (.c (.R (.z 2) (.X (.d 0)) (.c (.s 1 (.m .WM (.m .YO (.f (.a 256)) (.d 1)) (.d 2))) .e)) (.c (.p (.WI (.d 1))) .e)))
noncomputable def DT:aI:=(.c (.p (.WI (.o .ZF (.c (.f (.a 1)) (.c (.o .ZJ (.c (.f (.a 63)) (.c (.k 1 (.c (.d 0) .e)) .e))) .e))))) .e)
noncomputable def Ei:aI:=(.c (.A (.d 0) 60 .ZH) (.c (.A (.d 0) 61 .ZH) (.c (.A (.d 0) 62 (.f (.a 1))) (.c (.A (.d 0) 63 .ZH) .e))))
noncomputable def Eh:aI:=(.c (.s 2 (.f (.a 0))) (.c (.R (.z 3) (.X (.d 1)) (.c (.s 2 (.N (.n (.d 0) 60) 3 (.c (.m .WM (.m .YO (.f (.a 256)) (.d 2)) (.d 3)) (.c (.f (.a (-1))) .e)))) (.c (.l (.j .YI (.d 2) (.f (.a 0))) (.c (.p (.WI (.f (.a (-1))))) .e) .e) .e))) (.c (.p (.WI (.d 2))) .e)))
noncomputable def mj:aI:=(.c (.Y (.k 60 (.c (.d 1) (.c (.d 2) .e)))) (.c (.l (.j .Y9 (.N (.d 0) 64 (.c (.d 1) .e)) (.n (.d 0) 61)) (.c .D .e) .e) (.c (.s 3 (.o .WE (.c (.d 2) .e))) (.c (.l (.j .t (.y (.d 1) (.f (.a 0))) (.f (.a 0))) (.c (.Zh (.d 3) (.f (.a 0)) (.f (.a 0))) .e) .e) (.c (.l (.j .t (.y (.d 1) (.f (.a (-1)))) (.f (.a 0))) (.c (.Zh (.d 3) (.f (.a (-1))) (.f (.a 0))) .e) .e) (.c (.s 4 (.f (.a 0))) (.c (.R (.z 5) (.X (.d 1)) (.c (.s 6 (.m .WM (.m .YO (.f (.a 256)) (.d 4)) (.d 5))) (.c (.l (.j .ZE (.d 6) (.n (.d 0) 60)) (.c (.Zh (.n (.d 0) 60) (.d 6) (.n (.d 0) 62)) (.c (.Z_ (.d 0) 62 .WM (.f (.a 1))) .e)) .e) (.c (.s 4 (.y (.n (.d 0) 60) (.d 6))) .e)))) (.c (.Zh (.n (.d 0) 61) (.d 4) (.o .W2 (.c (.d 3) .e))) .e))))))))
noncomputable def rh:aI:=(.c (.l (.YF (.M (.YU (.d 1) .Zq)) (.M (.YU (.d 2) .Zq))) (.c .D .e) .e) (.c (.l (.YF (.M (.k 58 (.c (.d 1) .e))) (.j .Y_ (.o .WJ (.c (.d 1) .e)) (.f (.a 63)))) (.c .D .e) .e) (.c (.R (.z 3) (.X (.d 2)) (.c (.l (.M (.k 0 (.c (.d 3) (.c (.f (.a 0)) (.c (.o .WJ (.c (.d 1) .e)) .e))))) (.c .D .e) .e) .e)) (.c (.Zh (.n (.d 0) 63) (.k 61 (.c (.d 1) .e)) (.o .W2 (.c (.W1 4 (.o .WW (.c (.m .WM (.o .WJ (.c (.d 1) .e)) (.f (.a 1))) .e)) (.j .Y9 (.d 4) (.d 2)) (.d 4)) .e))) .e))))
noncomputable def ja:aI:=(.c (.s 2 (.m .WM (.m .WM (.x (.c (.f (.a 0)) .e)) (.o .WE (.c (.d 1) .e))) (.x (.c (.f (.a 0)) .e)))) (.c (.s 3 (.m .YO (.x (.c (.f (.a 0)) .e)) (.m .WM (.o .WJ (.c (.d 2) .e)) (.f (.a 1))))) (.c (.R (.z 4) (.X (.o .WW (.c (.o .WJ (.c (.d 2) .e)) .e))) (.c (.s 5 (.f (.a 0))) (.c (.R (.z 6) (.X (.Yv (.d 2) (.WI (.d 4)) .WK)) (.c (.s 5 (.N (.n (.d 0) 60) 3 (.c (.m .WM (.m .YO (.f (.a 256)) (.d 5)) (.d 6)) (.c (.f (.a (-1))) .e)))) (.c (.l (.j .YI (.d 5) (.f (.a 0))) (.c .YA .e) .e) (.c (.s 7 (.d 4)) (.c (.R (.z 8) (.X (.N (.n (.d 0) 61) 3 (.c (.d 5) (.c (.h .e) .e)))) (.c (.Zh (.d 3) (.d 7) (.o .ZF (.c (.y (.d 3) (.d 7)) (.c (.d 8) .e)))) (.c (.Zc 7 .WM (.f (.a 1))) .e))) .e))))) .e))) (.c (.p (.WI (.Yv (.d 3) (.WI (.f (.a 1))) (.WI (.o .WJ (.c (.d 2) .e)))))) .e))))
noncomputable def i':aI:=(.c (.l (.M (.k 58 (.c (.d 1) .e))) (.c .D .e) .e) (.c (.s 4 (.o .WE (.c (.Yv (.d 1) .WK (.WI (.f (.a 63)))) .e))) (.c (.Y0 [5,6] (.c (.k 62 (.c (.d 2) .e)) (.c (.m .WV (.o .WJ (.c (.d 4) .e)) (.k 62 (.c (.d 3) .e))) .e))) (.c (.s 7 (.N (.n (.d 0) 63) 3 (.c (.k 61 (.c (.d 4) .e)) (.c (.f .WK) .e)))) (.c (.l (.Zy (.d 7)) (.c (.p (.WI (.W1 9 (.d 7) (.Y7 .YT .YT (.d 5) (.d 9) (.d 6)) (.d 9)))) .e) .e) (.c (.s 8 (.N (.d 0) 65 (.c (.d 4) .e))) (.c (.p (.WI (.W1 10 (.o .WW (.c (.d 5) (.c (.m .WM (.d 6) (.f (.a 1))) .e))) (.j .t (.m .Zl (.y (.d 8) (.d 10)) (.f (.a 2))) (.f (.a 1))) (.d 10)))) .e)))))))
noncomputable def vS:aI:=(.c (.p (.WI (.l (.j .YI (.d 1) (.o .WJ (.c (.d 0) .e))) (.y (.d 0) (.d 1)) (.m .WM (.m .WM (.m .YO (.f (.a 49979687)) (.d 1)) (.f (.a 17))) (.m .Zl (.o .Zr (.c (.Yv (.d 0) .WK (.WI (.f (.a 1)))) .e)) (.f (.a 1000003))))))) .e)
noncomputable def DX:aI:=(.c (.p (.WI (.x (.c (.o .ZF (.c (.f (.a 0)) (.c (.m .WV (.d 0) (.m .c? (.f (.a 10)) (.f (.a 18)))) .e))) (.c (.m .Zl (.o .a (.c (.d 0) .e)) (.f (.a 2147483629))) (.c (.f (.a 0)) .e)))))) .e)
noncomputable def ha:aI:=(.c (.l (.j .Y_ (.y (.d 0) (.f (.a 0))) (.f (.a 0))) (.c (.s 2 (.m .Zl (.o .a (.c (.y (.d 0) (.f (.a 0))) .e)) (.d 1))) (.c (.Zh (.d 0) (.f (.a 0)) (.m .ZZ (.y (.d 0) (.f (.a 0))) (.d 1))) (.c (.p (.WI (.d 2))) .e))) .e) (.c (.Zh (.d 0) (.f (.a 2)) (.m .WM (.y (.d 0) (.f (.a 2))) (.f (.a 1)))) (.c (.s 3 (.m .Zl (.m .c? (.o .a (.c (.m .WM (.m .WM (.y (.d 0) (.f (.a 1))) (.m .YO (.f (.a 40093)) (.y (.d 0) (.f (.a 2))))) (.f (.a 29))) .e)) (.f (.a 5))) (.f (.a 2147483647)))) (.c (.p (.WI (.m .Zl (.m .ZZ (.m .Zl (.m .c? (.o .a (.c (.m .WM (.d 3) (.m .YO (.f (.a 92959)) (.y (.d 0) (.f (.a 2))))) .e)) (.f (.a 3))) (.f (.a 2147483587))) (.f (.a 16))) (.d 1)))) .e))))
noncomputable def DV:aI:=(.c (.Y0 [2,3] (.c (.x .e) (.c (.m .WM (.f (.a 1)) (.k 71 (.c (.d 0) (.c (.f (.a 2)) .e)))) .e))) (.c (.R (.z 4) (.X (.o .WW (.c (.d 3) .e))) (.c (.s 5 (.k 71 (.c (.d 0) (.c (.f (.a 11)) .e)))) (.c (.s 6 (.l (.j .YI (.d 5) (.f (.a 3))) (.f (.a 128)) (.y (.x (.c (.f (.a 0)) (.c (.f (.a 1)) (.c (.f (.a 2)) (.c (.f (.a 3)) (.c (.f (.a 5)) (.c (.f (.a 6)) (.c (.f (.a 7)) (.c (.f (.a 11)) .e))))))))) (.m .WV (.d 5) (.f (.a 3)))))) (.c (.s 7 (.l (.j .YI (.d 5) (.f (.a 3))) (.d 5) (.m .WM (.f (.a 1)) (.k 71 (.c (.d 0) (.c (.f (.a 3)) .e)))))) (.c (.Y (.N (.d 2) 0 (.c (.h (.c (.l (.j .t (.d 4) (.m .WV (.d 3) (.f (.a 1)))) (.f (.a 128)) (.f (.a 0))) (.c (.y (.x (.c (.f (.a 97)) (.c (.f (.a 98)) (.c (.f (.a 99)) (.c (.f (.a 45)) (.c (.f (.a 33)) .e)))))) (.k 71 (.c (.d 0) (.c (.f (.a 5)) .e)))) (.c (.d 6) (.c (.d 7) .e))))) .e))) .e))))) (.c (.p (.WI (.d 2))) .e)))
noncomputable def ra:aI:=(.c (.Y0 [1,2] (.c (.x .e) (.c .ZH .e))) (.c (.R (.z 3) (.X (.h (.c (.f (.a 97)) (.c (.f (.a 98)) (.c (.f (.a 99)) (.c (.f (.a 45)) .e)))))) (.c (.l (.j .Y_ (.k 71 (.c (.d 0) (.c (.f (.a 3)) .e))) (.f (.a 0))) (.c (.Zh (.d 2) (.d 3) (.o .WJ (.c (.d 1) .e))) (.c (.s 1 (.m .WM (.d 1) (.k 72 (.c (.d 0) (.c (.d 3) .e))))) .e)) .e) .e)) (.c (.l (.j .t (.k 71 (.c (.d 0) (.c (.f (.a 3)) .e))) (.f (.a 0))) (.c (.s 4 (.o .WJ (.c (.d 1) .e))) (.c (.s 1 (.m .WM (.m .WM (.d 1) (.k 72 (.c (.d 0) (.c (.f (.a 256)) .e)))) (.x (.c (.h (.c (.f (.a 255)) (.c (.f (.a 0)) (.c (.f (.a 0)) (.c (.d 4) .e))))) .e)))) .e)) .e) (.c (.s 5 (.x .e)) (.c (.R (.z 3) (.X (.h (.c (.f (.a 97)) (.c (.f (.a 98)) (.c (.f (.a 99)) (.c (.f (.a 100)) (.c (.f (.a 65)) (.c (.f (.a 45)) (.c (.f (.a 46)) (.c (.f (.a 40)) (.c (.f (.a 1)) (.c (.f (.a 2)) (.c (.f (.a 3)) .e))))))))))))) (.c (.Y (.N (.d 5) 0 (.c (.h (.c (.d 3) (.c (.m .WM (.f (.a 300000)) (.m .YO (.f (.a 1000)) (.d 3))) (.c (.f (.a 400000)) (.c (.f (.a 0)) (.c (.f (.a 0)) (.c (.l (.j .Y9 (.d 3) (.d 2)) (.f (.a 1)) (.f (.a 0))) (.c (.N (.d 2) 3 (.c (.d 3) (.c (.f (.a 0)) .e))) .e)))))))) .e))) .e)) (.c (.p (.WI (.k 16 (.c (.f (.a 1)) (.c (.d 5) (.c (.h (.c (.f (.a 0)) (.c (.f (.a 200000)) (.c (.f (.a 100000)) (.c (.f (.a 50000)) .e))))) (.c (.d 1) (.c (.h (.c (.f (.a 1000)) (.c (.f (.a (-700))) (.c (.f (.a 333)) .e)))) (.c (.f (.a 33)) .e))))))))) .e))))))
noncomputable def DW:aI:=(.c (.s 2 (.x (.c (.h (.c (.h (.c (.f (.a 97)) .e)) (.c (.h (.c (.f (.a 0)) (.c (.f (.a 1)) .e))) .e))) (.c (.h (.c (.h (.c (.f (.a 99)) .e)) (.c (.h (.c (.f (.a 1)) (.c (.f (.a 0)) .e))) .e))) .e)))) (.c (.R (.z 3) (.X (.o .WW (.c (.d 1) .e))) (.c (.s 4 (.W1 7 (.o .WW (.c (.m .WM (.f (.a 1)) (.k 71 (.c (.d 0) (.c (.f (.a 3)) .e)))) .e)) (.f (.g L)) (.m .WM (.f (.a 97)) (.k 71 (.c (.d 0) (.c (.f (.a 4)) .e)))))) (.c (.s 5 (.k 71 (.c (.d 0) (.c (.f (.a 4)) .e)))) (.c (.s 4 (.m .WM (.m .WM (.m .YO (.x (.c (.f (.a 0)) .e)) (.o .a (.c (.j .t (.d 5) (.f (.a 2))) .e))) (.d 4)) (.m .YO (.x (.c (.f (.a 0)) .e)) (.o .a (.c (.j .t (.d 5) (.f (.a 3))) .e))))) (.c (.s 6 (.W1 8 (.o .WW (.c (.m .WM (.o .WJ (.c (.d 4) .e)) (.f (.a 1))) .e)) (.f (.g L)) (.k 71 (.c (.d 0) (.c (.f (.a 4)) .e))))) (.c (.l (.j .ZE (.o .W2 (.c (.d 4) .e)) (.W1 9 (.d 2) (.f (.g L)) (.y (.d 9) (.f (.a 0))))) (.c (.Y (.N (.d 2) 0 (.c (.h (.c (.o .W2 (.c (.d 4) .e)) (.c (.o .W2 (.c (.d 6) .e)) .e))) .e))) .e) .e) .e)))))) (.c (.p (.WI (.d 2))) .e)))
noncomputable def j9:aI:=(.c (.s 5 (.o .WW (.c (.d 3) (.c (.m .WM (.m .WV (.o .WJ (.c (.d 2) .e)) (.d 4)) (.f (.a 1))) .e)))) (.c (.R (.Y5 [6,7]) (.X (.d 1)) (.c (.l (.j .t (.d 6) (.d 2)) (.c (.p (.WI (.W1 16 (.d 5) (.j .Y9 (.d 16) (.d 7)) (.d 16)))) .e) .e) .e)) (.c (.s 8 (.m .WM (.m .WM (.x (.c (.f (.a 0)) .e)) (.d 2)) (.x (.c (.f (.a 0)) .e)))) (.c (.s 9 (.x .e)) (.c (.R (.z 10) (.X (.d 5)) (.c (.s 11 (.f (.a 0))) (.c (.R (.Y5 [12,13]) (.X (.d 0)) (.c (.R (.z 14) (.X (.o .WW (.c (.m .WM (.m .WV (.o .WJ (.c (.d 8) .e)) (.o .WJ (.c (.d 12) .e))) (.f (.a 1))) .e))) (.c (.s 15 (.m .WV (.m .WM (.d 10) (.f (.a 1))) (.d 14))) (.c (.l (.V (.j .t (.o .W2 (.c (.Yv (.d 8) (.WI (.d 14)) (.WI (.m .WM (.d 14) (.o .WJ (.c (.d 12) .e))))) .e)) (.d 12)) (.Y7 .YT .YT (.f (.a 0)) (.d 15) (.o .WJ (.c (.d 12) .e)))) (.c (.s 11 (.o .ZF (.c (.d 11) (.c (.y (.d 13) (.d 15)) .e)))) .e) .e) .e))) .e)) (.c (.l (.j .t (.m .Zl (.d 11) (.f (.a 2))) (.f (.a 1))) (.c (.Y (.N (.d 9) 0 (.c (.d 10) .e))) .e) .e) .e)))) (.c (.p (.WI (.d 9))) .e))))))
noncomputable def DU:aI:=(.c (.p (.WI (.l (.j .t (.d 0) (.f (.a 65))) (.f (.a 97)) (.l (.Y7 .YT .YT (.f (.a 97)) (.d 0) (.f (.a 122))) (.d 0) (.f (.a 0)))))) .e)
noncomputable def q':aI:=(.c (.p (.WI (.l (.j .t (.n (.d 0) 22) (.f (.a 0))) (.f (.a 1)) (.l (.j .t (.n (.d 0) 22) (.f (.a 1))) (.o .WJ (.c (.n (.d 0) 25) .e)) (.f (.a 0)))))) .e)
noncomputable def vR:aI:=(.c (.s 3 (.k 38 (.c (.d 0) (.c (.d 1) (.c (.f (.g L)) (.c (.f (.g L)) .e)))))) (.c (.s 4 (.k 31 (.c (.d 3) .e))) (.c (.s 5 (.x (.c (.f (.a 0)) .e))) (.c (.R (.z 6) (.X (.d 3)) (.c (.Y (.N (.d 5) 0 (.c (.m .WM (.y (.d 5) (.f (.a (-1)))) (.k 77 (.c (.d 6) .e))) .e))) .e)) (.c (.Y0 [7,8] (.c (.x .e) (.c (.f (.a 0)) .e))) (.c (.R (.z 9) (.X (.d 2)) (.c (.Y0 [10,11] (.c (.k 38 (.c (.d 0) (.c (.m .WM (.Yv (.d 1) .WK (.WI (.d 9))) (.x (.c (.f (.a 45)) .e))) (.c (.f (.g L)) (.c (.f (.g L)) .e))))) (.c (.k 38 (.c (.d 0) (.c (.Yv (.d 1) (.WI (.d 9)) .WK) (.c (.f (.g L)) (.c (.f (.g L)) .e))))) .e))) (.c (.Y0 [12,13] (.c (.k 31 (.c (.d 10) .e)) (.c (.k 31 (.c (.d 11) .e)) .e))) (.c (.s 14 (.W1 19 (.o .WW (.c (.o .ZJ (.c (.o .WJ (.c (.d 4) .e)) (.c (.o .WJ (.c (.d 12) .e)) .e))) .e)) (.V (.j .t (.Yv (.d 4) .WK (.WI (.m .WM (.d 19) (.f (.a 1))))) (.Yv (.d 12) .WK (.WI (.m .WM (.d 19) (.f (.a 1)))))) (.j .YT (.y (.d 5) (.m .WM (.d 19) (.f (.a 1)))) (.d 9))) (.d 19))) (.c (.s 15 (.o .WJ (.c (.d 14) .e))) (.c (.s 16 (.o .ZJ (.c (.m .WV (.o .WJ (.c (.d 4) .e)) (.d 15)) (.c (.o .WJ (.c (.d 13) .e)) .e)))) (.c (.s 17 (.W1 20 (.o .WW (.c (.f (.a 1)) (.c (.m .WM (.d 16) (.f (.a 1))) .e))) (.V (.j .t (.Yv (.d 4) (.WI (.m .WV (.o .WJ (.c (.d 4) .e)) (.d 20))) .WK) (.Yv (.d 13) (.WI (.m .WV (.o .WJ (.c (.d 13) .e)) (.d 20))) .WK)) (.j .Zf (.y (.d 5) (.m .WV (.o .WJ (.c (.d 4) .e)) (.d 20))) (.d 9))) (.d 20))) (.c (.l (.j .Zf (.d 15) (.d 8)) (.c (.s 18 (.m .WV (.o .WJ (.c (.d 4) .e)) (.o .WJ (.c (.d 17) .e)))) (.c (.s 7 (.m .WM (.m .WM (.d 7) (.Yv (.d 3) (.WI (.d 8)) (.WI (.d 15)))) (.x (.c (.WH 8 (.c (.Yv (.d 10) (.WI (.d 15)) .WK) (.c (.Yv (.d 11) .WK (.WI (.m .WV (.o .WJ (.c (.d 13) .e)) (.o .WJ (.c (.d 17) .e))))) (.c (.Yv (.d 3) (.WI (.d 15)) (.WI (.d 18))) .e)))) .e)))) (.c (.s 8 (.d 18)) .e))) .e) .e)))))))) (.c (.p (.WI (.m .WM (.d 7) (.Yv (.d 3) (.WI (.d 8)) .WK)))) .e)))))))
noncomputable def DY:aI:=(.c (.l (.j .t (.d 0) (.f (.a 1))) (.c (.p (.WI (.WH 7 (.c (.f (.a 50)) .e)))) .e) .e) (.c (.l (.j .t (.d 0) (.f (.a 2))) (.c (.p (.WI (.WH 5 (.c (.f (.a 700)) (.c (.f (.a 1)) .e))))) .e) .e) (.c (.l (.j .t (.d 0) (.f (.a 3))) (.c (.p (.WI (.WH 4 (.c (.f (.a 1000)) (.c (.f .WK) (.c (.f .WK) .e)))))) .e) .e) (.c (.l (.j .t (.d 0) (.f (.a 4))) (.c (.p (.WI (.WH 9 (.c (.h (.c (.h (.c (.f (.a 11)) (.c (.f (.a 97)) .e))) .e)) .e)))) .e) .e) (.c (.l (.j .t (.d 0) (.f (.a 5))) (.c (.p (.WI (.WH 10 (.c (.f (.g L)) (.c (.f (.a 0)) .e))))) .e) .e) (.c (.l (.j .t (.d 0) (.f (.a 6))) (.c (.p (.WI (.WH 10 (.c (.f (.g J)) (.c (.f (.a 0)) .e))))) .e) .e) (.c (.p (.WI (.WH 6 (.c (.WH 0 (.c (.f (.a 200000)) (.c (.f (.a 100000)) (.c (.f (.a 0)) (.c (.f (.a 50000)) (.c (.f (.a 0)) .e)))))) (.c (.f (.a 0)) .e))))) .e)))))))
noncomputable def d1:aI:=(.c (.s 2 (.k 73 (.c (.d 0) .e))) (.c (.s 3 (.k 74 (.c (.d 0) (.c (.l (.d 1) (.f (.a 0)) (.k 71 (.c (.d 0) (.c (.f (.a 6)) .e)))) .e)))) (.c (.Y0 [4,5] (.c (.WH 14 .e) (.c (.x .e) .e))) (.c (.R (.Y5 [6,7]) (.X (.d 3)) (.c (.Y (.N (.d 4) 66 (.c (.d 6) (.c (.d 7) .e)))) .e)) (.c (.Y0 [8,9] (.c (.m .WM (.f (.a 1)) (.k 71 (.c (.d 0) (.c (.l (.d 1) (.f (.a 1)) (.f (.a 2))) .e)))) (.c (.m .WM (.f (.a 1)) (.k 71 (.c (.d 0) (.c (.l (.d 1) (.f (.a 1)) (.f (.a 3))) .e)))) .e))) (.c (.s 10 (.j .t (.k 71 (.c (.d 0) (.c (.f (.a 2)) .e))) (.f (.a 0)))) (.c (.s 11 (.x .e)) (.c (.R (.z 12) (.X (.o .WW (.c (.l (.d 1) (.f (.a 1)) (.m .WM (.f (.a 1)) (.k 71 (.c (.d 0) (.c (.f (.a 3)) .e))))) .e))) (.c (.s 13 (.m .WM (.x (.c (.f (.a 0)) .e)) (.W1 31 (.o .WW (.c (.l (.d 1) (.f (.a 0)) (.k 71 (.c (.d 0) (.c (.f (.a 3)) .e)))) .e)) (.f (.g L)) (.k 71 (.c (.d 0) (.c (.f (.a 9)) .e)))))) (.c (.s 14 (.W1 32 (.o .WW (.c (.l (.d 1) (.f (.a 2)) (.m .WM (.f (.a 1)) (.k 71 (.c (.d 0) (.c (.f (.a 6)) .e))))) .e)) (.f (.g L)) (.m .WM (.f (.a 97)) (.k 71 (.c (.d 0) (.c (.f (.a 4)) .e)))))) (.c (.s 14 (.m .WM (.x (.c (.y (.x (.c (.f (.a 97)) (.c (.f (.a 65)) (.c (.f (.a 97)) (.c (.f (.a 98)) .e))))) (.l (.d 1) (.f (.a 0)) (.k 71 (.c (.d 0) (.c (.f (.a 4)) .e))))) .e)) (.d 14))) (.c (.Y0 [15,16] (.c (.m .YO (.x (.c (.f (.a 40)) .e)) (.o .a (.c (.j .t (.k 71 (.c (.d 0) (.c (.f (.a 5)) .e))) (.f (.a 1))) .e))) (.c (.m .YO (.x (.c (.f (.a 46)) .e)) (.o .a (.c (.j .t (.k 71 (.c (.d 0) (.c (.f (.a 3)) .e))) (.f (.a 1))) .e))) .e))) (.c (.Y (.N (.d 11) 0 (.c (.h (.c (.l (.j .Y_ (.k 71 (.c (.d 0) (.c (.f (.a 3)) .e))) (.f (.a 0))) (.ZW (.d 13)) (.d 13)) (.c (.d 15) (.c (.d 14) (.c (.d 16) .e))))) .e))) .e)))))) (.c (.l (.V (.M (.d 1)) (.j .t (.k 71 (.c (.d 0) (.c (.f (.a 2)) .e))) (.f (.a 0)))) (.c (.s 6 (.W1 33 (.y (.y (.d 11) (.f (.a (-1)))) (.f (.a 2))) (.f (.g L)) (.k 76 (.c (.d 33) .e)))) (.c (.Y (.N (.d 5) 0 (.c (.h (.c (.d 6) (.c (.x (.c (.k 71 (.c (.d 0) (.c (.o .WJ (.c (.d 6) .e)) .e))) (.c (.m .ZZ (.o .WJ (.c (.d 6) .e)) (.f (.a 2))) .e))) .e))) .e))) (.c (.Y (.N (.d 4) 67 (.c (.d 6) (.c (.y (.y (.d 5) (.f (.a 0))) (.f (.a 1))) .e)))) .e))) .e) (.c (.s 17 (.l (.V (.M (.d 1)) (.j .t (.k 71 (.c (.d 0) (.c (.f (.a 2)) .e))) (.f (.a 0)))) (.x (.c (.k 71 (.c (.d 0) (.c (.f (.a 9)) .e))) .e)) (.x .e))) (.c (.Y0 [18,19,20] (.c (.x .e) (.c (.x .e) (.c (.f (.g L)) .e)))) (.c (.R (.z 21) (.X (.o .WW (.c (.o .WJ (.c (.d 11) .e)) .e))) (.c (.ZC [13,15,14,16] (.y (.d 11) (.d 21))) (.c (.s 22 (.W1 34 (.d 13) (.f (.g L)) (.k 79 (.c (.d 34) .e)))) (.c (.R (.z 23) (.X (.d 13)) (.c (.s 20 (.l (.YF (.j .YI (.d 23) (.f (.a 5))) (.j .Y_ (.d 23) (.f (.a 6)))) (.d 20) (.j .t (.d 23) (.f (.a 6))))) .e)) (.c (.s 24 (.m .WM (.m .WM (.d 15) (.d 14)) (.d 16))) (.c (.s 25 (.Yv (.l (.j .YI (.m .WM (.d 21) (.f (.a 1))) (.o .WJ (.c (.d 11) .e))) (.y (.y (.d 11) (.m .WM (.d 21) (.f (.a 1)))) (.f (.a 0))) (.d 17)) .WK (.WI (.f (.a 1))))) (.c (.s 6 (.W1 35 (.d 14) (.f (.g L)) (.k 76 (.c (.d 35) .e)))) (.c (.s 26 (.V (.d 20) (.V (.j .Y9 (.y (.d 13) (.f (.a (-1)))) (.h (.c (.f (.a 0)) (.c (.f (.a 7)) (.c (.f (.a 8)) .e))))) (.V (.j .ZE (.d 25) (.h (.c (.x (.c (.f (.a 3)) .e)) (.c (.x (.c (.f (.a 5)) .e)) (.c (.x (.c (.f (.a 6)) .e)) .e))))) (.YF (.j .YW (.y (.d 14) (.f (.a 0))) (.f (.a 65))) (.d 10)))))) (.c (.s 27 (.l (.d 26) (.W1 36 (.k 75 (.c (.d 3) (.c (.d 5) (.c (.d 6) (.c (.d 8) (.c (.d 9) .e)))))) (.f (.g L)) (.m .WM (.o .WJ (.c (.d 15) .e)) (.d 36))) (.x .e))) (.c (.s 18 (.m .WM (.m .WM (.d 18) (.d 22)) (.k 38 (.c (.d 2) (.c (.d 24) (.c (.f (.g L)) (.c (.f (.g L)) .e))))))) (.c (.s 19 (.m .WM (.m .WM (.d 19) (.d 22)) (.k 78 (.c (.d 2) (.c (.d 24) (.c (.d 27) .e)))))) .e))))))))))) (.c (.Y0 [18,19] (.c (.m .WM (.d 18) (.W1 38 (.d 17) (.f (.g L)) (.k 79 (.c (.d 38) .e)))) (.c (.m .WM (.d 19) (.W1 37 (.d 17) (.f (.g L)) (.k 79 (.c (.d 37) .e)))) .e))) (.c (.s 28 (.k 31 (.c (.d 18) .e))) (.c (.s 29 (.o .WN (.c (.W1 39 (.h (.c (.f (.a 97)) (.c (.f (.a 98)) (.c (.f (.a 99)) (.c (.f (.a 100)) (.c (.f (.a 65)) (.c (.f (.a 45)) (.c (.f (.a 46)) (.c (.f (.a 40)) (.c (.f (.a 1)) (.c (.f (.a 2)) (.c (.f (.a 3)) .e)))))))))))) (.f (.g L)) (.h (.c (.k 55 (.c (.f (.a 14)) (.c (.d 39) .e))) (.c (.k 76 (.c (.d 39) .e)) .e)))) .e))) (.c (.s 30 (.k 54 (.c (.d 18) (.c (.d 4) (.c (.WH 13 (.c (.d 29) .e)) (.c (.d 10) (.c (.d 8) (.c (.d 9) .e)))))))) (.c (.p (.WI (.V (.j .t (.k 31 (.c (.d 30) .e)) (.k 31 (.c (.d 19) .e))) (.j .t (.k 31 (.c (.d 18) .e)) (.d 28))))) .e)))))))))))))))))
noncomputable def j_:aI:=(.c (.s 1 (.V (.j .YI (.o .WJ (.c (.d 0) .e)) (.f (.a 2))) (.j .YI (.o .Z' (.c (.o .Zr (.c (.d 0) .e)) .e)) (.f (.a 2))))) (.c (.R (.z 2) (.X (.o .WW (.c (.o .ZF (.c (.f (.a 1)) (.c (.o .ZJ (.c (.f (.a 2)) (.c (.o .WJ (.c (.d 0) .e)) .e))) .e))) .e))) (.c (.l (.M (.k 80 (.c (.k 70 (.c (.k 69 (.c (.d 0) (.c (.d 2) .e))) .e)) (.c (.d 1) .e)))) (.c (.p (.WI (.f (.g J)))) .e) .e) .e)) (.c (.p (.WI (.f (.g L)))) .e)))
def nR:List gW:=[⟨3,3,[],D0⟩,⟨1,1,[],D7⟩,⟨1,1,[],D9⟩,⟨1,1,[],D_⟩,⟨6,6,[],Eo⟩,⟨1,1,[],jb⟩,⟨1,1,[],D1⟩,⟨1,2,[],D8⟩,⟨2,6,[],Ea⟩,⟨1,4,[],vY⟩,⟨4,12,[],rf⟩,⟨1,5,[],q_⟩,⟨9,9,[],ml⟩,⟨2,2,[],mm⟩,⟨2,3,[],ka⟩,⟨1,3,[],D4⟩,⟨6,8,[],vU⟩,⟨1,1,[],D'⟩,⟨1,2,[],vW⟩,⟨3,3,[],Er⟩,⟨6,7,[],Em⟩,⟨4,5,[],Ef⟩,⟨3,3,[],En⟩,⟨4,4,[.WK],Ee⟩,⟨2,2,[],Eg⟩,⟨4,4,[],Ep⟩,⟨2,2,[],Ek⟩,⟨3,3,[],Ej⟩,⟨1,1,[],vZ⟩,⟨2,5,[],D6⟩,⟨2,5,[],vV⟩,⟨2,3,[(.a 0)],rd⟩,⟨3,10,[],n_⟩,⟨5,6,[],rg⟩,⟨1,4,[],vQ⟩,⟨1,1,[],DR⟩,⟨3,10,[],j8⟩,⟨4,9,[],mh⟩,⟨4,8,[],hT⟩,⟨1,1,[],vT⟩,⟨1,1,[],re⟩,⟨2,2,[],rb⟩,⟨4,8,[],D5⟩,⟨2,3,[],D2⟩,⟨4,10,[],q9⟩,⟨1,1,[],n9⟩,⟨1,2,[],vP⟩,⟨1,3,[],DS⟩,⟨4,9,[],fo⟩,⟨2,7,[],Eb⟩,⟨3,4,[],Ed⟩,⟨4,6,[],Ec⟩,⟨2,11,[],j'⟩,⟨3,4,[],vN⟩,⟨6,15,[],D3⟩,⟨2,2,[],DZ⟩,⟨2,2,[],El⟩,⟨2,2,[],ri⟩,⟨1,2,[],mi⟩,⟨1,3,[],rc⟩,⟨2,4,[],vX⟩,⟨1,3,[],vO⟩,⟨1,1,[],DT⟩,⟨1,1,[],Ei⟩,⟨2,4,[],Eh⟩,⟨3,7,[],mj⟩,⟨3,5,[],rh⟩,⟨2,9,[],ja⟩,⟨4,11,[],i'⟩,⟨2,2,[],vS⟩,⟨1,1,[],DX⟩,⟨2,4,[],ha⟩,⟨2,8,[],DV⟩,⟨1,6,[],ra⟩,⟨2,10,[],DW⟩,⟨5,17,[],j9⟩,⟨1,1,[],DU⟩,⟨1,1,[],q'⟩,⟨3,21,[],vR⟩,⟨1,1,[],DY⟩,⟨2,40,[],d1⟩,⟨1,3,[],j_⟩]
noncomputable def vy:List ((Nat×Nat)×aa):=[((2,22),.a 0),((3,22),.a 1),((4,22),.a 4),((5,22),.a 5),((6,22),.a 6),((7,22),.a 7),((8,22),.a 8),((9,22),.a 9),((10,22),.a 12)]
noncomputable def n3:List ((Nat×Nat)×Nat):=[((0,25),5),((1,47),13),((1,39),14),((12,52),49),((12,55),50),((12,56),51),((12,58),52),((13,48),57),((14,64),64),((14,66),65),((14,67),66),((14,65),67),((14,57),68)]
noncomputable def M9:List Nat:=[4,12,19,20,21,22,23,24,25,26,27,33,48,56,63]
noncomputable def CO:List (List Nat):=[[4,5,6,7,8],[9,10,11,12,13,14,15,16,17,18,19,20,21],[23,24],[23,24,25,26,27],[4,28,29],[4,30],[31,30,32],[33],[34,35,36],[37],[38,4],[23,40,41,42,43,44,45,46],[23,49,50,51,26,27,53,54],[59],[60,61,62,63]]
noncomputable def kT{b:Type}:List ((Nat×Nat)×b)->Nat->Nat->Option b|[],_,_=>U|a::e,c,d=>cond (PX a.1.1 c&&PX a.1.2 d) (O a.2) (kT e c d)
noncomputable def gb{a:Type}:List a->Nat->Option a|[],_=>U|b::_,0=>O b|_::c,d+1=>gb c d
def an:oc where
 Zz f:=gb nR f
 ZA a b:=kT vy a b
 Zp a b:=kT n3 a b
 Zv a:=(gb M9 a).getD 0
 YY a b:=kP (λc=>c.any (PX b)) (gb CO a)
variable{H:Pw->Prop}{b T:ab}{t:Pw}{o:aa}{n:Pl}{m:Pv}{w:List aa}
section
structure aB where
 r:RF
 q:PE
 YS:Qa
 YQ:Pv
 YX:Nat->Pw
 Zt:Nat->Pw
 P:Nat->Option Pr
 YH:oc
 I?:Pw
 Q:Pr->Option cC
 agz:Pv
variable{I:aB}
mutual
noncomputable def ay(m:Pv):aa->Pl->Prop|.WK,w=>w=.none|.g g,w=>w=.bool g|.a i,w=>∃b,w=.int i b|.E s,w=>∃b,w=.str s b|.h vs,w=>∃a c h,w=.ref a/\IsT m a c h/\c.size<=PV/\aZ m vs c.toList|.WW d e,w=>∃a b A f,w=.ref a/\IsRange m a d e 1 b A f/\(-(2^62)<=d/\d<2^62)/\-(2^62)<=e/\e<2^62|.b a,w=>w=.ref a
noncomputable def aZ(m:Pv):List aa->List Pl->Prop|[],[]=>True|f::xs,j::k=>ay m f j/\aZ m xs k|_,_=>False
end
structure wh(F:aB)(P:Nat):Prop where
 aey:makesIn F.YS (F.YX P)=L
 X?:QP F.YS (.ref (F.YX P)) "__init__"=O (O (.ref (F.Zt (F.YH.Zv P))))/\typeIn F.YS (.ref (F.Zt (F.YH.Zv P)))=O (.type "function")
 P?:QP F.YS (.ref (F.YX P)) "__getattribute__"=O (O (.builtin "object.__getattribute__"))
 agx:QP F.YS (.ref (F.YX P)) "__getattr__"=O U
 abz:QP F.YS (.ref (F.YX P)) "__setattr__"=O (O (.builtin "object.__setattr__"))
 adz:plainOver F.YS (F.YX P)=L
 Y?:(clsIn F.YS (F.YX P)).any (·.hasDict)=L
 YY:∀R S,F.P R=O S->F.YH.YY P R=L->QP F.YS (.ref (F.YX P)) S=O U
 E?:∀R S w,F.P R=O S->F.YH.ZA P R=O w->∃A,QP F.YS (.ref (F.YX P)) S=O (O A)/\specialIn F.YS A "__get__"=O U/\handedIn A=L/\copiedNames.contains S=J/\ay F.YQ w A
 D?:∀R S f,F.P R=O S->F.YH.Zp P R=O f->QP F.YS (.ref (F.YX P)) S=O (O (.ref (F.Zt f)))/\typeIn F.YS (.ref (F.Zt f))=O (.type "function")/\F.YH.YY P R=J
noncomputable def gT(a:PA):Prop:=(a.cls≠.type "tuple"/\a.cls≠.type "range")\/match a.data with|.dict .. |.cell ..=>True|_=>False
noncomputable def cI(a:ab)(b:Pw):Prop:=a b≠U\/∃c d e,a c=O (.WO d b e)
inductive c0(m:Pv):List (Int×aa)->List (Int×Pl)->Prop|e:c0 m [] []|c {k:Int} {w:aa} {A:Pl} {F s}:ay m w A->c0 m F s->c0 m ((k,w)::F) ((k,A)::s)
def iz(e:aB)(m:Pv)(f:Pw)(g:Nat)(d:List (Nat×aa)):Prop:=∃a h,m.get? f=O (QZ a h)/\(∀i∈a,∃b j,i.key=.str b j)/\a.length=d.length/\(∀c b,e.P c=O b->match bS d c with|some w=>∃A,Qz a.toArray b=O A/\ay m w A|none=>Qz a.toArray b=U)/\(∀c w,bS d c=O w->e.YH.YY g c=L)
noncomputable def iy(b:aB)(m:Pv)(c:Pw):ca->Prop|.WE xs=>∃a d,P4 m c a d/\a.size<=PV/\aZ m xs a.toList|.WN h i=>∃e,m.DictAt (QA b.r b.q) c e h/\e.length<=PV/\c0 m i e|.WO f g j=>m.get? c=O (RC (b.YX f) g)/\iz b m g f j/\wh b f|.W5 xs=>∃a d,P4 m c a d/\a.size<=PV/\aZ m xs a.toList/\b.agz.get? c=m.get? c
structure aA(S:aB)(P:ab)(m:Pv):Prop where
 WQ:∀ac R,S.YQ.get? ac=O R->m.get? ac=O R
 Y2:∀F R,P F=O R->iy S m F R
 WT:∀F,cI P F->S.YQ.get? F=U
 Y4:∀F ae aa af,P F=O (.WO ae aa af)->P aa=U/\∀ad ag ah,P ad=O (.WO ag aa ah)->ad=F
structure a1(aa:Pw->Prop)(R:ab)(m:Pv)(ac:ab)(S:Pv):Prop where
 WQ:∀F P,m.get? F=O P->¬cI R F->¬aa F->S.get? F=O P
 WG:∀F,cI ac F->cI R F\/m.get? F=U
 Zs:∀F P,m.get? F=O P->∃ad,S.get? F=O ad
abbrev ct:Pw->Prop:=λ_=>False
theorem a1.WZ(c:Pw->Prop)(b:ab)(m:Pv):a1 c b m b m:=⟨λ_ _ a _ _=>a,λ_ f=>.inl f,λ_ d a=>⟨d,a⟩⟩
theorem a1.WF{j:ab}{g k l:Pv}(e:a1 H b g T k)(h:a1 H T k j l):a1 H b g j l:=by
 refine⟨λa d c n o=>?_,λa f=>?_,λa d c=>?_⟩
 .have i:=e.WQ a d c n o;refine h.WQ a d i (λf=>?_) o;rcases e.WG a f with f|f;·exact n f
  .rw[f]at c;injection c
 .rcases h.WG a f with f|f;·exact e.WG a f
  .right;rcases c:g.get? a with _|d;·rfl
   .obtain⟨r,p⟩:=e.Zs a d c;rw[p]at f;injection f
 .obtain⟨q,i⟩:=e.Zs a d c;exact h.Zs a q i
theorem a1.Xm{d:Pw->Prop}{e f:Pv}(c:a1 H b e T f)(k:∀a,H a->d a):a1 d b e T f:=⟨λa g h i j=>c.WQ a g h i λl=>j (k a l),c.WG,c.Zs⟩
theorem iy.XI{f:Pv}{d:ca}(c:iy I f t d):∃a,f.get? t=O a/\((a.cls=.type "list"/\∃i b,a.data=.seq i b)\/(a.cls=.type "dict"/\∃g b,a.data=.dict g b)\/((∃h,a.cls=.ref h)/\a.data=.plain)):=by induction d with
 |WE xs=>exact iC c λj b e _=>⟨_,e,.inl ⟨rfl,_,_,rfl⟩⟩
 |WN p g=>exact az c λq k _=>om k λd r l n o _=>⟨_,l,.inr (.inl ⟨n.1,_,_,o⟩)⟩
 |WO s u v=>exact⟨_,c.1,.inr (.inr ⟨⟨_,rfl⟩,rfl⟩)⟩
 |W5 xs=>exact iC c λj b e _=>⟨_,e,.inl ⟨rfl,_,_,rfl⟩⟩
theorem aA.Xb{e:Pv}(g:aA I b e)(f:cI b t):∃a,e.get? t=O a/\((a.cls=.type "list"/\∃i c,a.data=.seq i c)\/(a.cls=.type "dict"/\∃h c,a.data=.dict h c)\/((∃j,a.cls=.ref j)/\a.data=.plain)):=by
 rcases f with f|⟨k,p,q,d⟩;·obtain⟨l,d⟩:=Option.ne_none_iff_exists'.mp f;exact(g.Y2 t l d).XI
 .exact cc (g.Y2 k _ d) λ_ n _=>iC n λh c o _=>⟨_,o,.inr (.inl ⟨rfl,_,_,rfl⟩)⟩
noncomputable def gn(c:Pw->Prop)(m:Pv):Prop:=∀a,c a->∃b,m.get? a=O b/\gT b
theorem i4{b:Pv}{a:PA}(c:b.get? t=O a)(d:gT a):gn (λe=>e=t) b:=λ_ f=>⟨a,f▸c,d⟩
theorem es{a:Pv}:gn ct a:=λ_ b=>b.elim
theorem qv{e j:Pv}(p:aA I b e)(q:gn H e)(r:a1 H b e T j){d:PA}(g:e.get? t=O d)(l:d.cls=.type "tuple"\/d.cls=.type "range")(s:(∃i n,d.data=.seq i n)\/∃w,d.data=.fields w):j.get? t=O d:=by
 refine r.WQ t d g (λf=>?_) λa=>?_
 .refine az (p.Xb f) λu c k=>?_;rw[g]at c;injection c with c;subst c;rcases k with⟨h,_⟩|⟨h,_⟩|⟨⟨y,h⟩,_⟩<;>rcases l with a|a<;>rw[h]at a<;>first
  |cases a
  |exact absurd a (by decide)
 .refine az (q t a) λu c k=>?_;rw[g]at c;injection c with c;subst c;rcases k with⟨v,x⟩|k
  .rcases l with a|a;·exact v a
   .exact x a
  .rcases s with⟨i,n,o⟩|⟨w,o⟩<;>(rw[o]at k;exact k)
mutual
theorem ay.Xk{m d:Pv}(k:∀c b,m.get? c=O b->(b.cls=.type "tuple"\/b.cls=.type "range")->((∃i e,b.data=.seq i e)\/∃w,b.data=.fields w)->d.get? c=O b):∀{w:aa}{A:Pl},ay m w A->ay d w A
|.WK,_,a=>a
|.g _,_,a=>a
|.a _,_,a=>a
|.E _,_,a=>a
|.h vs,A,a=>by obtain⟨c,f,e,rfl,g,h,j⟩:=a;exact EH c f e rfl (k _ _ g (.inl rfl) (.inl ⟨_,_,rfl⟩)) ⟨h,aZ.Xk k j⟩
|.WW r s,A,a=>by obtain⟨c,l,n,o,rfl,p,q⟩:=a;exact ru c l n o rfl (k _ _ p (.inr rfl) (.inr ⟨_,rfl⟩)) q
|.b _,_,a=>a
theorem aZ.Xk{m d:Pv}(k:∀c b,m.get? c=O b->(b.cls=.type "tuple"\/b.cls=.type "range")->((∃i e,b.data=.seq i e)\/∃w,b.data=.fields w)->d.get? c=O b):∀{w:List aa}{A:List Pl},aZ m w A->aZ d w A|[],[],_=>trivial|_::_,_::_,a=>⟨ay.Xk k a.1,aZ.Xk k a.2⟩|[],_::_,a=>a.elim|_::_,[],a=>a.elim
end
theorem ay.WU{a c:Pv}(d:aA I b a)(e:gn H a)(f:a1 H b a T c)(g:ay a o n):ay c o n:=g.Xk λ_ _=>qv d e f
theorem aZ.WU{a c:Pv}(f:aA I b a)(g:gn H a)(h:a1 H b a T c){d:List aa}{e:List Pl}(i:aZ a d e):aZ c d e:=i.Xk λ_ _=>qv f g h
theorem ay.WR{a b:Pv}(k:∀c d,a.get? c=O d->b.get? c=O d)(e:ay a o n):ay b o n:=e.Xk λ_ _ f _ _=>k _ _ f
theorem aZ.WR{a b:Pv}(k:∀c d,a.get? c=O d->b.get? c=O d){e:List aa}{f:List Pl}(g:aZ a e f):aZ b e f:=g.Xk λ_ _ h _ _=>k _ _ h
theorem aZ.Xp{a:Pv}{b:List aa}:∀{A:List Pl},aZ a b A->bq (ay a) b A:=@QH aa (λb=>∀{A:List Pl},aZ a b A->bq (ay a) b A) (λ{A}=>@QH Pl (λA=>aZ a [] A->bq (ay a) [] A) (λ_=>trivial) (λ_ _ _ k=>k.elim) A) (λc xs d {A}=>@QH Pl (λA=>aZ a (c::xs) A->bq (ay a) (c::xs) A) (λk=>k.elim) (λ_ _ _ k=>⟨k.1,d k.2⟩) A) b
section
variable{A:List Pl}
theorem aZ.Xt(a:bq (ay m) w A):aZ m w A:=a.Xl (a:=aZ m) trivial λ_ _ _ _ a _ i=>⟨a,i⟩
theorem aZ.Xd(a:aZ m w A):w.length=A.length:=a.Xp.WJ
theorem aZ.W9{a:List aa}{b:List Pl}(c:aZ m w A)(d:aZ m a b):aZ m (w++a) (A++b):=.Xt (c.Xp.W_ d.Xp)
theorem aZ.Xa(b:aZ m w A)(c:w[k]?=O o):∃a,A[k]?=O a/\ay m o a:=b.Xp.Yq c
theorem aZ.W7(k:Nat)(a:aZ m w A):aZ m (w.drop k) (A.drop k):=.Xt (a.Xp.W7 k)
theorem aZ.W3(k:Nat)(a:aZ m w A):aZ m (w.take k) (A.take k):=.Xt (a.Xp.W3 k)
theorem aZ.Xn(k:Nat)(a:aZ m w A)(b:ay m o n):aZ m (w.set k o) (A.set k n):=.Xt (a.Xp.Xn k b)
theorem aZ.XJ(a:aZ m w A):aZ m w.reverse A.reverse:=.Xt a.Xp.XJ
theorem aZ.X6(b:aZ m w A)(c:n∈A):∃a,a∈w/\ay m a n:=b.Xp.X6 c
end
theorem c0.WU{a c:Pv}(f:aA I b a)(g:gn H a)(h:a1 H b a T c){d e}(i:c0 a d e):c0 c d e:=by induction i with|e=>exact .e|c j _ k=>exact .c (j.WU f g h) k
theorem c0.WR{b c:Pv}(k:∀a d,b.get? a=O d->c.get? a=O d){e a}(f:c0 b e a):c0 c e a:=by induction f with|e=>exact .e|c g _ h=>exact .c (g.WR k) h
end
variable{I:aB}{a l:Nat}
section
section
variable{A:Pv}
theorem er(b:ab)(t:Nat)(a:ca):am b t a t=O a:=by unfold am;erw[if_pos rfl];rfl
theorem cx(b:ab)(c:ca)(d:l≠a):am b a c l=b l:=by unfold am;erw[if_neg d];rfl
theorem c0.W6{a b:Pv}(f:∀c d,ay a c d->ay b c d){t e}(g:c0 a t e):c0 b t e:=by induction g with|e=>exact .e|c h _ i=>exact .c (f _ _ h) i
theorem aZ.W6{a b:Pv}(f:∀c d,ay a c d->ay b c d){t e}(g:aZ a t e):aZ b t e:=.Xt (g.Xp.WR f)
theorem iz.WQ{e}(d:iz I m a l e)(g:∀f,m.get? a=O f->A.get? a=O f)(h:∀b c,ay m b c->ay A b c):iz I A a l e:=by
 refine EP d λi j k n o p q=>EJ i j (g _ k) n o (λr d s=>?_) q;have:=p r d s;split<;>rename_i t<;>rw[t]at this;·exact az this λc u b=>⟨c,u,h _ _ b⟩
 .exact this
theorem iy.WQ{a:ca}(b:iy I m t a)(c:∀d,m.get? t=O d->A.get? t=O d)(q:∀j e k,a=.WO j e k->∀d,m.get? e=O d->A.get? e=O d)(i:∀o p,ay m o p->ay A o p):iy I A t a:=by induction a with
 |WE xs=>exact cn b λl n f g h=>⟨l,n,c _ f,g,h.W6 i⟩
 |WN y z=>exact dY b λr s g h=>iC s λa u v w=>⟨r,⟨a,u,c _ v,w⟩,g,h.W6 i⟩
 |WO j e k=>exact⟨c _ b.1,b.2.1.WQ (q j e k rfl) i,b.2.2⟩
 |W5 xs=>refine om b λl n f g h x=>wc l n (c _ f) g (h.W6 i) ?_;erw[x,f,c _ f];rfl
theorem aA.W'(d:aA I b m)(k:∀c a,m.get? c=O a->A.get? c=O a):aA I b A:=⟨λc a f=>k c a (d.WQ c a f),λt a f=>(d.Y2 t a f).WQ (λg=>k t g) (λe h e e g=>k h g) (λe e=>ay.WR k),d.WT,d.Y4⟩
theorem a1.W'(k:∀c a,m.get? c=O a->A.get? c=O a):a1 ct b m b A:=⟨λc a d e e=>k c a d,λe f=>.inl f,λc a d=>⟨a,k c a d⟩⟩
theorem aA.XF(c:aA I b m)(d:m.get? t=U):b t=U:=by
 rcases e:b t with _|f;·rfl
 .refine az ((c.Y2 t f e).XI) λg a h=>?_;rw[d]at a;injection a
theorem aA.Xx(c:aA I b m)(d:m.get? t=U):¬cI b t:=λf=>by refine az (c.Xb f) λe a g=>?_;rw[d]at a;injection a
theorem aA.XX(g:aA I b m)(k:∀a c,m.get? a=O c->A.get? a=O c)(e:m.get? t=U){c:ca}(u:iy I A t c)(q:∀i j l,c≠.WO i j l):aA I (am b t c) A/\a1 ct b m (am b t c) A/\b t=U:=by
 have v:=g.XF e;have r:∀a,cI (am b t c) a->cI b a\/a=t:=λa f=>by
  rcases f with f|⟨s,i,l,f⟩
  .by_cases d:a=t;·exact .inr d
   .rw[cx b c d]at f;exact .inl (.inl f)
  .by_cases d:s=t;·subst d;rw[er]at f;exact absurd (PS f) (q _ _ _)
   .rw[cx b c d]at f;exact .inl (.inr ⟨s,i,l,f⟩)
 refine⟨⟨λa c e=>k a c (g.WQ a c e),λa h f=>?_,λa f=>?_,λa i j l f=>?_⟩,⟨λa c e n n=>k a c e,λa f=>?_,λa c e=>⟨c,k a c e⟩⟩,v⟩
 .by_cases d:a=t;·subst d;rw[er]at f;injection f with f;subst f;exact u
  .rw[cx b c d]at f;exact(g.Y2 a h f).WQ (λh=>k a h) (λn j n n h=>k j h) (λn n=>ay.WR k)
 .rcases r a f with f|rfl;·exact g.WT a f
  .rcases d:I.YQ.get? a with _|h;·rfl
   .rw[g.WQ a h d]at e;injection e
 .by_cases d:a=t;·subst d;rw[er]at f;exact absurd (PS f) (q _ _ _)
  .rw[cx b c d]at f;obtain⟨w,x⟩:=g.Y4 a i j l f;refine⟨?_,λy z B p=>?_⟩
   .by_cases o:j=t;·subst o;exact absurd (Or.inr ⟨a,i,l,f⟩) (g.Xx e)
    .erw[cx b c o];exact w
   .by_cases o:y=t;·subst o;rw[er]at p;exact absurd (PS p) (q _ _ _)
    .rw[cx b c o]at p;exact x _ _ _ p
 .rcases r a f with f|rfl;·exact .inl f
  .exact .inr e
theorem aA.Yu(g:aA I b m)(k:∀c h,m.get? c=O h->A.get? c=O h){i:Pw}(d:m.get? t=U)(q:m.get? i=U)(z:t≠i)(B:iy I A t (.WO a i [])):aA I (am b t (.WO a i [])) A/\a1 ct b m (am b t (.WO a i [])) A/\b t=U/\b i=U:=by
 have C:=g.XF d;have u:=g.XF q;have v:∀c,cI (am b t (.WO a i [])) c->cI b c\/c=t\/c=i:=λc f=>by
  rcases f with f|⟨w,l,r,f⟩
  .by_cases e:c=t;·exact .inr (.inl e)
   .rw[cx b _ e]at f;exact .inl (.inl f)
  .by_cases e:w=t;·subst e;rw[er]at f;cases f;exact .inr (.inr rfl)
   .rw[cx b _ e]at f;exact .inl (.inr ⟨w,l,r,f⟩)
 refine⟨⟨λc h d=>k c h (g.WQ c h d),λc n f=>?_,λc f=>?_,λc l x r f=>?_⟩,⟨λc h d p p=>k c h d,λc f=>?_,λc h d=>⟨h,k c h d⟩⟩,C,u⟩
 .by_cases e:c=t;·subst e;rw[er]at f;injection f with f;subst f;exact B
  .rw[cx b _ e]at f;exact(g.Y2 c n f).WQ (λn=>k c n) (λp i p p n=>k i n) (λp p=>ay.WR k)
 .have:m.get? c=U->I.YQ.get? c=U:=λd=>by
   rcases e:I.YQ.get? c with _|n;·rfl
   .rw[g.WQ c n e]at d;injection d
  rcases v c f with f|rfl|rfl;·exact g.WT c f
  .exact this d
  .exact this q
 .by_cases e:c=t
  .subst e;rw[er]at f;cases f;refine⟨by erw[cx b _ (PB z)];exact u,λs l y o=>?_⟩;by_cases j:s=c;·exact j
   .rw[cx b _ j]at o;exact absurd (Or.inr ⟨s,l,y,o⟩) (g.Xx q)
  .rw[cx b _ e]at f;obtain⟨D,E⟩:=g.Y4 c l x r f;refine⟨?_,λs F y o=>?_⟩
   .by_cases j:x=t;·subst j;exact absurd (Or.inr ⟨c,l,r,f⟩) (g.Xx d)
    .erw[cx b _ j];exact D
   .by_cases j:s=t;·subst j;rw[er]at o;cases o;exact absurd (Or.inr ⟨c,l,r,f⟩) (g.Xx q)
    .rw[cx b _ j]at o;exact E _ _ _ o
 .rcases v c f with f|rfl|rfl;·exact .inl f
  .exact .inr d
  .exact .inr q
theorem C7{j d:ca}(k:b t=O j)(m:∀a l e,d=.WO a l e->∃g,j=.WO a l g)(h:Pw)(f:cI (am b t d) h):cI b h:=by
 rcases f with f|⟨i,a,e,f⟩
 .by_cases c:h=t;·subst c;left;erw[k];exact RV _
  .rw[cx b d c]at f;exact .inl f
 .by_cases c:i=t;·subst c;rw[er]at f;obtain⟨g,rfl⟩:=m _ _ _ (PS f);exact .inr ⟨i,a,g,k⟩
  .rw[cx b d c]at f;exact .inr ⟨i,a,e,f⟩
theorem aA.XZ(j:aA I b m){u n:ca}(q:b t=O u)(S:∀e h i,u≠.WO e h i)(v:∀e h i,n≠.WO e h i)(k:∀a d,a≠t->m.get? a=O d->A.get? a=O d)(F:(∀o p,ay m o p->ay A o p)->iy I A t n):aA I (am b t n) A/\a1 ct b m (am b t n) A:=by
 have w:=C7 (b:=b) (t:=t) (d:=n) q (λe h i g=>absurd g (v e h i));refine az ((j.Y2 t u q).XI) λT V x=>?_;have y:cI b t:=.inl (by erw[q];exact RV _);have W:a1 ct b m b A->a1 ct b m (am b t n) A:=λC=>⟨C.WQ,λa f=>.inl (w a f),C.Zs⟩;have D:∀o p,ay m o p->ay A o p:=λo p G=>ay.Xk (λa d g H x=>k a d (λc=>by subst c;refine az (j.Xb y) λz r K=>?_;rw[g]at r;injection r with r;subst r;rcases K with⟨e,_⟩|⟨e,_⟩|⟨⟨X,e⟩,_⟩<;>rcases H with c|c<;>rw[e]at c<;>first
  |cases c
  |exact absurd c (by decide)) g) G;have E:=F D;refine az E.XI λz M x=>?_;have N:∀a d,m.get? a=O d->∃z,A.get? a=O z:=λa d g=>by
  by_cases c:a=t;·subst c;exact⟨_,M⟩
  .exact⟨d,k a d c g⟩
 refine⟨⟨λa d g=>k a d (λc=>?_) (j.WQ a d g),λa d f=>?_,λa f=>j.WT a (w a f),λa e h i f=>?_⟩,⟨λa d g P x=>k a d (λc=>P (c▸y)) g,λa f=>.inl (w a f),N⟩⟩;·subst c;have:=j.WT a y;rw[g]at this;injection this
 .by_cases c:a=t;·subst c;rw[er]at f;injection f with f;subst f;exact E
  .rw[cx b _ c]at f;refine(j.Y2 a d f).WQ (λd=>k a d c) (λe h i g d=>k h d λl=>?_) D;subst g;have:=(j.Y4 a e h i f).1;rw[l,q]at this;injection this
 .have c:a≠t:=λc=>by subst c;rw[er]at f;exact absurd (PS f) (v _ _ _)
  rw[cx b _ c]at f;obtain⟨B,Q⟩:=j.Y4 a e h i f;refine⟨?_,λR Y Z s=>?_⟩;·erw[cx b _ (λl=>by rw[l,q]at B;injection B)];exact B
  .have l:R≠t:=λl=>by subst l;rw[er]at s;exact absurd (PS s) (v _ _ _)
   rw[cx b _ l]at s;exact Q _ _ _ s
theorem aA.Yd(h:aA I b m){n w:List (Nat×aa)}(j:b t=O (.WO a l n))(k:∀c e,c≠l->m.get? c=O e->A.get? c=O e)(H:(∀p q,ay m p q->ay A p q)->iz I A l a w):aA I (am b t (.WO a l w)) A/\a1 ct b m (am b t (.WO a l w)) A:=by
 have D:=C7 (b:=b) (t:=t) (d:=.WO a l w) j (λr s u g=>by cases g;exact⟨n,rfl⟩);have B:cI b l:=.inr ⟨t,a,n,j⟩;have E:t≠l:=λd=>by have:=(h.Y4 t a l n j).1;rw[<-d,j]at this;injection this
 have F:∀p q,ay m p q->ay A p q:=λp q K=>ay.Xk (λc e g M N=>k c e (λd=>by subst d;refine az (h.Xb B) λx y P=>?_;rw[g]at y;injection y with y;subst y;rcases P with⟨a,_⟩|⟨a,_⟩|⟨⟨T,a⟩,_⟩<;>rcases M with d|d<;>rw[a]at d<;>first
  |cases d
  |exact absurd d (by decide)) g) K;have G:=H F;refine iC (id G) λV W Q X=>?_;have R:∀c e,m.get? c=O e->∃x,A.get? c=O x:=λc e g=>by
  by_cases d:c=l;·subst d;exact⟨_,Q⟩
  .exact⟨e,k c e d g⟩
 refine⟨⟨λc e g=>k c e (λd=>?_) (h.WQ c e g),λc e f=>?_,λc f=>h.WT c (D c f),λc r s u f=>?_⟩,⟨λc e g S N=>k c e (λd=>S (d▸B)) g,λc f=>.inl (D c f),R⟩⟩;·subst d;have:=h.WT c B;rw[g]at this;injection this
 .by_cases d:c=t;·subst d;rw[er]at f;injection f with f;subst f;exact⟨k _ _ E (h.Y2 c _ j).1,G,(h.Y2 c _ j).2.2⟩
  .rw[cx b _ d]at f;refine(h.Y2 c e f).WQ (λx=>k c x λi=>?_) (λr s u g e=>k s e λi=>?_) F;·have:=(h.Y4 t a l n j).1;rw[<-i,f]at this;injection this
   .subst g;exact d ((h.Y4 t a l n j).2 c r u (i▸f))
 .by_cases d:c=t
  .subst d;rw[er]at f;cases f;obtain⟨v,z⟩:=h.Y4 c a l n j;refine⟨by erw[cx b _ (PB E)];exact v,λC r u o=>?_⟩;by_cases i:C=c;·exact i
   .rw[cx b _ i]at o;exact z _ _ _ o
  .rw[cx b _ d]at f;obtain⟨v,z⟩:=h.Y4 c r s u f;refine⟨?_,λC Y Z o=>?_⟩
   .by_cases i:s=t;·rw[i,j]at v;injection v
    .erw[cx b _ i];exact v
   .by_cases i:C=t;·subst i;rw[er]at o;cases o;exact z _ _ _ j
    .rw[cx b _ i]at o;exact z _ _ _ o
end
end
variable{s:Pn}{V:PT}{g:Pl->Pn->Prop}{Q:aa->ab->Prop}{xs:List aa}{A:Bool}{D:Array Pl}{G:Nat}{d:Int}
section
abbrev aS(I:aB)(b:ab)(s:Pn)(Q:aa->ab->Prop)(B:Pl->Pn->Prop):Prop:=∀d e c a f,aA I c a->a1 ct b s.heap c a->ay a d e->Q d c->B e {s with heap:=a,toks:=f}
structure iw(V:PT)(a:Nat):Prop where
 Zo:V.handled=U
 aax:V.depth+4*a+20<recursionLimit
 J?:V.units+40*a+400<cLine
structure fp(I:aB):Prop where
 H:I.YS.In I.YQ
 aex:I.YQ.NoLimit
 ZM:∃P,I.YQ.Ns RT P/\∀F:Pr,F≠"__name__"->P F=Sg F
 aby:I.YQ.get? RQ≠U
 aky:∀R S F,I.P R=O F->I.P S=O F->R=S
section
variable{B:Pl->Pn->Prop}
theorem aA.WE(c:aA I b m)(d:b t=O (.WE xs)):∃a e,P4 m t a e/\a.size<=PV/\aZ m xs a.toList:=c.Y2 t _ d
theorem aA.W5(d:aA I b m)(e:b t=O (.W5 xs)):∃a c,P4 m t a c/\a.size<=PV/\aZ m xs a.toList:=by exact om (d.Y2 t _ e) λa c t f g h=>fe a c t f g
theorem aA.Xv(e:aA I b m){c d}(f:b t=O (.WN c d)):∃a,m.DictAt (QA I.r I.q) t a c/\a.length<=PV/\c0 m d a:=e.Y2 t _ f
theorem aA.WN(d:aA I b m){e c}(f:b t=O (.WN e c)):∃a,m.DictOf (QA I.r I.q) t a/\a.length<=PV/\c0 m c a:=by exact dY (d.Xv f) λa t g h=>⟨a,t.dictOf,g,h⟩
theorem aA.Xw(a:fp I)(c:aA I b m){d:ca}(e:b t=O d):(t==RQ)=J:=by
 have:=c.WT t (.inl (by erw[e];exact RV _));rcases f:t==RQ with _|_;·rfl
 .exact absurd (beq_iff_eq.mp f▸this) a.aby
theorem d_{i:Int}{a:Tok}:ay m (.a i) (.int i a):=⟨a,rfl⟩
theorem te{i:Pr}{a:Tok}:ay m (.E i) (.str i a):=⟨a,rfl⟩
theorem e0:ay m (.g A) (.bool A):=rfl
theorem Fe:ay m .WK .none:=rfl
theorem pB:ay m (.b l) (.ref l):=rfl
theorem h'(a:IsT m t D l)(b:D.size<=PV)(c:aZ m xs D.toList):ay m (.h xs) (.ref t):=⟨t,D,l,rfl,a,b,c⟩
theorem aS.WX(a:aA I b s.heap)(c:aS I b s Q B)(d:ay s.heap o n)(e:Q o b):B n {s with toks:=l}:=c o n b s.heap l a (a1.WZ _ _ _) d e
theorem aS.W0(d:aA I b s.heap)(e:aS I b s Q B)(k:∀a c,s.heap.get? a=O c->m.get? a=O c)(f:ay m o n)(g:Q o b):B n {s with heap:=m,toks:=l}:=e o n b m l (d.W' k) (a1.W' k) f g
theorem cY(a:PA):∀b c,m.get? b=O c->(m.push a).get? b=O c:=λd d e=>TB a e
theorem e9(a:Pv):a.get? a.objs.size=U:=by
 rcases b:a.get? a.objs.size with _|c;·rfl
 .exact absurd (QV b) (SS _)
theorem aS.XG(d:aA I b s.heap)(e:aS I b s Q B)(f:D.size<=PV)(g:aZ s.heap xs D.toList)(h:∀a,b a=U->Q (.b a) (am b a (.WE xs))):B (.ref s.heap.objs.size) {s with heap:=s.heap.push {cls:=.type "list",data:=.seq D},toks:=l}:=by obtain⟨i,j,k⟩:=d.XX (cY _) (e9 s.heap) (c:=.WE xs) ⟨D,0,Qu _ rfl,f,g.WR (cY _)⟩ (λc c c m=>by injection m);exact e _ _ _ _ l i j pB (h _ k)
theorem aS.X5(f:aA I b s.heap)(g:aS I b s Q B)(h:D.size<=PV)(i:aZ m xs D.toList)(k:∀c d,s.heap.get? c=O d->m.get? c=O d)(a:s.heap.get? t=U)(j:P4 m t D G)(n:∀t,b t=U->Q (.b t) (am b t (.WE xs))):B (.ref t) {s with heap:=m,toks:=l}:=by obtain⟨o,p,q⟩:=f.XX k a (c:=.WE xs) ⟨D,G,j,h,i⟩ (λe e e a=>by injection a);exact g _ _ _ _ l o p pB (n _ q)
theorem aS.XS(a:aA I b s.heap)(c:aS I b s Q B)(d:D.size<=PV)(e:aZ s.heap xs D.toList)(f:Q (.h xs) b):B (.ref s.heap.objs.size) {s with heap:=s.heap.push {cls:=.type "tuple",data:=.seq D},toks:=l}:=aS.W0 a c (cY _) (h' (l:=0) (Qu _ rfl) d (e.WR (cY _))) f
theorem Nt(a:d.natAbs<2^63):Builtin.Int.intBits d<=64:=intBits_le_64 (bg iJ (a3 (.B sV) ag) rfl a) (bg iJ (a3 ag sV) rfl a)
noncomputable def e3:dT->Sh|.WM=>.Add|.WV=>.Sub|.YO=>.Mult|.ZZ=>.FloorDiv|.Zl=>.Mod|.c?=>.Pow
theorem e1(a:aZ m xs D.toList):D.size=xs.length:=by erw[a.Xd,RA];rfl
theorem C'(c:Array Pl):∀(a:Nat)(b:Array Pl),((List.foldl (λd e=>d++e) b (QE a c))).toList=b.toList++(QE a c.toList).flatten|0,b=>by simp|a+1,b=>by erw[Sj,QJ];rewrite[C' c a];erw[Sj,Ts,S5,P9];rfl
theorem aZ.X2{b:List Pl}(c:aZ m xs b):∀a,aZ m (QE a xs).flatten (QE a b).flatten|0=>trivial|a+1=>by erw[Sj,Ts,Sj,Ts];exact c.W9 (c.X2 a)
theorem gg{e:Int->Prop}{a:Pl->Prop}(b:fA o e)(c:ay m o n)(k:∀i d,e i->a (.int i d)):a n:=CH (b:=λo=>ay m o n->a n) b (λi b c=>by obtain⟨d,rfl⟩:=c;exact k i d b) c
theorem FB{e:Pr->Prop}{a:Pl->Prop}(b:tr o e)(c:ay m o n)(k:∀i d,e i->a (.str i d)):a n:=FD (b:=λo=>ay m o n->a n) b (λi b c=>by obtain⟨d,rfl⟩:=c;exact k i d b) c
theorem lY{d:Nat->Prop}{a:Pl->Prop}(b:gA o d)(c:ay m o n)(k:∀i,d i->a (.ref i)):a n:=pQ (b:=λo=>ay m o n->a n) b (λi b c=>by obtain rfl:=c;exact k i b) c
theorem g2{d:Pl->Prop}(e:ay m (.h xs) n)(k:∀b a c,IsT m b a c->a.size<=PV->aZ m xs a.toList->d (.ref b)):d n:=by refine h1 e λb a c f g h i=>?_;obtain rfl:=f;exact k b a c g h i
theorem bh{f:List aa->Prop}{b:Pl->Prop}(c:tm o f)(d:ay m o n)(k:∀xs o a e,f xs->IsT m o a e->a.size<=PV->aZ m xs a.toList->b (.ref o)):b n:=Fk (b:=λo=>ay m o n->b n) c (λi c d=>g2 d λo a e=>k i o a e c) d
theorem gJ{g:aa}{b:Pl}{h:Int->Int->Prop}{c:Pl->Pl->Prop}(d:gh o g h)(j:ay m o n)(l:ay m g b)(k:∀i a e f,h i a->c (.int i e) (.int a f)):c n b:=gg (a:=λn=>c n b) d j λi e d=>gg d l λa f=>k i a e f
theorem hJ{d:List aa->Prop}(h:aA I T m)(i:aP (T t) λj=>ea j d)(k:∀xs a c,d xs->T t=O (.WE xs)->P4 m t a c->a.size<=PV->aZ m xs a.toList->a.size=xs.length->z):z:=Bd i λxs e f=>by exact cn (h.WE e) λa c l n g=>k xs a c f e l n g (e1 g)
theorem zr(a:Array Pl)(d e:Nat)(b:(if a.isEmpty=L then 0 else e)=d):(List.foldl (λf g=>f++g) #[] (QE d a)).toList=(QE e a.toList).flatten:=by
 erw[C'];by_cases c:a.isEmpty=L
 .rw[if_pos c]at b;subst b;have:a.toList=[]:=by simpa using c
  erw[this];simp
 .rw[if_neg c]at b;subst b;simp
theorem Nv(ab:fp I){D:dT}{y:aa}{c:Pl}(d:aA I b s.heap)(j:ay s.heap o n)(k:ay s.heap y c)(a:dK D o y b Q)(f:aS I b s Q B):Pq (Py I.r I.q) V (Q1 (e3 D) n c) B g s:=by
 rcases D with _|_|_|_|_|_
 .rcases o with _|_|i|i|xs|⟨_,_⟩|i;·exact Pz a
  .exact Pz a
  .obtain⟨r,rfl⟩:=j;exact gg (e:=λc=>Q (.a (i+c)) b) (a:=λc=>Pq _ V (Q1 (e3 .WM) _ c) B g s) a k λp h a=>P.add_int (aS.WX d f d_ a)
  .obtain⟨r,rfl⟩:=j;exact FB (e:=λc=>i.length+c.length<=1000/\Q (.E (i++c)) b) (a:=λc=>Pq _ V (Q1 (e3 .WM) _ c) B g s) a k λp h a=>add_str (λac ad=>aS.WX d f te a.2) (by have:=a.1;erw[Qd];exact aQ (ai d8 gZ) (ai d8 jv) rfl a.1)
  .refine g2 (d:=λn=>Pq _ V (Q1 (e3 .WM) n c) B g s) j λo e t u E l=>bh (f:=λc=>xs.length+c.length<=aJ/\Q (.h (xs++c)) b) (b:=λc=>Pq _ V (Q1 (e3 .WM) _ c) B g s) a k λz y v G a w M x=>?_;have A:e.size+v.size<=PV:=by have:=a.1;erw[Qd];erw[e1 l,e1 x];exact PO this (Pp rfl)
   by_cases m:e.isEmpty=L;·obtain rfl:xs=[]:=Rl (by erw[<-e1 l];simpa using m);exact concat_meets ⟨_,u,rfl⟩ ⟨_,w,rfl⟩ Vb seq_tuple_add Wf Wn (Wq _ _) (AutoSeq1.tuple___add___tuple_tuple_0 o e t y v G m) ⟨u,w,aS.WX d f (h' w M x) a.2⟩
   .by_cases C:v.isEmpty=L;·obtain rfl:z=[]:=Rl (by erw[<-e1 x];simpa using C);exact concat_meets ⟨_,u,rfl⟩ ⟨_,w,rfl⟩ Vb seq_tuple_add Wf Wn (Wq _ _) (AutoSeq1.tuple___add___tuple_tuple_1 o e t y v G m C) ⟨u,w,aS.WX d f (o:=.h (xs++[])) (h' u E (by erw[P3];exact l)) a.2⟩
    .exact P.add_tuple u w m C (aS.XS d f (by erw[TM];exact A) (by erw[S5];exact l.W9 x) a.2) A
  .exact Pz a
  .obtain rfl:=j;refine lY (d:=λc=>aP (b i) λH=>ea H λxs=>aP (b c) λS=>ea S λz=>xs.length+z.length<=aJ/\∀o,b o=U->Q (.b o) (am b o (.WE (xs++z)))) (a:=λc=>Pq _ V (Q1 (e3 .WM) _ c) B g s) a k λp a=>hJ d a λxs e t a N q E l m=>hJ d a λz v G a N W M x C=>?_;have A:e.size+v.size<=PV:=by have:=a.1;erw[Qd];erw[m,C];exact PO this (Pp rfl)
   exact P.add_list q W (aS.XG d f (by erw[TM];exact A) (by erw[S5];exact l.W9 x) a.2) A
 .exact gJ (h:=λn c=>Q (.a (n-c)) b) (c:=λn c=>Pq _ V (Q1 (e3 .WV) n c) B g s) a j k λi p r h a=>P.sub_int (aS.WX d f d_ a)
 .rcases o with _|_|i|_|_|⟨_,_⟩|n;·exact Pz a
  .exact Pz a
  .obtain⟨r,rfl⟩:=j;exact gg (e:=λc=>(i.natAbs<2^63/\c.natAbs<2^63)/\Q (.a (i*c)) b) (a:=λc=>Pq _ V (Q1 (e3 .YO) _ c) B g s) a k λp h a=>P.mul_int (aS.WX d f d_ a.2) (.of_left (Nt a.1.1))
  .exact Pz a
  .exact Pz a
  .exact Pz a
  .obtain rfl:=j;refine gg (e:=λc=>aP (b n) λH=>ea H λxs=>(0<=c/\c<=1000000/\xs.length<=1)/\∀o,b o=U->Q (.b o) (am b o (.WE (QE c.toNat xs).flatten))) (a:=λc=>Pq _ V (Q1 (e3 .YO) _ c) B g s) a k λc h a=>hJ d a λxs e t a N q E l m=>?_;have X:=a.1.1;have R:=a.1.2.1;have Y:=a.1.2.2;have K:e.size*c.toNat<=2^24:=PO (Nat.mul_le_mul_right _ (show e.size<=1 by exact cp m8 mD lN rfl Y m)) (bg rA (ai (.G 1 fN) jv) rfl R);refine wpAny_binaryOp_repeat_ref (T:="list") (U:="int") (by decide) ⟨_,q,rfl⟩ (λZ=>typeIs_int Z c h) noFill_list_mul F.fills_int_mul Wi repeat_list F.slot_int_index.lookup (RS Wi (typeIs_int s c h) F.entry_int_rmul (F.args_int_rmul_2 _ _) (int___rmul___int_list c h n e t) ⟨q,rfl,⟨_,q,rfl⟩,RS F.slot_list_mul ⟨_,q,rfl⟩ F.entry_list_mul (F.args_list_mul_2 _ _) (AutoListH.list___mul___list_int_3 n e t c h (by simp[Wt];exact bx bl rA r7 rfl X R) (RI.mpr (PO K (by decide))) (by simp[UV,PV];exact K)) ⟨q,aS.XG d f ?_ (by erw[zr e _ c.toNat rfl];exact l.X2 _) a.2⟩⟩);erw[<-RA,zr e _ c.toNat rfl,List.length_flatten,VF,List.sum_replicate_nat,RA,Qd,Nat.mul_comm];exact K
 .exact gJ (h:=λn c=>(0<c/\c<1000000000)/\Q (.a (n/c)) b) (c:=λn c=>Pq _ V (Q1 (e3 .ZZ) n c) B g s) a j k λi p r h a=>by refine floordiv_int (bg fv mS rfl a.1.1) ?_ (.inl (PyProof.noPylong_small (bx fv (a3 ag na) (a8 sN (.H 1073741824)) rfl a.1.1 a.1.2)));erw[Int.fdiv_eq_ediv_of_nonneg _ (bg fv bl rfl a.1.1)];exact aS.WX d f d_ a.2
 .exact gJ (h:=λn c=>0<c/\Q (.a (n%c)) b) (c:=λn c=>Pq _ V (Q1 (e3 .Zl) n c) B g s) a j k λi p r h a=>by refine mod_int' (bg fv mS rfl a.1) ?_;erw[Int.fmod_eq_emod_of_nonneg _ (bg fv bl rfl a.1)];exact aS.WX d f d_ a.2
 .exact gJ (h:=λn c=>(0<=c/\c<=100/\n.natAbs<2^63)/\Q (.a (n^c.toNat)) b) (c:=λn c=>Pq _ V (Q1 (e3 .c?) n c) B g s) a j k λi p r h a=>pow_int_small a.1.1 (bg jj rA rfl a.1.2.1) (bg iJ (a8 sN sV) rfl a.1.2.2) (aS.WX d f d_ a.2)
end
end
variable{c:List (Int×aa)}{X:List (Int×Pl)}
section
open PySem PySem.W PySem.Calls PyProof.Rows PySem.SeqAt
mutual
noncomputable def jI:aa->SN|.WK=>.none|.g a=>.bool a|.a i=>.int i|.E s=>.str s|.h vs=>.tuple (ht vs)|.WW _ _=>.none|.b _=>.none
noncomputable def ht:List aa->List SN|[]=>[]|b::c=>jI b::ht c
end
mutual
theorem tT{e:Pv}:∀(a:Nat)(d:aa)(f:Pl),bu a d=L->ay e d f->Reads e f (jI d) []/\(jI d).canLay0=L/\(jI d).depth<=a
|_,.WK,_,_,b=>by obtain rfl:=b;exact⟨.none,rfl,QD _⟩
|_,.g m,_,_,b=>by obtain rfl:=b;exact⟨.bool m,rfl,QD _⟩
|_,.a i,_,_,b=>by obtain⟨g,rfl⟩:=b;exact⟨.int i g,rfl,QD _⟩
|a,.E s,_,c,b=>by obtain⟨g,rfl⟩:=b;exact⟨.str s g,(i3 a (.E s)).symm.trans c,QD _⟩
|a,.h vs,_,c,b=>by cases a with|zero=>exact c4 c|succ a=>obtain⟨q,n,k,rfl,o,r,p⟩:=b;have h:=pS a vs n.toList c p;exact⟨.tuple o rfl rfl h.1,h.2.1,SQ h.2.2⟩
|a,.WW _ _,_,c,_=>c4 ((i3 a _).symm.trans c)
|a,.b _,_,c,_=>c4 ((i3 a _).symm.trans c)
theorem pS{e:Pv}:∀(a:Nat)(vs:List aa)(xs:List Pl),vs.all (bu a)=L->aZ e vs xs->ReadsAll e xs (ht vs) []/\Vm (ht vs)=L/\PyData.depthAll (ht vs)<=a|_,[],[],_,_=>⟨.nil,rfl,QD _⟩|a,d::vs,f::xs,c,b=>by have c:=Qv.mp c;have j:=tT a d f c.1 b.1;have l:=pS a vs xs c.2 b.2;exact⟨.cons (as:=[]) j.1 l.1,Qv.mpr ⟨j.2.1,l.2.1⟩,Nat.max_le.mpr ⟨j.2.2,l.2.2⟩⟩|_,[],_::_,_,b=>b.elim|_,_::_,[],_,b=>b.elim
end
mutual
theorem xS:∀(c b:Nat)(f a:aa),bu c f=L->bu b a=L->Te (jI f) (jI a)=dx f a
|c,b,.h f,a,e,d=>by cases c with
 |zero=>exact c4 e
 |succ c=>cases a with
  |h a=>cases b with|zero=>exact c4 d|succ b=>exact tb c b f a e d
  |WW=>exact c4 ((i3 b _).symm.trans d)
  |b=>exact c4 ((i3 b _).symm.trans d)
  |_=>rfl
|_,b,.WK,a,_,d=>by cases a<;>first|rfl|exact c4 ((i3 b _).symm.trans d)
|_,b,.g g,a,_,d=>by cases a<;>rfl
|_,b,.a g,a,_,d=>by cases a<;>rfl
|_,b,.E g,a,_,d=>by cases a<;>rfl
|c,_,.WW _ _,_,e,_=>c4 ((i3 c _).symm.trans e)
|c,_,.b _,_,e,_=>c4 ((i3 c _).symm.trans e)
theorem tb:∀(c b:Nat)(f a:List aa),f.all (bu c)=L->a.all (bu b)=L->Vl (ht f) (ht a)=cq f a|_,_,[],[],_,_=>rfl|_,_,[],_::_,_,_=>rfl|_,_,_::_,[],_,_=>rfl|c,b,g::xs,h::i,e,d=>by have e:=Qv.mp e;have d:=Qv.mp d;show(Te (jI g) (jI h)&&Vl (ht xs) (ht i))=(dx g h&&cq xs i);erw[xS c b g h e.1 d.1,tb c b xs i e.2 d.2];rfl
end
section
variable{A:Pl->Pn->Prop}
structure Oq(R:Pv)(S aa:Pl)(k:Bool)(F P:SN)(ab ac:List Pw):Prop where
 ZO:Reads R S F ab
 ZI:Reads R aa P ac
 Z1:F.canLay0=L
 ZL:P.canLay0=L
 i?:F.depth<=9
 C?:P.depth<=9
 t:Te F P=k
theorem vf{d:aa}{i:Pl}{k:Bool}(j:aA I b s.heap)(l:ay s.heap o n)(m:ay s.heap d i)(a:dv o d b=O k)(p:∀q r t u,Oq s.heap n i k q r t u->z):z:=by
 have v:(if bu 9 o&&bu 9 d then O (dx o d)else U)=O k->z:=λa=>by
  by_cases e:(bu 9 o&&bu 9 d)=L;·have c:=Qv.mp e;have f:=tT 9 o n c.1 l;have g:=tT 9 d i c.2 m;exact p _ _ _ _ ⟨f.1,g.1,f.2.1,g.2.1,f.2.2,g.2.2,(xS 9 9 o d c.1 c.2).trans (PS ((if_pos e).symm.trans a))⟩
  .exact nomatch (if_neg e).symm.trans a
 cases o with
 |b F=>
  rcases d with _|_|_|_|_|⟨_,_⟩|G;·exact aU a
  .exact aU a
  .exact aU a
  .exact aU a
  .exact aU a
  .exact aU a
  .obtain rfl:=l;obtain rfl:=m;refine az (Rr.mp a) λw x a=>az (Rr.mp a) λy A a=>?_;rcases w with xs|⟨_,_⟩|⟨_,_,_⟩|_
   .rcases y with h|⟨_,_⟩|⟨_,_,_⟩|_
    .by_cases e:(xs.all (bu 8)&&h.all (bu 8))=L;·have c:=Qv.mp e;refine cn (j.WE x) λH K B M C=>cn (j.WE A) λN P D Q E=>?_;have f:=pS 8 xs _ c.1 C;have g:=pS 8 h _ c.2 E;exact p (.list (ht xs)) (.list (ht h)) _ _ ⟨.list B rfl rfl f.1,.list D rfl rfl g.1,f.2.1,g.2.1,SQ f.2.2,SQ g.2.2,(tb 8 8 xs h c.1 c.2).trans (PS ((if_pos e).symm.trans a))⟩
     .exact nomatch (if_neg e).symm.trans a
    .exact aU a
    .exact aU a
    .exact aU a
   .exact aU a
   .exact aU a
   .exact aU a
 |_=>exact v a
structure v7(R:Pv)(S:Pl)(vs:List Pl)(k:Bool)(F:SN)(P:List SN)(aa ab:List Pw):Prop where
 ZO:Reads R S F aa
 ZI:ReadsAll R vs P ab
 Z1:F.canLay0=L
 ZL:Vm P=L
 i?:F.depth<=9
 t:(P.any λac=>Te ac F)=k
theorem uj(h:aA I b s.heap)(i:ay s.heap o n):∀{f:List aa}{vs:List Pl}{k:Bool},gc o b f=O k->aZ s.heap f vs->vs=[]/\k=J\/∃c g j d,v7 s.heap n vs k c g j d
|[],[],k,a,_=>.inl ⟨rfl,(PS a).symm⟩
|t::f,u::vs,k,a,l=>by
 obtain⟨v,p,a⟩:=Rr.mp a;obtain⟨w,q,a⟩:=Q2.mp a;refine vf h l.1 i p λm c j d A=>.inr ?_;rcases uj h i q l.2 with⟨rfl,rfl⟩|⟨r,g,x,y,e⟩;·exact⟨c,[m],d,_,A.ZI,.cons A.ZO .nil,A.ZL,Qv.mpr ⟨A.Z1,rfl⟩,A.C?,by erw[VY,List.any_nil,A.t];exact a⟩
 .obtain rfl:=Reads.unique c r n _ _ A.ZL A.ZI e.ZO;exact⟨c,m::g,d,_,A.ZI,.cons A.ZO e.ZI,A.ZL,Qv.mpr ⟨A.Z1,e.ZL⟩,A.C?,by erw[VY,A.t,e.t];exact a⟩
|[],_::_,_,_,n=>n.elim
|_::_,[],_,_,n=>n.elim
noncomputable def gB:el->R'|.t=>.Eq|.YW=>.NotEq|.YI=>.Lt|.YT=>.LtE|.Y_=>.Gt|.Zf=>.GtE|.Y9=>.In|.ZE=>.NotIn
theorem pz(e:c0 m c X)(k:Int):match be c k with|some d=>∃a,Sb X k=O a/\ay m d a|none=>Sb X k=U:=by induction e with
 |e=>rfl
 |@c f d a i s g _ h=>
  unfold be Sb;erw[List.find?_cons];by_cases b:f=k;·subst b;simp only[if_true,decide_true];exact⟨a,rfl,g⟩
  .erw[if_neg b,decide_eq_false b];exact h
theorem Lh(b:c0 m c X)(k:Int):(Sb X k).isSome=(be c k).isSome:=by
 have:=pz b k;split at this<;>rename_i a;·refine az this λe d f=>?_;erw[d,a];rfl
 .erw[this,a];rfl
theorem nY(a:m.DictOf (QA I.r I.q) t X):m.MapOf (QA I.r I.q) t (Sb X):=a.mapOf
theorem Ev{i:Array Pl}(a:i.toList=[]):i=#[]:=by simpa using a
theorem A5(G:fp I)(ab:iw V a){v:aa}{g:Pl}{e:Bool->Prop}(q:aA I b s.heap)(w:ay s.heap o n)(B:ay s.heap v g)(h:ul o v b e)(H:∀c d,g=.ref c->IsT s.heap c #[] d->e J->z)(K:∀c d,g=.ref c->P4 s.heap c #[] d->e J->z)(t1:∀c i d j l m p k,g=.ref c->IsT s.heap c i d->v7 s.heap n i.toList k j l m p->e k->z)(M:∀c i d j l m p k,g=.ref c->P4 s.heap c i d->v7 s.heap n i.toList k j l m p->e k->z)(N:∀c t k u,n=.int k u->g=.ref c->(c==RQ)=J->s.heap.DictOf (QA I.r I.q) c t->e (Sb t k).isSome->z):z:=by
 rcases v with _|_|_|_|P|⟨_,_⟩|c;·exact Pz h
 .exact Pz h
 .exact Pz h
 .exact Pz h
 .refine cm (c:=e) h λk r f=>g2 (d:=λQ=>g=Q->z) B (λc i d C D x E=>?_) rfl;rcases uj q w r x with⟨y,rfl⟩|⟨j,l,m,p,A⟩;·obtain rfl:=Ev y;exact H c d E C f
  .exact t1 c i d j l m p k E C A f
 .exact Pz h
 .obtain rfl:=B;refine cm h λR r f=>?_;rcases R with P|⟨u,S⟩|⟨_,_,_⟩|_
  .refine cm (c:=e) f λk T f=>cn (q.WE r) λi d F D x=>?_;rcases uj q w T x with⟨y,rfl⟩|⟨j,l,m,p,A⟩;·obtain rfl:=Ev y;exact K c d rfl F f
   .exact M c i d j l m p k rfl F A f
  .exact gg (e:=λk=>e (be S k).isSome) (a:=λW=>n=W->z) f w (λk u f X=>dY (q.WN r) λt Y D Z=>N c t k u X rfl (q.Xw G r) Y (by rewrite[Lh Z];exact f)) rfl
  .exact Pz f
  .exact Pz f
theorem n2(K:fp I)(y:iw V a){z:el}{M:aa}{d:Pl}(e:aA I b s.heap)(q:ay s.heap o n)(j:ay s.heap M d)(h:b3 z o M b Q)(l:aS I b s Q A):Pq (Py I.r I.q) V (Re (gB z) n d) A g s:=by
 have t:V.units+400<cLine:=by have:=y.J?;exact bO (a8 (.i (.i ag (.G 40 ap)) sh) av) (a8 (.i ag sh) av) rfl this
 rcases z with _|_|_|_|_|_|_|_;·exact cm (c:=λk=>Q (.g k) b) h λk B h=>vf e q j B λu N v w c=>compareEq_reads c.ZO c.ZI c.Z1 c.ZL (by have:=c.i?;have:=c.C?;exact dd f7 lC wK rfl this t) (by erw[c.t];exact aS.WX e l e0 h)
 .exact cm (c:=λk=>Q (.g (!k)) b) h λk B h=>vf e q j B λu N v w c=>compareNe_reads c.ZO c.ZI c.Z1 c.ZL (by have:=c.i?;have:=c.C?;exact dd f7 lC wK rfl this t) (by erw[c.t];exact aS.WX e l e0 h)
 .exact gJ (h:=λn d=>Q (.g (Ps (n<d))) b) (c:=λn d=>Pq _ V (Re (gB .YI) n d) A g s) h q j λi C x D h=>P.lt_int (aS.WX e l e0 h)
 .exact gJ (h:=λn d=>Q (.g (Ps (n<=d))) b) (c:=λn d=>Pq _ V (Re (gB .YT) n d) A g s) h q j λi C x D h=>P.le_int (aS.WX e l e0 h)
 .exact gJ (h:=λn d=>Q (.g (Ps (d<n))) b) (c:=λn d=>Pq _ V (Re (gB .Y_) n d) A g s) h q j λi C x D h=>P.gt_int (aS.WX e l e0 h)
 .exact gJ (h:=λn d=>Q (.g (Ps (d<=n))) b) (c:=λn d=>Pq _ V (Re (gB .Zf) n d) A g s) h q j λi C x D h=>P.ge_int (aS.WX e l e0 h)
 .refine A5 (e:=λk=>Q (.g k) b) K y e q j h ?_ ?_ ?_ ?_ ?_;·rintro p r rfl m f;exact in_tupleAt (λE=>J) ⟨_,m,rfl,_,rfl⟩ (λd j=>by simp at j) (aS.WX e l e0 (by simpa using f))
  .rintro p r rfl m f;exact in_listAt (λE=>J) ⟨_,m,rfl,_,rfl⟩ (λd j=>by simp at j) (aS.WX e l e0 (by simpa using f))
  .rintro p i r u F v w k rfl m c f;exact in_tuple_reads (.tuple m rfl rfl c.ZI) c.ZO c.ZL c.Z1 (by have:=c.i?;exact dd f7 lC oJ rfl this t) (by erw[c.t];exact aS.WX e l e0 f)
  .rintro p i r u F v w k rfl m c f;exact in_list_reads (.list m rfl rfl c.ZI) c.ZO c.ZL c.Z1 (by have:=c.i?;exact dd f7 lC oJ rfl this t) (by erw[c.t];exact aS.WX e l e0 f)
  .rintro p R k x rfl rfl G H f;exact wpAny_in_of (RR _ _ _ _) G (nY H) (aS.WX e l e0 f)
 .refine A5 (e:=λk=>Q (.g (!k)) b) K y e q j h ?_ ?_ ?_ ?_ ?_;·rintro p r rfl m f;exact notIn_tupleAt (λE=>J) ⟨_,m,rfl,_,rfl⟩ (λd j=>by simp at j) (aS.WX e l e0 (by simpa using f))
  .rintro p r rfl m f;exact notIn_listAt (λE=>J) ⟨_,m,rfl,_,rfl⟩ (λd j=>by simp at j) (aS.WX e l e0 (by simpa using f))
  .rintro p i r u F v w k rfl m c f;exact notIn_tuple_reads (.tuple m rfl rfl c.ZI) c.ZO c.ZL c.Z1 (by have:=c.i?;exact dd f7 lC oJ rfl this t) (by erw[c.t];exact aS.WX e l e0 f)
  .rintro p i r u F v w k rfl m c f;exact notIn_list_reads (.list m rfl rfl c.ZI) c.ZO c.ZL c.Z1 (by have:=c.i?;exact dd f7 lC oJ rfl this t) (by erw[c.t];exact aS.WX e l e0 f)
  .rintro p R k x rfl rfl G H f;exact wpAny_notIn_of (RR _ _ _ _) G (nY H) (aS.WX e l e0 f)
end
end
variable{p:as}{M:Pr}
section
open PySem PySem.W PySem.Calls PyProof.Rows PySem.SeqAt Builtin Builtin.ObjectAttr
section
variable{B:Pl->Pn->Prop}
theorem Bg:∀(d:List (Nat×aa))(a:Nat)(b:aa),bS (ci d a b) a=O b|[],a,b=>by simp[ci,bS]|(k,f)::e,a,b=>by unfold ci;cases c:PX k a with|true=>simp only[bS,c]|false=>simp only[bS,c];exact Bg e a b
theorem ut:∀(f:List (Nat×aa))(b a:Nat)(c:aa),a≠b->bS (ci f b c) a=bS f a
|[],b,a,c,d=>by
 have:PX b a=J:=by cases e:PX b a with|false=>rfl|true=>exact absurd (Q3 e).symm d
 simp[ci,bS,this]
|(k,j)::g,b,a,c,d=>by unfold ci;cases e:PX k b with
 |true=>
  have h:=Q3 e;have:PX k a=J:=by cases i:PX k a with|false=>rfl|true=>exact absurd ((Q3 i).symm.trans h) d
  simp only[bS,this]
 |false=>simp only[bS];erw[ut g b a c d];rfl
theorem qs:∀(b:List (Nat×aa))(a:Nat)(c:aa),(ci b a c).length=if(bS b a).isSome then b.length else b.length+1|[],a,c=>by simp[ci,bS]|(k,f)::e,a,c=>by unfold ci;cases d:PX k a with|true=>simp[bS,d]|false=>simp only[bS,d,PL];erw[qs e a c];split<;>rfl
theorem Bf{b:List Sx}(e:∀a∈b,∃c d,a.key=.str c d)(c:Pr):lookIn c (QZ b l)=O (Qz b.toArray c):=by unfold lookIn Qz findBy;simp only[List.find?_toArray];cases g:b.find? (λa=>a.key.isStr c)with
 |some a=>rfl
 |none=>
  have:b.any (·.refKey)=J:=by rewrite[List.any_eq_false];refineλa f=>on (e a f) λh d k=>?_;simp[DictEntry.refKey,k]
  simp only[this,Sa,if_false,Option.map_none]
theorem iz.WO{c}(b:s.heap.get? t=O (RC (I.YX G) l))(h:iz I s.heap l G c):∃a d,InstAt s.heap t (RC (I.YX G) l) (I.YX G) (O (QZ a d))/\(∀i∈a,∃b j,i.key=.str b j)/\a.length=c.length/\(∀t b,I.P t=O b->match bS c t with|some e=>∃f,Qz a.toArray b=O f/\ay s.heap e f|none=>Qz a.toArray b=U)/\(∀t e,bS c t=O e->I.YH.YY G t=L)/\s.heap.get? l=O (QZ a d):=by exact EP h λa d g k m n o=>EI a d ⟨b,rfl,rfl,g⟩ k m n o g
theorem iu{a b:Type}{c:Option a}{f:a->Option b}{d:a}{e:Option b}(g:c=O d)(k:f d=e):c.bind f=e:=by subst g;exact k
theorem Es(K:fp I)(N:p.ZA=I.YH.ZA)(f:aA I b s.heap)(P:ay s.heap o n)(k:I.P l=O M)(c:dB p o l b Q)(y:aS I b s Q B):Pq (Py I.r I.q) V (getAttr n M A) B g s:=by
 refine lY (d:=λM=>aP (b M) λR=>nK R λm a q=>aP ((bS q l).or (p.ZA m l)) λe=>Q e b) (a:=λn=>Pq _ V (getAttr n M A) B g s) c P λS c=>CI c λm am q r c=>cm (c:=λe=>Q e b) c λe i c=>cc (f.Y2 S _ r) λT W h=>ol (iz.WO T W) λz X C Y an Z ab ao=>az (any_some h.Y?) λac D ad=>?_;have E:=K.H.keeps f.WQ;have j:=Z l M k;have F:Vf ac (O (QZ z X)) M=O (Qz z.toArray M):=by unfold Vf;erw[if_pos ad];exact Bf Y M
 rcases t:bS q l with _|u;·rw[t]at j i;have G:p.ZA m l=O e:=i;rw[N]at G;exact O_ (h.E? l M e k G) λw ae af H ag ah=>get_value E C h.P? (v:=w) (iu D (iu ae (iu af (iu rfl (iu (F.trans (congrArg O j)) ((if_neg λr=>QY (ag.symm.trans ((Qc _ _).mp r).1)).trans (if_pos H))))))) H (aS.WX f y (ah.WR f.WQ) c)
 .rw[t]at j i;obtain rfl:u=e:=PS i;refine az j λw ai d=>?_;have aj:=h.YY l M k (ab l u t);refine get_value E C h.P? (v:=w) ?_ ?_ (aS.WX f y d c);·exact iu D (iu aj (iu rfl (iu rfl (iu (F.trans (congrArg O ai)) rfl))))
  .rcases u with _|_|_|_|_|⟨_,_⟩|_;·obtain rfl:=d;rfl
   .obtain rfl:=d;rfl
   .obtain⟨al,rfl⟩:=d;rfl
   .obtain⟨al,rfl⟩:=d;rfl
   .refine d7 d λa a a x a=>?_;obtain rfl:=x;rfl
   .refine wf d λa a a a x a=>?_;obtain rfl:=x;rfl
   .obtain rfl:=d;rfl
theorem Iv{a:List Sx}{b:Pr}{g:Tok}(h:a.toArray.findIdx? (λe=>e.key.isStr M)=U):Qz (a.toArray.push ⟨d,.str M g,n⟩) b=if b=M then O n else Qz a.toArray b:=findBy_push (λi n=>n.isStr i) a.toArray M b d _ n (λc=>by
 show(M==c)=Ps (c=M);by_cases f:c=M;·subst f;simp
 .have:¬M=c:=λe=>f e.symm;simp[f,this]) h
theorem yV(Z:fp I)(ap:p.YY=I.YH.YY){j:aa}{d:Pl}{Q:ab->Prop}{H:Unit->Pn->Prop}(K:aA I b s.heap)(aq:ay s.heap o n)(ar:ay s.heap j d)(C:I.P l=O M)(q:fS p o l j b Q)(au:∀N P av,aA I N P->a1 ct b s.heap N P->Q N->H () {s with heap:=P,toks:=av}):Pq (Py I.r I.q) V (setAttr n M d) H g s:=by
 refine lY (d:=λM=>aP (b M) λn=>nK n λD v t=>(p.YY D l=L/\t.length<=100)/\Q (am b M (.WO D v (ci t l j)))) (a:=λn=>Pq _ V (setAttr n M d) H g s) q aq λm q=>CI q λD v t c q=>?_
 ··refine cc (K.Y2 m _ c) λaw ax E=>?_;have R:=q.1.1;have ac:=q.1.2;have q:=q.2;rw[ap]at R;refine ol (iz.WO aw ax) λf u S T ad ae aB W=>az (any_some E.Y?) λaY aG aH=>?_;have X:=Z.H.keeps K.WQ;have aI:=E.YY l M C R;refine set_plain X S E.abz (osa_open (s:={s with toks:=s.toks+1}) X S E.adz (r:=U) (by unfold takerIn;erw[aI];rfl) λaZ=>?_);have aJ:(!f.toArray.any (·.key.isStr M)&&f.toArray.any (·.refKey))=J:=by
    have:f.toArray.any (·.refKey)=J:=by rewrite[Array.any_eq_false'];intro c h;obtain⟨af,ah,k⟩:=T c (by simpa using h);simp[DictEntry.refKey,k]
    erw[this,Ww];rfl
   obtain⟨aK,a0,a2,-⟩:=S;refine Pu (PH (Pu (Pu (wpAny_loadPart (o:=RC (I.YX D) v) aK (Pu (looks_clsIn X aG _ _ _ _ (λF F c=>c) ?_))))));erw[aH];refine PH (a:=O v) (Pu (PH (Pu ?_)));unfold nsSet;refine Pu (Pu (wpAny_askSetting (PH (Pu (wpAny_mkText (Pu (wpAny_loadPart W ?_)))))));dsimp only;erw[aRefKeyMayBeTheName_at,aJ];have aL:∃w x,Tf M (RU I.q.params M) (.str M (s.toks+1)) d (QZ f u)=QZ w x/\(∀c∈w,∃M ah,c.key=.str M ah)/\w.length=(ci t l j).length/\(∀n,Qz w.toArray n=if n=M then O d else Qz f.toArray n):=by have y:=ae l M C;erw[Obj.putName_eq];unfold Obj.putNameByArray;dsimp only;cases e:f.toArray.findIdx? (λc=>c.key.isStr M)with
    |some i=>
     refine wc ((f.toArray.modify i λc=>{c with val:=d}).toList) u (by simp) (λc h=>?_) ?_ (λn=>?_);·have aM:StrKeys f.toArray:=λc h=>T c (by simpa using h);exact aM.modify i d c (by simpa using h)
     .have:(bS t l).isSome=L:=by
       rcases z:bS t l with _|_
       .rw[z]at y;have:=Vd (λu j=>j.isStr u) f.toArray M;unfold Qz at y;rw[y,e]at this;refine az (Array.findIdx?_eq_some_iff_getElem.mp e) λaQ F F=>?_;have aR:i<f.length:=by simpa using aQ
        simp[P8 aR]at this
       .rfl
      erw[qs,if_pos this,<-ad];simp
     .have:=findBy_modify (λu j=>j.isStr u) Value.isStr_inj f.toArray M n d i e;simpa[Qz]using this
    |none=>
     refine wc (f++[⟨RU I.q.params M,.str M (s.toks+1),d⟩]) (u+1) (by simp) (λc h=>?_) ?_ (λn=>?_)
     .rcases Qh.mp h with h|h;·exact T c h
      .simp at h;subst h;exact⟨M,_,rfl⟩
     .have:(bS t l).isSome=J:=by
       rcases z:bS t l with _|_;·rfl
       .rw[z]at y;refine az y λG A F=>?_;have:=Vd (λu j=>j.isStr u) f.toArray M;unfold Qz at A;rw[A,e]at this;injection this
      erw[qs,this,<-ad];simp
     .have:=Iv (b:=n) (d:=RU I.q.params M) (g:=s.toks+1) (n:=d) e;simpa using this
   refine om aL λw x aj aS al aT=>wpAny_updatePart W ?_;have aU:=Heap.SameBut.update s.heap v (Tf M (RU I.q.params M) (.str M (s.toks+1)) d);have an:(s.heap.update v (Tf M (RU I.q.params M) (.str M (s.toks+1)) d)).get? v=O (QZ w x):=by erw[<-aj];exact Heap.get?_update_self _ W (by erw[aj];rfl)
   refine Pu (wpAny_lookBehind (o:=QZ w x) an (pastItsLine_dict (by erw[RZ,al,qs,Qd];split<;>(first|exact a7 eG (ai ag sR) rfl ac|exact a7 eG (ai bk sR) rfl ac))) (PH ?_));obtain⟨aV,aW⟩:=K.Yd (w:=ci t l j) c (A:=s.heap.update v (Tf M (RU I.q.params M) (.str M (s.toks+1)) d)) (λm a3 e c=>(aU.2 m e).trans c) (λao=>by
    refine EJ w x an aS al (λm n Y=>?_) (λm G A=>?_)
    .erw[aT n];by_cases e:m=l;·subst e;erw[Bg];have:n=M:=PS (Y.symm.trans C);subst this;exact⟨d,by erw[if_pos rfl];rfl,ao _ _ ar⟩
     .erw[ut _ _ _ _ e];have:¬n=M:=λc=>e (Z.aky m l M (c▸Y) C);have:=ae m n Y;erw[if_neg ‹¬n=M›];split<;>rename_i z<;>rw[z]at this;·exact az this λG aX af=>⟨G,aX,ao _ _ af⟩
      .exact this
    .by_cases e:m=l;·subst e;exact R
     .rw[ut _ _ _ _ e]at A;exact aB m G A);exact au _ _ _ aV aW q
end
end
variable{vs:List aa}
section
noncomputable def lZ:fJ->Pl|.WJ=>.builtin "len"|.ZF=>.builtin "max"|.ZJ=>.builtin "min"|.Z'=>.builtin "abs"|.Zr=>.builtin "sum"|.a=>.type "int"|.W2=>.type "tuple"|.WE=>.type "list"|.WN=>.type "dict"|.WW=>.type "range"
section
variable{A:Pl->Pn->Prop}
theorem yN:∀{xs:List aa}{vs:List Pl}{b:Int},fR xs=O b->aZ m xs vs->∃c:List (Int×Tok),vs=c.map (λe=>.int e.1 e.2)/\(c.map (·.1)).sum=b
|[],[],b,d,_=>⟨[],rfl,PS d⟩
|f::g,n::vs,b,d,a=>by cases f with
 |a i=>obtain⟨o,h,j⟩:=Q2.mp (show(fR g).map (i+·)=O b from d);obtain⟨k,rfl⟩:=a.1;obtain⟨c,rfl,l⟩:=yN h a.2;exact⟨(i,k)::c,rfl,by erw[<-j,<-l];rfl⟩
 |_=>exact aU d
|_::_,[],_,_,a=>a.elim
|[],_::_,_,_,a=>a.elim
theorem aS.XT(m:aA I b s.heap)(n:aS I b s Q A){e:List (Int×aa)}{c:List (Int×Pl)}{h:Nat}{a:Pw}{d:Pv}(o:c.length<=PV)(p:c0 d e c)(k:∀i j,s.heap.get? i=O j->d.get? i=O j)(f:s.heap.get? a=U)(g:d.DictOf (QA I.r I.q) a c)(q:∀a r,b a=U->Q (.b a) (am b a (.WN r e))):A (.ref a) {s with heap:=d,toks:=h}:=by obtain⟨t,g⟩:=g.dictAt;obtain⟨u,v,w⟩:=m.XX k f (c:=.WN t e) ⟨c,g,o,p⟩ (λl l l f=>by injection f);exact n _ _ _ _ h u v pB (q _ _ w)
theorem c0.Xd{a b}(c:c0 m a b):a.length=b.length:=by induction c with|e=>rfl|c _ _ d=>erw[PL,PL,d];rfl
abbrev mA(I:aB):Prop:=∀{b:ab}{s:Pn}{V:PT}{g:Pl->Pn->Prop}{Q:aa->ab->Prop}{A:Pl->Pn->Prop}{c:Pw}{xs:List aa}{d:List (Int×aa)},V.handled=U->aA I b s.heap->b c=O (.WE xs)->l2 b xs=O d->(∀a e,b a=U->Q (.b a) (am b a (.WN e (i5 [] d))))->aS I b s Q A->Pq (Py I.r I.q) V (Qb (.type "dict") [.ref c]) A g s
theorem hz{e:aa->Prop}{xs:List Pl}{f:List Pl->Prop}(a:g5 vs e)(b:aZ m vs xs)(k:∀c d,e c->ay m c d->f [d]):f xs:=match vs,xs,b,a with|[c],[d],b,a=>k c d a b.1|_::_::_,_,_,a=>Pz a|[],_,_,a=>Pz a|_::_,[],b,_=>Pz b|[_],_::_::_,b,_=>Pz b.2
theorem x6{h:aa->aa->Prop}{xs:List Pl}{i:List Pl->Prop}(b:tk vs h)(a:aZ m vs xs)(k:∀c e d g,h c e->ay m c d->ay m e g->i [d,g]):i xs:=match vs,xs,a,b with
|c::n,d::j,a,b=>hz (e:=h c) (f:=λj=>i (d::j)) b a.2 λe g f l=>k c e d g f a.1 l
|[],_,_,b=>Pz b
|_::_,[],a,_=>Pz a
theorem yM(e:iw V a)(f:aA I b s.heap)(h:P4 s.heap t D l)(i:aZ s.heap xs D.toList)(j:fR xs=O d)(m:Q (.a d) b)(n:aS I b s Q A):Pq (Py I.r I.q) V (Qb (lZ .Zr) [.ref t]) A g s:=by
 refine az (yN j i) λc o p=>?_;have q:D=intItems c.toArray:=by unfold intItems;erw[List.map_toArray,<-o];rfl
 subst q;refine sum_intListG e.Zo h.isList λu v w k=>?_;erw[preSum_eq,RJ (by simp)];have:(SY (λr=>r.fst) c.toArray.toList).sum=d:=p;erw[this];exact aS.W0 f n k d_ m
theorem BP(c:aA I b s.heap)(d:P4 s.heap t D l)(a:D.size<=PV)(e:aZ s.heap xs D.toList)(f:Q (.a xs.length) b)(h:aS I b s Q A):Pq (Py I.r I.q) V (Qb (lZ .WJ) [.ref t]) A g s:=by have:=e1 e;rw[Qd]at a;exact call_len_list d.isList (a7 jA (a3 bm f2) rfl a) (by erw[this];exact aS.WX c h d_ f)
abbrev eW(I:aB)(V:PT)(a:fJ)(A:Pl->Pn->Prop)(g:Pl->Pn->Prop)(s:Pn)(xs:List Pl):Prop:=Pq (Py I.r I.q) V (Qb (lZ a) xs) A g s
theorem Nu(K:fp I)(T:mA I)(C:iw V a){r:fJ}{xs:List Pl}(f:aA I b s.heap)(e:aZ s.heap vs xs)(c:cz r vs b Q)(p:aS I b s Q A):Pq (Py I.r I.q) V (Qb (lZ r) xs) A g s:=by
 rcases r with _|_|_|_|_|_|_|_|_|_
 .refine hz (f:=eW I V .WJ A g s) c e λq d c n=>?_;rcases q with _|_|_|_|xs|⟨_,_⟩|t;·exact Pz c
  .exact Pz c
  .exact Pz c
  .exact Pz c
  .refine g2 (d:=λd=>eW I V .WJ A g s [d]) n λt w h z j e=>?_;have:=e1 e;have M:=j;rw[Qd]at M;exact P.len_tuple z (a7 jA (.w (aq f2 bm)) rfl M) (by erw[this];exact aS.WX f p d_ c)
  .exact Pz c
  .obtain rfl:=n;refine cm c λu o c=>?_;rcases u with xs|⟨x,D⟩|⟨_,_,_⟩|xs;·exact cn (f.WE o) λw h v j e=>BP f v j e c p
   .refine dY (f.WN o) λW E j F=>?_;have:=F.Xd;rw[Qd]at j;exact call_len_dict (f.Xw K o) E (a7 jA (a3 bm f2) rfl j) (by erw[<-this];exact aS.WX f p d_ c)
   .exact Pz c
   .exact cn (f.W5 o) λw h v j e=>BP f v j e c p
 .refine x6 (i:=eW I V .ZF A g s) c e λq N d l c n G=>gJ (h:=λd l=>Q (.a (max d l)) b) (c:=λd l=>eW I V .ZF A g s [d,l]) c n G λd l x H c=>max_two_ints C.Zo λy R k=>aS.W0 f p (o:=.a (max d l)) k ?_ c;by_cases m:l>d;·erw[if_pos m];refine bG (show max d l=l by exact dO dk (aT pf ap) rfl m) ?_;exact d_
  .erw[if_neg m];refine bG (show max d l=d by exact dO (.w dk) (aT pf ag) rfl m) ?_;exact d_
 .refine x6 (i:=eW I V .ZJ A g s) c e λq N d l c n G=>gJ (h:=λd l=>Q (.a (P1 d l)) b) (c:=λd l=>eW I V .ZJ A g s [d,l]) c n G λd l x H c=>min_two_ints C.Zo λy R k=>aS.W0 f p (o:=.a (P1 d l)) k ?_ c;by_cases m:l<d;·erw[if_pos m];refine bG (show P1 d l=l by exact dO dk (aT jp ag) rfl m) ?_;exact d_
  .erw[if_neg m];refine bG (show P1 d l=d by exact dO (.w dk) (aT jp ap) rfl m) ?_;exact d_
 .refine hz (f:=eW I V .Z' A g s) c e λq d c n=>gg (e:=λd=>Q (.a d.natAbs) b) (a:=λd=>eW I V .Z' A g s [d]) c n λi x c=>call_abs_int λH R=>?_;have:(if i<0 then-i else i)=(i.natAbs:Int):=by
   by_cases m:i<0;·exact(if_pos m).trans (V0 (Sv m)).symm
   .exact(if_neg m).trans (V3 (R7.mp m)).symm
  erw[this];exact aS.WX f p d_ c
 .refine hz (f:=eW I V .Zr A g s) c e λq d c n=>lY (d:=λt=>aP (b t) λd=>lW d λxs=>aP (fR xs) λh=>Q (.a h) b) (a:=λd=>eW I V .Zr A g s [d]) c n λt c=>cm c λu o c=>?_;rcases u with xs|⟨_,_⟩|⟨_,_,_⟩|xs;·exact cm (c:=λh=>Q (.a h) b) c λh m c=>by exact cn (f.WE o) λw B v j e=>yM C f v e m c p
  .exact Pz c
  .exact Pz c
  .exact cm (c:=λh=>Q (.a h) b) c λh m c=>by exact cn (f.W5 o) λw B v j e=>yM C f v e m c p
 .refine hz (f:=eW I V .a A g s) c e λq d c n=>?_;rcases q with _|r|i|_|_|⟨_,_⟩|_;·exact Pz c
  .obtain rfl:=n;exact call_int_bool (aS.WX f p d_ c)
  .obtain⟨x,rfl⟩:=n;exact call_int_int (aS.WX f p d_ c)
  .exact Pz c
  .exact Pz c
  .exact Pz c
  .exact Pz c
 .refine hz (f:=eW I V .W2 A g s) c e λq d c n=>?_;rcases q with _|_|_|_|xs|⟨_,_⟩|t;·exact Pz c
  .exact Pz c
  .exact Pz c
  .exact Pz c
  .exact g2 (d:=λd=>eW I V .W2 A g s [d]) n λt w h z j e=>call_tuple_same ⟨_,z,rfl,_,rfl⟩ (aS.WX f p (h' z j e) c)
  .exact Pz c
  .obtain rfl:=n;refine hJ f c λxs w h c o v j e m=>call_tuple_list v.isList (λy k=>?_) j;have S:∀r u,s.heap.get? r=O u->(y.push {cls:=.type "tuple",data:=.seq w}).get? r=O u:=λr u o=>cY _ _ _ (k r u o);exact aS.W0 f p S (h' (l:=0) (Qu _ rfl) j (e.WR S)) c
 .refine hz (f:=eW I V .WE A g s) c e λq d c n=>?_;rcases q with _|_|_|_|xs|⟨_,_⟩|t;·exact Pz c
  .exact Pz c
  .exact Pz c
  .exact Pz c
  .exact g2 (d:=λd=>eW I V .WE A g s [d]) n λt w h z j e=>call_list_seq t (.inr rfl) z rfl rfl (λy X k o=>aS.X5 f p j (e.WR k) k (e9 _) o c) j
  .exact Pz c
  .obtain rfl:=n;exact hJ f c λxs w h c o v j e m=>call_list_seq _ (.inl rfl) v rfl rfl (λy X k o=>aS.X5 f p j (e.WR k) k (e9 _) o c) j
 .refine hz (f:=eW I V .WN A g s) c e λq d c n=>pQ (b:=λq=>ay s.heap q d->eW I V .WN A g s [d]) c (λt c n=>?_) n;obtain rfl:=n;refine cm c λu o c=>?_;rcases u with xs|⟨x,D⟩|⟨_,_,_⟩|_;·exact cm (c:=λD=>∀t x,b t=U->Q (.b t) (am b t (.WN x (i5 [] D)))) c λD m c=>T C.Zo f o m c p
  .refine dY (f.WN o) λW E j F=>kt_call_dict (f.Xw K o) E j λy Y Z=>?_;have k:∀r u,s.heap.get? r=O u->y.get? r=O u:=λr u o=>(Z.2 r (λm=>by rw[m,e9]at o;injection o)).trans (cY _ _ _ o);exact aS.XT f p j (F.WR k) k (e9 _) Y c
  .exact Pz c
  .exact Pz c
 .match vs,xs,e,c with
  |[q],[d],e,c=>exact gg (e:=λh=>(-(2^62)<=h/\h<2^62)/\Q (.WW 0 h) b) (a:=λd=>eW I V .WW A g s [d]) c e.1 λh x c=>call_range_1 (aS.W0 f p (cY _) (by exact ru _ _ _ _ rfl (Qu _ rfl) ⟨by exact aR (.i (aq gx aX) (a3 aX f3)) rfl,c.1⟩) c.2)
  |[q,N],[d,l],e,c=>exact gJ (h:=λB h=>((-(2^62)<=B/\B<2^62)/\-(2^62)<=h/\h<2^62)/\Q (.WW B h) b) (c:=λd l=>eW I V .WW A g s [d,l]) c e.1 e.2.1 λB h x H c=>call_range_2 (aS.W0 f p (cY _) (by exact ru _ _ _ _ rfl (Qu _ rfl) c.1) c.2)
  |[],_,_,c=>exact Pz c
  |_::_::_::_,_,_,c=>exact Pz c
  |_::_,[],e,_=>exact Pz e
  |[_],_::_::_,e,_=>exact Pz e.2
  |[_,_],[_],e,_=>exact Pz e.2
  |[_,_],_::_::_::_,e,_=>exact Pz e.2.2
end
end
section
section
variable{A:Pl->Pn->Prop}
theorem Ow.Yc(a:P4 m t D l)(f:Array Pl->Array Pl):∃b,P4 (m.update t (SO f)) t (f D) b:=⟨_,a.update f⟩
theorem aS.XD(e:aA I b s.heap)(h:aS I b s Q A){f:Array Pl->Array Pl}(a:b t=O (.WE xs))(i:P4 s.heap t D l)(j:(f D).size<=PV)(k:aZ s.heap w (f D).toList)(m:ay s.heap o n)(d:Q o (am b t (.WE w))):A n {s with heap:=s.heap.update t (SO f),toks:=G}:=by obtain⟨p,q⟩:=Ow.Yc i f;have r:=Heap.SameBut.update s.heap t (SO f);obtain⟨u,g⟩:=e.XZ a (λc c c a=>by injection a) (λc c c a=>by injection a) (n:=.WE w) (A:=s.heap.update t (SO f)) (λv y d a=>(r.2 v d).trans a) (λx=>⟨_,p,q,j,k.W6 x⟩);exact h _ _ _ _ G u g (m.WU e es g) d
theorem aS.Ye(h:aA I b s.heap)(j:aS I b s Q A){e:List (Int×aa)}(a:b t=O (.WN G c))(k:UK t s.heap m)(f:m.DictOf (QA I.r I.q) t X)(p:X.length<=PV)(q:(∀n o,ay s.heap n o->ay m n o)->c0 m e X)(r:ay s.heap o n)(g:∀G,Q o (am b t (.WN G e))):A n {s with heap:=m,toks:=l}:=by obtain⟨u,f⟩:=f.dictAt;obtain⟨v,i⟩:=h.XZ a (λd d d a=>by injection a) (λd d d a=>by injection a) (n:=.WN u e) (A:=m) (λw y g a=>(k.2 w g).trans a) (λx=>⟨_,f,p,q x⟩);exact j _ _ _ _ l v i (r.WU h es i) (g _)
theorem zQ{k:Int}(a:bQ xs k=O o):∃d,Q_ k xs.length=O d/\xs[d]?=O o/\d<xs.length:=by
 unfold bQ at a;by_cases b:0<=k
 .rw[if_pos b]at a;have e:k.toNat<xs.length:=by
   by_cases c:k.toNat<xs.length;·exact c
   .rw[R1 (by exact fK (.w km) (ai ag fN) rfl c)]at a;injection a
  exact⟨_,SM b (by exact fK km iK rfl e),a,e⟩
 .rw[if_neg b]at a;split at a;·rename_i c;refine⟨_,T8 (by exact bg kn hq rfl b) c,a,by exact fr kn wZ wx rfl b c⟩
  .injection a
theorem l5(b:aZ m xs D.toList)(c:xs[l]?=O o):∃a,D[l]?=O a/\ay m o a:=by exact az (b.Xa c) λa d e=>⟨a,by simpa using d,e⟩
theorem tx{k:Int}(a:Q_ k l=O G)(d:l<=PV):-(2^63)<=k/\k<2^63:=by
 rw[Qd]at d;unfold Q_ at a;by_cases c:k<0
 .simp only[c,if_true]at a;split at a;·rename_i b;simp at b;exact Ar.dc [_] [_] hq jA r5 r7 rfl c d b.1
  .injection a
 .simp only[c,if_false]at a;split at a;·rename_i b;simp at b;exact Ar.dc [_] [_] o6 jA iK r7 rfl c d b.2
  .injection a
abbrev hd(I:aB)(V:PT)(a i:Pl)(A:Pl->Pn->Prop)(g:Pl->Pn->Prop)(s:Pn):Prop:=SubscriptOn (Py I.r I.q) V a i A g s
theorem FC:typeLookup (.type "str") "__getitem__"=PN (O (.builtin "str.__getitem__")):=by erw[typeLookup_type,Ve];kernel_rfl
theorem Fg(s:Pn)(a:Pr)(b:Tok):s.TypeIs (.str a b) "str":=rfl
theorem CM{k:Int}{u:Tok}(f:aA I b s.heap)(e:P4 s.heap t D l)(v:D.size<=PV)(h:aZ s.heap xs D.toList)(w:bQ xs k=O o)(i:Q o b)(j:aS I b s Q A):hd I V (.ref t) (.int k u) A g s:=by
 refine dY (zQ w) λy a z E=>az (l5 h z) λm p q=>?_;rw[<-e1 h]at a;obtain⟨B,C⟩:=tx a v;refine fe ("list") _ T1.lookup ⟨_,e,rfl⟩ ?_;by_cases c:0<=k
 .refine wpAny_getItem_list e.isList c C (x:=m) ?_ (aS.WX f j q i);have:y=k.toNat:=by
   have:=SM c (n:=D.size) (by
    unfold Q_ at a;simp only[show¬k<0 by exact bg bl o6 rfl c,if_false]at a;split at a;·rename_i d;simp at d;exact d.2
    .injection a);rw[this]at a;exact(PS a).symm
  erw[<-this];exact p
 .have r:-(D.size:Int)<=k:=by
   unfold Q_ at a;simp only[show k<0 by exact bg kn hq rfl c,if_true]at a;split at a;·rename_i d;simp at d;exact fK r5 wZ rfl d.1
   .injection a
  refine wpAny_getItem_list_neg e.isList (bg kn hq rfl c) r B (x:=m) ?_ (aS.WX f j q i);have:=T8 (show k<0 by exact bg kn hq rfl c) r;rw[this]at a;erw[PS a];exact p
theorem Lk(Y:fp I){i:aa}{f:Pl}(h:aA I b s.heap)(r:ay s.heap o n)(t:ay s.heap i f)(a:eN o i b Q)(p:aS I b s Q A):hd I V n f A g s:=by
 rcases o with _|_|_|j|xs|⟨_,_⟩|u;·exact Pz a
 .exact Pz a
 .exact Pz a
 .obtain⟨d,rfl⟩:=r;refine gg (e:=λk=>(0<=k/\k<1000)/\aP j.cps[k.toNat]? λq=>Q (.E ⟨#[q]⟩) b) (a:=λf=>hd I V (.str j d) f A g s) a t λk v a=>cm (c:=λq=>Q (.E ⟨#[q]⟩) b) a.2 λq e N=>?_;have C:=a.1.1;have P:=a.1.2;refine fe ("str") _ FC (Fg _ _ _) (PySem.P.getItem_str (c:=q) (by rewrite[UX];exact⟨decide_eq_false (by exact bg bl (.w (a3 ag (.B f2))) rfl C),decide_eq_false (by exact bg (a3 ag gZ) (.w (aq f2 ag)) rfl P)⟩) ?_ (aS.WX h p te N));have D:k.toNat<j.cps.size:=by
   by_cases E:k.toNat<j.cps.size;·exact E
   .rw[Sy (by exact fK (.w km) (ai ag fN) rfl E)]at e;injection e
  erw[SM C (n:=j.length) (by show k<(j.cps.size:Int);exact fK km iK rfl D)];exact e
 .refine gg (e:=λk=>aP (bQ xs k) λd=>Q d b) (a:=λf=>hd I V n f A g s) a t λk v a=>cm (c:=λd=>Q d b) a λd e a=>g2 (d:=λn=>hd I V n (.int k v) A g s) r λu F G H l m=>dY (zQ e) λZ w R D=>az (l5 m R) λf x y=>?_;rw[<-e1 m]at w;obtain⟨S,T⟩:=tx w l;exact fe ("tuple") _ We.lookup ⟨_,H,rfl⟩ (PySem.P.getItem_tuple H S T w x (aS.WX h p y a))
 .exact Pz a
 .obtain rfl:=r;refine gg (e:=λk=>aP (b u) λn=>match n with
  |.WE xs=>aP (bQ xs k) λd=>Q d b
  |.W5 xs=>aP (bQ xs k) λd=>Q d b
  |.WN _ K=>aP (be K k) λd=>Q d b
  |_=>False) (a:=λf=>hd I V (.ref u) f A g s) a t λk v a=>cm a λW z a=>?_;rcases W with xs|⟨ab,K⟩|⟨_,_,_⟩|xs;·exact cm (c:=λd=>Q d b) a λd e a=>by exact cn (h.WE z) λF G B l m=>CM h B l m e a p
  .refine cm (c:=λd=>Q d b) a λd e a=>dY (h.WN z) λac M l X=>?_;have:=pz X k;rw[e]at this;exact az this λf x y=>fe ("dict") _ slot_dict_getitem.lookup M.typeIs (wpAny_getItem_of (RR _ _ _ _) (nY M) x (aS.WX h p y a))
  .exact Pz a
  .exact cm (c:=λd=>Q d b) a λd e a=>by exact cn (h.W5 z) λF G B l m=>CM h B l m e a p
end
end
section
section
variable{B:Pl->Pn->Prop}
noncomputable def v3(c:Pv):ei->Pl->Prop|.a,a=>a=.type "int"|.g,a=>a=.type "bool"|.E,a=>a=.type "str"|.W2,a=>a=.type "tuple"|.Zq,a=>∃b,a=.ref b/\c.get? b=O {cls:=.type "tuple",data:=.seq #[.type "tuple",.type "list"]}
theorem KV{e:ei}{j:Pl}(k:aA I b s.heap)(c:ay s.heap o n)(f:v3 s.heap e j)(a:hI e o b=O A)(u:Q (.g A) b)(v:aS I b s Q B):Pq (Py I.r I.q) V (Qb (.builtin "isinstance") [n,j]) B g s:=by
 have d:∀l,B (.bool A) {s with toks:=l}:=λl=>aS.WX k v e0 u;rcases e with _|_|_|_|_
 .obtain rfl:=f;rcases o with _|_|_|_|_|⟨_,_⟩|_;·exact aU a
  .obtain rfl:=c;injection a with a;subst a;exact IsiPair.bool_int (d _)
  .obtain⟨e,rfl⟩:=c;injection a with a;subst a;exact IsiPair.int_int (d _)
  .obtain⟨e,rfl⟩:=c;injection a with a;subst a;exact IsiPair.str_int (d _)
  .exact aU a
  .exact aU a
  .exact aU a
 .obtain rfl:=f;rcases o with _|_|_|_|_|⟨_,_⟩|_;·exact aU a
  .obtain rfl:=c;injection a with a;subst a;exact IsiPair.bool_bool (d _)
  .obtain⟨e,rfl⟩:=c;injection a with a;subst a;exact IsiPair.int_bool (d _)
  .obtain⟨e,rfl⟩:=c;injection a with a;subst a;exact IsiPair.str_bool (d _)
  .exact aU a
  .exact aU a
  .exact aU a
 .obtain rfl:=f;rcases o with _|_|_|_|_|⟨_,_⟩|_;·exact aU a
  .obtain rfl:=c;injection a with a;subst a;exact IsiPair.bool_str (d _)
  .obtain⟨e,rfl⟩:=c;injection a with a;subst a;exact IsiPair.int_str (d _)
  .obtain⟨e,rfl⟩:=c;injection a with a;subst a;exact IsiPair.str_str (d _)
  .exact aU a
  .exact aU a
  .exact aU a
 .obtain rfl:=f;rcases o with _|_|_|_|vs|⟨_,_⟩|_;·exact aU a
  .exact aU a
  .exact aU a
  .exact aU a
  .refine g2 (d:=λn=>Pq _ V (Qb (.builtin "isinstance") [n,_]) B g s) c λh m p i q r=>?_;injection a with a;subst a;exact IsiPair.isTuple_tuple (h₀:=s.heap) ⟨_,i,rfl,_,rfl⟩ (λw w a=>a) (d _)
  .exact aU a
  .exact aU a
 .refine az f λD x t=>?_;obtain rfl:=x;rcases o with _|_|_|_|vs|⟨_,_⟩|h;·exact aU a
  .exact aU a
  .exact aU a
  .exact aU a
  .refine g2 (d:=λn=>Pq _ V (Qb (.builtin "isinstance") [n,_]) B g s) c λh m p i q r=>?_;injection a with a;subst a;exact IsiPair.tupleOfB (Tx:="tuple") (vs:=[L,J]) (TN (Answers.of_true Wl F.sub_tuple_tuple) (TN (Answers.of_false_tuple (by decide+kernel) Wm F.sub_tuple_list) WB)) ⟨_,i,rfl⟩ t rfl d
  .exact aU a
  .obtain rfl:=c;refine az (Rr.mp (show(b h).bind _=O A from a)) λy z a=>?_;rcases y with xs|⟨_,_⟩|⟨_,_,_⟩|_;·injection a with a;subst a;exact cn (k.WE z) λm p C q r=>IsiPair.tupleOfB (Tx:="list") (vs:=[J,L]) (TN (Answers.of_false_list (by decide+kernel) Wl F.sub_list_tuple) (TN (Answers.of_true Wm F.sub_list_list) WB)) ⟨_,C,rfl⟩ t rfl d
   .exact aU a
   .exact aU a
   .exact aU a
theorem GG(b:c0 m c X){k:Int}(d:ay m o n)(a:k∉X.map (·.1)):c0 m (c2 c k o) (X++[(k,n)]):=by induction b with|e=>exact .c d .e|@c g h i j s e _ f=>unfold c2;simp only[Qj,PM,not_or]at a;erw[if_neg (PB a.1)];exact .c e (f a.2)
theorem GF(g:c0 m c X){k:Int}(h:ay m o n)(e:(X.map (·.1)).Nodup)(b:k∈X.map (·.1)):c0 m (c2 c k o) (X.map λa=>if a.1=k then(a.1,n)else a):=by induction g with
 |e=>simp at b
 |@c f q r t s i j l=>
  unfold c2;simp only[Qj,RK]at e;erw[Qj];by_cases d:f=k
  .subst d;erw[if_pos rfl];dsimp only;erw[if_pos rfl];have:s.map (λa=>if a.1=f then(a.1,n)else a)=s:=by
    conv=>rhs;rw[<-VG s]
    refine Sm λa p=>?_;have:a.1≠f:=λd=>e.1 (d▸Tp p);erw[if_neg this];rfl
   erw[this];exact .c h j
  .erw[if_neg d];dsimp only;erw[if_neg d];refine .c i (l e.2 ?_);simp only[Qj,PM]at b;rcases b with b|b;·exact absurd b.symm d
   .exact b
theorem zY(f:c0 m c X){k:Int}(g:ay m o n)(h:(X.map (·.1)).Nodup):c0 m (c2 c k o) (Sc X k n):=by
 unfold Sc;split;·rename_i b;refine GF f g h ?_;rw[UA]at b;exact az b λd a e=>P'.mpr ⟨d,a,of_decide_eq_true e⟩
 .rename_i b;exact GG f g λa=>b (az (P'.mp a) λd a e=>UA.mpr ⟨d,a,decide_eq_true e⟩)
theorem Dq(a:m.DictOf (QA I.r I.q) t X):(X.map (·.1)).Nodup:=d7 a λc d e f b=>b.2.2.2.2
theorem yP(a:List (Int×Pl))(k:Int)(b:Pl):(Sc a k b).length<=a.length+1:=by
 unfold Sc;split;·erw[Pt];exact b5 (ai ag bk) rfl
 .erw[PC];exact P2 _
theorem F4{k:Int}(a:Q_ k l=O G):G<l:=by
 unfold Q_ at a;by_cases c:k<0
 .simp only[c,if_true]at a;split at a;·rename_i b;simp at b;injection a with a;subst a;exact fr hq r5 wx rfl c b.1
  .injection a
 .simp only[c,if_false]at a;split at a;·rename_i b;simp at b;injection a with a;subst a;exact fr o6 iK km rfl c b.2
  .injection a
theorem FZ{k:Int}{f:Tok}{Q:Unit->Pn->Prop}(c:P4 s.heap t D l)(b:Q_ k D.size=O G)(o:-(2^63)<=k)(p:k<2^63)(d:Q () {s with heap:=s.heap.update t (SO (·.setIfInBounds G n))}):Pq (Py I.r I.q) V (SD (.ref t) (.int k f) n) Q g s:=by
 have q:=F4 b;have e:s.TypeIs (.ref t) "list":=⟨_,c,rfl⟩;unfold SD;try with_reducible refine P7 ?_
 skip;refine Pu (U0 e (by decide) (Pu (U8 (name:=Q' "__setitem__") e Va (U7 Va e entry_list_setitem ?_ (args_list_setitem _ _ _)))));have r:Wt k=L:=by
  by_cases h:0<=k;·exact fitsIndex_of h p
  .exact fitsIndex_neg (bg kn hq rfl h) o
 show Pq _ _ (Builtin.List.listSubscript? (.int k f)>>=_) _ _ s;refine Pu (wpAny_listSubscript_int r ?_);have j:D[G]?=O D[G]:=WA q;induction k with
 |ofNat a=>
  have u:=SM (k:=QK a) (n:=D.size) (Ss a) (by
   unfold Q_ at b;simp only[show¬(QK a)<0 from by simp,if_false]at b;split at b;·rename_i m;simp at m;exact UF.mpr m
   .injection b);rw[u]at b;obtain rfl:a=G:=PS b;show Pq _ _ ((seqItemAt t a>>=λv=>PN (v.map (a,·)))>>=_) _ _ s;refine Pu (Pu (wpAny_seqItemAt c rfl (PH ?_)));erw[j];show Pq _ _ (setSeqItemAt t a n>>=_) _ _ s;refine Pu (UZ c rfl ?_);first|exact Pu (PH (PH ⟨.none,rfl,PH d⟩))|exact wpAny_pure ⟨.WK,rfl,wpAny_pure d⟩
 |negSucc a=>show Pq _ _ ((Builtin.List.listItems (.ref t)>>=λxs=>PN ((Q_ (Int.negSucc a) xs.size).bind λi=>xs[i]?.map (i,·)))>>=_) _ _ s;refine Pu (Pu ?_);show Pq _ _ (Sd (.ref t)>>=_) _ _ s;refine Pu (TO c rfl (PH (PH ?_)));erw[b];simp only[Option.bind_some,j,Qy];show Pq _ _ (setSeqItemAt t G n>>=_) _ _ s;refine Pu (UZ c rfl ?_);first|exact Pu (PH (PH ⟨.none,rfl,PH d⟩))|exact wpAny_pure ⟨.WK,rfl,wpAny_pure d⟩
theorem F0(ae:fp I){i e:aa}{p h:Pl}{Q:ab->Prop}{q:Unit->Pn->Prop}(j:aA I b s.heap)(P:ay s.heap o n)(R:ay s.heap i p)(C:ay s.heap e h)(a:hv o i e b Q)(S:∀r l y,aA I r l->a1 ct b s.heap r l->Q r->q () {s with heap:=l,toks:=y}):Pq (Py I.r I.q) V (SD n p h) q g s:=by
 have D:aS I b s (λE=>Q) (λE=>q ()):=λaf e r l y j T E c=>S r l y j T c;refine lY (d:=λd=>fA i λk=>aP (b d) λn=>match n with
 |.WE xs=>aP (fT xs k e) λf=>Q (am b d (.WE f))
 |.WN _ m=>m.length<=aJ/\∀u,Q (am b d (.WN u (c2 m k e)))
 |_=>False) (a:=λn=>Pq _ V (SD n p h) q g s) a P λd a=>gg (e:=λk=>aP (b d) λn=>match n with
 |.WE xs=>aP (fT xs k e) λf=>Q (am b d (.WE f))
 |.WN _ m=>m.length<=aJ/\∀u,Q (am b d (.WN u (c2 m k e)))
 |_=>False) (a:=λp=>Pq _ V (SD (.ref d) p h) q g s) a R λk u a=>cm a λo v a=>?_;induction o with
 |WE xs=>
  refine cm (c:=λf=>Q (am b d (.WE f))) a λf c a=>cn (j.WE v) λag ah F w G=>?_;obtain⟨t,z,rfl⟩:∃t,Q_ k xs.length=O t/\f=xs.set t e:=by
   unfold fT at c;by_cases x:0<=k
   .rw[if_pos x]at c;split at c;·rename_i A;exact⟨_,SM x A,(PS c).symm⟩
    .injection c
   .rw[if_neg x]at c;split at c;·rename_i A;exact⟨_,T8 (bg kn hq rfl x) A,(PS c).symm⟩
    .injection c
  rw[<-e1 G]at z;obtain⟨W,X⟩:=tx z w;exact FZ F z W X (aS.XD (o:=.WK) (n:=.none) j D v F (f:=λxs=>xs.setIfInBounds t h) (by erw[Array.size_setIfInBounds];exact w) (by erw[Array.toList_setIfInBounds];exact G.Xn t C) rfl a)
 |WN aj m=>refine dY (j.WN v) λY H w K=>?_;have M:=a.1;have Z:=K.Xd;refine wpAny_setItem_pairs (hsz:=w) (RR _ _ _ _) H λl ac ad=>aS.Ye (o:=.WK) (n:=.none) j D v ad ac ?_ (λN=>zY (K.W6 N) (N _ _ C) (Dq H)) rfl a.2;have:=yP Y k h;erw[Qd];unfold aJ at M;exact em dm bX (ai av cv) (ai av jv) rfl M Z this
 |_=>exact Pz a
end
end
section
section
variable{A:Pl->Pn->Prop}
theorem aS.W4{t1:Nat}(a:aS I b s Q A)(c:a1 ct b s.heap T m):aS I T {s with heap:=m,toks:=t1} Q A:=λd e f g h i j k l=>a d e f g h i (c.WF j) k l
noncomputable def jf(b:Pv):Option aa->Pl->Prop|none,a=>a=.none|some c,a=>ay b c a
theorem jf.WR{b:Pv}(k:∀c a,m.get? c=O a->b.get? c=O a){a:Option aa}(d:jf m a n):jf b a n:=by
 rcases a with _|e;·exact d
 .exact ay.WR k d
theorem jf.X3{b:Option aa}{c:Option Int}(d:jf m b n)(a:e5 b=O c):RO n c:=by
 rcases b with _|e;·obtain rfl:=d;injection a with a;subst a;exact .none
 .rcases e with _|_|i|_|_|⟨_,_⟩|_;·exact aU a
  .exact aU a
  .obtain⟨f,rfl⟩:=d;injection a with a;subst a;exact .int _ _
  .exact aU a
  .exact aU a
  .exact aU a
  .exact aU a
theorem Ae{a:Option Int}(c:RO n a){Q:Option Int->Pn->Prop}(b:Q a s):Pq (Py I.r I.q) V (WC n) Q g s:=by induction c with|none=>exact slicePart_none b|int i d=>exact slicePart_int b
theorem NZ(c d:Option Int)(a:Nat):UT c d 1 (a:Int)=(((c.elim 0 (Qg a):Nat):Int),((d.elim a (Qg a):Nat):Int)):=by
 unfold UT;have e:¬((1:Int)<0):=(aR (.w (a3 aG aX)) rfl);simp only[e,if_false];have f:∀i:Int,(if i<0 then max (i+(a:Int)) 0 else P1 i (a:Int))=((Qg a i:Nat):Int):=by
  intro i;erw[clipAt_cast];by_cases b:i<0;·rw[if_pos b,if_pos b,Int.max_comm,V4 (QU (Int.add_le_add_right (Sv b) a) (R8 (Q7 _)))]
  .rw[if_neg b,if_neg b];exact(UH (Int.le_min.mpr ⟨R7.mp b,Ss a⟩)).symm
 cases c<;>cases d<;>simp only[Option.elim,f]<;>rfl
theorem GS(a b:Nat):TH (a:Int) (b:Int) 1=b-a:=by
 unfold TH;have d:(1:Int)>0:=(aR (a3 aX aG) rfl);simp only[d,if_true,Int.ediv_one];by_cases c:(a:Int)<b;·rw[if_pos c,Int.sub_add_cancel];exact Int.toNat_sub b a
 .rw[if_neg c];exact(Ua (RP.mp (R7.mp c))).symm
theorem FP{c:Pl}{a b:Option Int}{Q:Int×Int×Nat->Pn->Prop}(f:s.heap.IsSliceOf t n c .none)(h:RO n a)(i:RO c b)(j:Q (((a.elim 0 (Qg l):Nat):Int),1,b.elim l (Qg l)-a.elim 0 (Qg l)) s):Pq (Py I.r I.q) V (Ws (.ref t) (PN (l:Int))) Q g s:=by refine dY (id f) λk d m e=>?_;unfold Ws WD;refine Pu (Pu (TU d e (x:=n) rfl (Pu (TU d e (x:=c) rfl (Pu (TU d e (x:=.none) rfl (PH (Pu (slicePart_none ?_)))))))));show Pq _ _ (if((1:Int)==0)=L then _ else _) _ _ s;erw[if_neg (by decide)];refine Pu (Ae h (Pu (Ae i (Pu (PH ?_)))));show Pq _ _ (match UT a b 1 (l:Int)with|(a,b)=>PN (a,(1:Int),TH a b 1)) _ _ s;erw[NZ];show Pq _ _ (PN (((a.elim 0 (Qg l):Nat):Int),(1:Int),TH ((a.elim 0 (Qg l):Nat):Int) ((b.elim l (Qg l):Nat):Int) 1)) _ _ s;erw[GS];exact PH j
theorem G1(xs:Array Pl)(a b:Nat):((Qq b).filterMap λ(k:Nat)=>xs[((a:Int)+(k:Int)*1).toNat]?).toArray=((xs.toList.drop a).take b).toArray:=by
 have d:(λ(k:Nat)=>xs[((a:Int)+(k:Int)*1).toNat]?)=λk=>xs[a+k]?:=by
  funext k;have:((a:Int)+(k:Int)*1).toNat=a+k:=by rw[Int.mul_one];rfl
  erw[this];rfl
 erw[d];have:=pick_run xs a b;rw[List.filterMap_map]at this;have e:((λc=>xs[c]?)∘λc=>a+c)=λk=>xs[a+k]?:=rfl;rw[e]at this;erw[this];rfl
theorem Fi{o:Pw}{r:Pl}{b i:Option Int}{Q:Pl->Pn->Prop}(w:IsT s.heap t D l)(u:s.heap.IsSliceOf o n r .none)(x:RO n b)(y:RO r i)(z:D.size<=PV)(A:∀c:Array Pl,c.toList=(D.toList.drop (b.elim 0 (Qg D.size))).take (i.elim D.size (Qg D.size)-b.elim 0 (Qg D.size))->c=D->Q (.ref t) s)(B:∀c:Array Pl,c.toList=(D.toList.drop (b.elim 0 (Qg D.size))).take (i.elim D.size (Qg D.size)-b.elim 0 (Qg D.size))->c.size<=PV->Q (.ref s.heap.objs.size) {s with heap:=s.heap.push {cls:=.type "tuple",data:=.seq c}}):Pq (Py I.r I.q) V (getItem (.ref t) (.ref o)) Q g s:=by
 have d:IsTup s.heap t D:=⟨_,w,rfl,_,rfl⟩;refine dY (id u) λC E F N=>?_;have G:s.TypeIs (.ref o) "slice":=⟨C,E,F⟩;unfold getItem;try with_reducible refine P7 ?_
 skip;refine Pu (U0 d.typeIs (by decide) (Pu (U8 (name:=Q' "__getitem__") d.typeIs slot_tuple_getitem (U7 slot_tuple_getitem d.typeIs entry_tuple_getitem ?_ (args_tuple_getitem _ _)))));show Pq _ _ (Builtin.Tuple.tupleItemsOf (.ref t)>>=_) _ _ s;refine Pu (tupleItemsOf_ d (Pu (S6 G ?_)));erw[if_pos (by decide)];refine Pu (FP u x y ?_);generalize P:b.elim 0 (Qg D.size)=e at*;generalize R:i.elim D.size (Qg D.size)-e=p at*;have v:((D.toList.drop e).take p).toArray.size<=PV:=by erw[RZ,Qs,Qe,RA];exact PO (Ud ..) (PO (Nat.sub_le ..) z)
 have q:Pq (Py I.r I.q) V.in1 (Builtin.Tuple.tupleExact ((Qq p).filterMap λ(k:Nat)=>D[((e:Int)+(k:Int)*1).toNat]?).toArray) (λj m=>Q j m) g s:=by erw[G1];exact TR (B _ rfl v) v
 show Pq _ _ (if((e:Int)==0&&(1:Int)==1&&p==D.size)=L then _ else _) _ _ s;split;·rename_i a;simp only[Qc,beq_iff_eq]at a;refine Pu ?_;unfold Builtin.Tuple.tupleIsExact;refine Pu (S6 d.typeIs (PH ?_));erw[if_pos (by decide)];obtain⟨⟨H,-⟩,K⟩:=a;have M:e=0:=(a7 sF jk rfl H);refine Pu (TP (PH ⟨_,rfl,PH (A D ?_ rfl)⟩));erw[M,K,Uv,RJ (by simp)];rfl
 .first
  |exact Pu (Qo q (λj m a=>PH ⟨_,rfl,PH a⟩) λf f h=>h)
  |exact wpAny_bind (wpAny_mono q (λj m a=>wpAny_bind (wpAny_pure (wpAny_pure ⟨_,rfl,wpAny_pure a⟩))) λf f h=>h)
  |exact wpAny_bind (wpAny_bind (wpAny_mono q (λj m a=>wpAny_pure (wpAny_pure ⟨_,rfl,wpAny_pure a⟩)) λf f h=>h))
theorem zP(xs:List aa)(a b:Option Int):c8 xs a b=(xs.drop (a.elim 0 (Qg xs.length))).take (b.elim xs.length (Qg xs.length)-a.elim 0 (Qg xs.length)):=by cases a<;>cases b<;>rfl
theorem yT{d:Pl}{a c:Option Int}{e:Pw}(j:aA I b s.heap)(k:s.heap.IsSliceOf e n d .none)(m:RO n a)(o:RO d c)(f:P4 s.heap t D l)(h:D.size<=PV)(i:aZ s.heap xs D.toList)(p:∀t,b t=U->Q (.b t) (am b t (.WE (c8 xs a c))))(q:aS I b s Q A):hd I V (.ref t) (.ref e) A g s:=by
 refine fe ("list") _ T1.lookup ⟨_,f,rfl⟩ (U5 (hsz:=h) f.isList k m o .none (by simp) ?_);erw[slicePick_plain];refine aS.XG j q ?_ ?_ (xs:=c8 xs a c) p;·erw[RZ,Qs,Qe,RA];exact PO (Ud ..) (PO (Nat.sub_le ..) h)
 .erw[zP,<-e1 i];exact(i.W7 _).W3 _
theorem FO(T:fp I){B r:Option aa}{c d:Pl}(F:aA I b s.heap)(C:ay s.heap o n)(G:jf s.heap B c)(H:jf s.heap r d)(a:gz o B r b Q)(K:aS I b s Q A):hd I V n (.ref s.heap.objs.size) A g {s with heap:=s.heap.push {cls:=.type "slice",data:=.fields #[c,d,.none]}}:=by
 have k:=cY (m:=s.heap) {cls:=.type "slice",data:=.fields #[c,d,.none]};have t:=Heap.IsSliceOf.new s.heap c d .none;have m:aS I b {s with heap:=s.heap.push {cls:=.type "slice",data:=.fields #[c,d,.none]}} Q A:=K.W4 (t1:=s.toks) (a1.W' k);have f:aA I b (s.heap.push {cls:=.type "slice",data:=.fields #[c,d,.none]}):=F.W' k;refine cm (c:=λh=>aP (e5 r) λl=>match o with
 |.h xs=>Q (.h (c8 xs h l)) b
 |.b D=>aP (b D) λn=>lW n λxs=>∀u,b u=U->Q (.b u) (am b u (.WE (c8 xs h l)))
 |_=>False) a λh M a=>cm a λl N a=>?_;have v:=G.X3 M;have w:=H.X3 N;rcases o with _|_|_|_|xs|⟨_,_⟩|D;·exact Pz a
 .exact Pz a
 .exact Pz a
 .exact Pz a
 .refine g2 (d:=λn=>hd I V n (.ref s.heap.objs.size) A g {s with heap:=s.heap.push {cls:=.type "slice",data:=.fields #[c,d,.none]}}) (C.WR k) λW e E x i j=>?_;have p:aZ (s.heap.push {cls:=.type "slice",data:=.fields #[c,d,.none]}) (c8 xs h l) ((e.toList.drop (h.elim 0 (Qg e.size))).take (l.elim e.size (Qg e.size)-h.elim 0 (Qg e.size))):=by erw[zP,<-e1 j];exact(j.W7 _).W3 _
  refine fe ("tuple") _ We.lookup ⟨_,x,rfl⟩ (Fi x t v w i (λP y q=>?_) λP y R=>?_);·rw[<-y,q]at p;exact aS.WX f m (h' x i p) a
  .rw[<-y]at p;exact aS.XS f m R p a
 .exact Pz a
 .obtain rfl:=C;refine cm a λS q a=>?_;rcases S with xs|⟨_,_⟩|⟨_,_,_⟩|xs;·exact cn (f.WE q) λe E z i j=>yT f t v w z i j a m
  .exact Pz a
  .exact Pz a
  .exact cn (f.W5 q) λe E z i j=>yT f t v w z i j a m
end
end
section
noncomputable def v4(I:aB):hc->Pl->Pw->Prop|.W9 a,f,b=>f=.builtin "list.append"/\b=a|.Z4 a,f,b=>f=.builtin "list.pop"/\b=a|.ZU a,f,b=>f=.builtin "list.extend"/\b=a|.Xa a,f,b=>f=.builtin "dict.get"/\b=a|.C c a,f,b=>f=.ref (I.Zt c)/\b=a
noncomputable def qj:Nat->Pr|0=>"append"|1=>"pop"|2=>"extend"|_=>"get"
noncomputable def ES(I:aB)(V:PT)(a:as):Prop:=∀{b:ab}{s:Pn}{g:Pl->Pn->Prop}{Q:aa->ab->Prop}{A:Pl->Pn->Prop}{f:Nat}{vs:List aa}{xs:List Pl},aA I b s.heap->aZ s.heap vs xs->a.k f vs b Q->aS I b s Q A->Pq (Py I.r I.q) V (Qb (.ref (I.Zt f)) xs) A g s
section
variable{A:Pl->Pn->Prop}
theorem IY(C:fp I)(D:p.Zp=I.YH.Zp)(m:∀l<4,I.P l=O (qj l)){q:hc}{E:QC Bool}{Q:Pl×List Pl->Pn->Prop}(r:aA I b s.heap)(t:ay s.heap o n)(h:I.P l=O M)(a:hD p o l b=O q)(j:∀f d,v4 I q f d->n=.ref d->Q (f,[.ref d]) s):Pq (Py I.r I.q) V (getMethod n M E) Q g s:=by
 rcases o with _|_|_|_|_|⟨_,_⟩|u;·exact aU a
 .exact aU a
 .exact aU a
 .exact aU a
 .exact aU a
 .exact aU a
 .obtain rfl:=t;refine az (Rr.mp (show(b u).bind _=O q from a)) λi c a=>?_;rcases i with xs|⟨ae,v⟩|⟨G,af,y⟩|_
  .refine cn (r.WE c) λag w k H ah=>?_;have e:∀d,Value.ref u=.ref d->∃i,s.heap.get? d=O i/\i.dict=U:=λd c=>by injection c with c;subst c;exact⟨_,k,rfl⟩
   rcases l with _|_|_|l;·obtain rfl:=PS ((m 0 (by decide)).symm.trans h);injection a with a;subst a;exact SH ⟨_,k,rfl⟩ UR Wh F.type_list_append e (j _ _ ⟨rfl,rfl⟩ rfl)
   .obtain rfl:=PS ((m 1 (by decide)).symm.trans h);injection a with a;subst a;exact SH ⟨_,k,rfl⟩ UR Wg F.type_list_pop e (j _ _ ⟨rfl,rfl⟩ rfl)
   .obtain rfl:=PS ((m 2 (by decide)).symm.trans h);injection a with a;subst a;exact SH ⟨_,k,rfl⟩ UR UP F.type_list_extend e (j _ _ ⟨rfl,rfl⟩ rfl)
   .exact aU a
  .refine dY (r.WN c) λai e H z=>?_;by_cases A:l=3;·subst A;obtain rfl:=PS ((m 3 (by decide)).symm.trans h);obtain rfl:=PS ((if_pos rfl).symm.trans a);exact jh (id e) λi aj al K t am=>SH e.typeIs Wk UQ F.type_dict_get (λd c=>by injection c with c;subst c;exact⟨i,K,t.2.1⟩) (j _ _ ⟨rfl,rfl⟩ rfl)
   .exact nomatch (if_neg A).symm.trans a
  .refine az (Q2.mp (show(p.Zp G l).map _=O q from a)) λf B N=>?_;obtain rfl:=N;rw[D]at B;refine cc (r.Y2 u _ c) λP R x=>ol (iz.WO P R) λv w S z k T W e=>cc (x.D? l M f h B) λX Y Z=>?_;have ab:shadowIn (O (QZ v w)) M=O J:=by
    show T_ (λM=>M.isSome) (lookIn M (QZ v w))=O J;rewrite[Bf z];have:=T l M h;have ac:bS y l=U:=by
     rcases ad:bS y l with _|o;·rfl
     .have:=W l o ad;rw[Z]at this;injection this
    rw[ac]at this;erw[this];rfl
   exact method_fn (C.H.keeps r.WQ) S x.P? x.agx X Y ab (j _ _ ⟨rfl,rfl⟩ rfl)
  .exact aU a
theorem IX(W:fp I)(ab:ES I V p){j:hc}{f:Pl}{xs:List Pl}(e:aA I b s.heap)(u:v4 I j f t)(c:aZ s.heap vs xs)(a:dA p j vs b Q)(v:aS I b s Q A):Pq (Py I.r I.q) V (Qb f (.ref t::xs)) A g s:=by induction j with
 |W9 C=>obtain⟨rfl,rfl⟩:=u;refine hz (f:=λxs=>Pq _ V (Qb _ (.ref t::xs)) A g s) a c λw i a D=>hJ e a λN d x a l h m o q=>?_;have ac:=a.1;exact RS Wh ⟨_,h,rfl⟩ F.entry_list_append (F.args_list_append_2 _ _) (list_append t d x i m) ⟨h,aS.XD (o:=.WK) (n:=.none) e v l h (f:=λxs=>xs.push i) (by erw[Wz,Qd,q];exact PO (SQ ac) (Pp rfl)) (by erw[Wy];exact o.W9 ⟨D,trivial⟩) rfl a.2⟩
 |Z4 C=>
  obtain⟨rfl,rfl⟩:=u;rcases vs with _|⟨_,_⟩;rotate_left;·exact Pz a
  rcases xs with _|⟨_,_⟩;rotate_left;·exact Pz c
  refine hJ e a λN d x a l h m o q=>cm a λw r a=>?_;rw[Sp,<-q]at r;refine az (l5 o r) λE P ad=>RS Wg ⟨_,h,rfl⟩ F.entry_list_pop (F.args_list_pop_1 _) (MeetsSeq.list_pop_last t d x E P m) ⟨h,?_⟩;have am:0<d.size:=by
   by_cases X:0<d.size;·exact X
   .rw[Sy (by exact a7 (.w (a8 aX ag)) (ai ag f6) rfl X)]at P;injection P
  have Y:(d.eraseIdxIfInBounds (d.size-1)).toList=d.toList.take (d.size-1):=by erw[Array.toList_eraseIdxIfInBounds,List.eraseIdx_eq_take_drop_succ,List.drop_of_length_le (by rw[RA];exact b5 (ai ag oV) rfl),P3];rfl
  refine aS.XD (o:=w) (n:=E) e v l h (f:=λxs=>xs.eraseIdxIfInBounds (d.size-1)) ?_ ?_ ad a;·erw[<-RA,Y,Qs,RA];exact PO (Ud ..) m
  .erw[Y,List.dropLast_eq_take];refine bG (show N.length-1=d.size-1 by rw[q]) ?_;exact o.W3 _
 |ZU C=>
  obtain⟨rfl,rfl⟩:=u;refine hz (f:=λxs=>Pq _ V (Qb _ (.ref t::xs)) A g s) a c λw i a D=>?_;rcases w with _|_|_|_|N|⟨_,_⟩|ae;·exact Pz a
  .exact Pz a
  .exact Pz a
  .exact Pz a
  .refine hJ e a λaf d x a l h m o q=>g2 (d:=λi=>Pq _ V (Qb _ [.ref t,i]) A g s) D λj y R u ah G=>?_;have n:d.size+y.size<=aJ:=by erw[q,e1 G];exact a.1
   unfold aJ at n;exact RS UP ⟨_,h,rfl⟩ Wo (Wr _ _) (AutoSeq1.list_extend_list_tuple_0 t d x j y R (by simp[UV,PV];exactλS=>PO n (Pp rfl)) m (by erw[Qd];exact aQ o' (ai d8 sR) rfl n)) ⟨h,u,aS.XD (o:=.WK) (n:=.none) e v l h (f:=λxs=>xs++y) (by erw[TM,Qd];exact aQ o' (ai d8 jv) rfl n) (by erw[S5];exact o.W9 G) rfl a.2⟩
  .exact Pz a
  .obtain rfl:=D;refine hJ e a.2 λaf d x H B h m o q=>hJ e H λan y R H K aj ah G al=>?_;have n:d.size+y.size<=aJ:=by erw[q,al];exact H.1
   unfold aJ at n;exact RS UP ⟨_,h,rfl⟩ Wo (Wr _ _) (AutoSeq1.list_extend_list_list_0 t d x ae y R (by simp[UV,PV];exactλS=>PO n (Pp rfl)) m (by erw[Qd];exact PO n (Pp rfl))) ⟨h,aj,aS.XD (o:=.WK) (n:=.none) e v B h (f:=λxs=>xs++y) (by erw[TM,Qd];exact PO n (Pp rfl)) (by erw[S5];exact o.W9 G) rfl H.2⟩
 |Xa C=>obtain⟨rfl,rfl⟩:=u;refine Ds a λao z l a=>dY (e.WN l) λap M m Z=>?_;match vs,xs,c,a with
  |[k],[i],c,a=>
   refine gg (e:=λk=>Q ((be z k).getD .WK) b) (a:=λi=>Pq _ V (Qb _ [.ref t,i]) A g s) a c.1 λk j a=>T6 UQ M.typeIs Wp (F.args_dict_get_2 _ _) (meets_dict_get _ _ (RR _ _ k j) (e.Xw W l)) ⟨_,nY M,aS.WX e v (o:=(be z k).getD .WK) ?_ a⟩;have:=pz Z k;rcases r:be z k with _|T;·rw[r]at this;erw[this];exact rfl
   .rw[r]at this;refine az this λT B K=>?_;erw[B];exact K
  |[k,w],[i,E],c,a=>
   refine gg (e:=λk=>Q ((be z k).getD w) b) (a:=λi=>Pq _ V (Qb _ [.ref t,i,E]) A g s) a c.1 λk j a=>T6 UQ M.typeIs Wp (F.args_dict_get_3 _ _ _) (meets_dict_get_default _ _ (RR _ _ k j) (e.Xw W l) _) ⟨_,nY M,aS.WX e v (o:=(be z k).getD w) ?_ a⟩;have:=pz Z k;rcases r:be z k with _|T;·rw[r]at this;erw[this];exact c.2.1
   .rw[r]at this;refine az this λT B K=>?_;erw[B];exact K
  |[],_,_,a=>exact Pz a
  |k::_::_::_,_,_,a=>exact CH (b:=λS=>_) a λS a=>Pz a
  |_::_,[],c,_=>exact Pz c
  |[_],_::_::_,c,_=>exact Pz c.2
  |[_,_],[_],c,_=>exact Pz c.2
  |[_,_],_::_::_::_,c,_=>exact Pz c.2.2
 |C aq C=>obtain⟨rfl,rfl⟩:=u;exact ab e (vs:=.b t::vs) ⟨rfl,c⟩ a v
end
end
variable{N:al}{x:PI}
section
structure bw where
 Z:Qp
 Zd:List (Pr×Nat)
 w:Nat
variable{B:bw}
noncomputable def lh(m:Pv):Option aa->Option Pl->Prop|none,a=>a=U|some c,a=>∃b,a=O b/\ay m c b
noncomputable def dw(x:PI)(a:Pw):Prop:=a=x.locals\/∃b,x.cells.lookup b=O a
structure bz(I:aB)(B:bw)(N:al)(x:PI)(b:ab)(m:Pv):Prop where
 Z:x.scope=B.Z
 Y1:B.Z.kind=.function
 ZY:x.globals=I.I?
 ZM:x.builtins=RT
 e?:∃S,m.Ns x.locals S/\∀F k,B.Zd.lookup F=O k->B.Z.names.lookup F=O .local->lh m (eB N k) (S F)
 Z0:∀F k,B.Zd.lookup F=O k->B.Z.names.lookup F=O .cell->∃P aa,x.cells.lookup F=O P/\m.IsCell P aa/\lh m (eB N k) aa
 Xb:∀R,dw x R->¬cI b R/\I.YQ.get? R=U/\∃ac,m.get? R=O ac/\gT ac
 WJ:N.length=B.w
 ZS:∀F ad P,x.cells.lookup F=O P->x.cells.lookup ad=O P->F=ad
 Y4:∀F,x.cells.lookup F≠O x.locals
section
variable{A:Pv}
theorem bz.X4(a:bz I B N x b m):gn (dw x) m:=λc d=>(a.Xb c d).2.2
theorem lh.W6{b:Option aa}{d:Option Pl}(k:∀c a,ay m c a->ay A c a)(e:lh m b d):lh A b d:=by
 rcases b with _|c;·exact e
 .exact az e λa f g=>⟨a,f,k _ _ g⟩
theorem bz.WU(a:bz I B N x b m)(v:aA I b m)(j:a1 ct b m T A):bz I B N x T A:=by
 have t:∀l n,ay m l n->ay A l n:=λl n e=>e.WU v es j;have o:∀d c,dw x d->m.get? d=O c->A.get? d=O c:=λd c h w=>j.WQ d c w (a.Xb d h).1 (λf=>f.elim);refine⟨a.Z,a.Y1,a.ZY,a.ZM,?_,?_,λd h=>?_,a.WJ,a.ZS,a.Y4⟩;·exact az a.e? λy p z=>h1 p λc C D g q E F=>⟨y,⟨c,C,D,o _ _ (.inl rfl) g,q,E,F⟩,λe k r s=>(z e k r s).W6 t⟩
 .exactλe k r s=>cn (a.Z0 e k r s) λG H u p K=>az p λc g q=>fe G H u ⟨c,o _ _ (.inr ⟨e,u⟩) g,q⟩ (K.W6 t)
 .obtain⟨f,M,c,g,P⟩:=a.Xb d h;refine⟨λQ=>?_,M,c,o _ _ h g,P⟩;rcases j.WG d Q with i|i;·exact f i
  .rw[g]at i;injection i
theorem bz.X7(c:bz I B N x b s.heap){f:Pl->Pn->Prop}(h:B.Zd.lookup M=O k)(a:B.Z.names.lookup M=O .local\/B.Z.names.lookup M=O .cell)(i:eB N k=O o)(j:∀d,ay s.heap o d->f d s){m:Q4}:Pq m V (loadName x M) f g s:=by
 have l:x.scope.kind=.function:=by erw[c.Z];exact c.Y1
 rcases a with a|a;·obtain⟨u,n,p⟩:=c.e?;have:=p M k h a;rw[i]at this;obtain⟨d,q,e⟩:=this;exact wpAny_loadName_local l (by unfold S4;erw[c.Z];exact a) n q (j d e)
 .obtain⟨v,w,r,t,e⟩:=c.Z0 M k h a;rw[i]at e;obtain⟨d,rfl,e⟩:=e;exact wpAny_loadName_cell l (by unfold S4;erw[c.Z];exact a) r t (j d e)
theorem aA.XM(i:aA I b m){o:PA}(s:m.get? t=O o)(u:gT o)(p:¬cI b t)(v:I.YQ.get? t=U)(w:UK t m A)(x:∃y,A.get? t=O y):aA I b A/\a1 (λa=>a=t) b m b A/\∀g h,ay m g h->ay A g h:=by
 have k:∀a d,a≠t->m.get? a=O d->A.get? a=O d:=λa d e c=>(w.2 a e).trans c;have q:a1 (λa=>a=t) b m b A:=⟨λa d c H z=>k a d z c,λa f=>.inl f,λa d c=>by
  by_cases e:a=t;·subst e;exact x
  .exact⟨d,k a d e c⟩⟩;have B:gn (λa=>a=t) m:=i4 s u;have r:∀g h,ay m g h->ay A g h:=λg h C=>C.WU i B q;refine⟨⟨λa d c=>k a d (λe=>by rw[e,v]at c;injection c) (i.WQ a d c),λj D c=>(i.Y2 j D c).WQ (λl n=>k j l (λe=>p (.inl (by erw[<-e,c];exact RV _))) n) (λa E F G l n=>k E l (λe=>p (.inr ⟨j,a,F,by erw[<-e,<-G];exact c⟩)) n) r,i.WT,i.Y4⟩,q,r⟩
end
end
variable{B:bw}
section
section
variable{A:Pv}
theorem qG:∀(N:al)(k:Nat)(a:aa),k<N.length->eB (bD N k a) k=O a|[],_,_,m=>by simp at m|_::_,0,_,_=>rfl|_::b,k+1,a,m=>qG b k a (by simpa using m)
theorem l8:∀(N:al)(k a:Nat)(b:aa),a≠k->eB (bD N k b) a=eB N a|[],_,_,_,_=>rfl|_::_,0,0,_,m=>absurd rfl m|_::_,0,_+1,_,_=>rfl|_::_,_+1,0,_,_=>rfl|_::c,k+1,a+1,b,m=>l8 c k a b (λd=>m (by erw[d];rfl))
theorem qr:∀(N:al)(k:Nat)(a:aa),(bD N k a).length=N.length|[],_,_=>rfl|_::_,0,_=>rfl|_::b,k+1,a=>by show(bD b k a).length+1=b.length+1;erw[qr b k a];rfl
structure ms(B:bw)(F:Pr)(k:Nat):Prop where
 k?:B.Zd.lookup F=O k
 Y1:B.Z.names.lookup F=O .local\/B.Z.names.lookup F=O .cell
 H?:∀P R,B.Zd.lookup P=O R->P≠F->R≠k
 YI:k<B.w
theorem gT.WN{a:PA}{b c}(d:a.data=.dict b c):gT a:=.inr (by erw[d];trivial)
theorem gT.Ya{a:PA}{b}(c:a.data=.cell b):gT a:=.inr (by erw[c];trivial)
theorem bz.XE(Z:aA I b s.heap)(a:bz I B N x b s.heap){ab:Unit->Pn->Prop}(j:ms B M k)(ac:ay s.heap o n)(ad:∀A ao,aA I b A->a1 (dw x) b s.heap b A->bz I B (bD N k o) x b A->ab () {s with heap:=A,toks:=ao}){ap:Q4}:Pq ap V (storeName x M n) ab g s:=by
 have ae:x.scope.kind=.function:=by erw[a.Z];exact a.Y1
 have af:∀d,x.kindOf d=B.Z.names.lookup d:=λd=>by unfold S4;erw[a.Z];rfl
 have ag:k<N.length:=by erw[a.WJ];exact j.YI
 rcases j.Y1 with v|v
 .refine az a.e? λah E F=>UY (by erw[af];exact v) E (λA G l=>?_) (by erw[ae];rfl);obtain⟨f,H,aq,K,P⟩:=a.Xb _ (.inl rfl);obtain⟨Q,R,p⟩:=Z.XM K P f H l (d7 G λq D D r D=>⟨q,r⟩);refine ad A _ Q (R.Xm λt c=>.inl c) ⟨a.Z,a.Y1,a.ZY,a.ZM,⟨_,G,λd h e i=>?_⟩,λd h e i=>?_,λu c=>?_,by erw[qr];exact a.WJ,a.ZS,a.Y4⟩
  .by_cases c:d=M;·subst c;obtain rfl:=PS (j.k?.symm.trans e);erw[qG _ _ _ ag];exact⟨n,by erw[if_pos rfl];rfl,p _ _ ac⟩
   .erw[l8 _ _ _ _ (j.H? d h e c),if_neg c];exact(F d h e i).W6 p
  .have c:d≠M:=λc=>by subst c;rw[v]at i;cases i
   erw[l8 _ _ _ _ (j.H? d h e c)];exact cn (a.Z0 d h e i) λt ai m u aj=>fe t ai m (u.sameBut l (λc=>a.Y4 d (c▸m))) (aj.W6 p)
  .obtain⟨w,y,q,r,S⟩:=a.Xb u c;by_cases z:u=x.locals;·subst z;exact jh G λT av aw W X D=>⟨w,y,T,W,.WN X⟩
   .exact⟨w,y,q,(l.2 u z).trans r,S⟩
 .refine cn (a.Z0 M k j.k? v) λt ai m u aj=>wpAny_storeName_cell ae (by erw[af];exact v) m u (λA Y l=>?_);have al:dw x t:=.inr ⟨M,m⟩;obtain⟨f,H,aq,K,P⟩:=a.Xb _ al;obtain⟨Q,R,p⟩:=Z.XM K P f H l (az Y λq r D=>⟨q,r⟩);refine ad A s.toks Q (R.Xm λam c=>c▸al) ⟨a.Z,a.Y1,a.ZY,a.ZM,?_,λd h e i=>?_,λC c=>?_,by erw[qr];exact a.WJ,a.ZS,a.Y4⟩
  .refine az a.e? λah E F=>⟨ah,E.sameBut l (λc=>a.Y4 M (c▸m)),λd h e i=>?_⟩;have c:d≠M:=λc=>by subst c;rw[v]at i;cases i
   erw[l8 _ _ _ _ (j.H? d h e c)];exact(F d h e i).W6 p
  .by_cases c:d=M;·subst c;obtain rfl:=PS (j.k?.symm.trans e);erw[qG _ _ _ ag];exact⟨t,O n,m,Y,n,rfl,p _ _ ac⟩
   .erw[l8 _ _ _ _ (j.H? d h e c)];exact cn (a.Z0 d h e i) λam ar an C as=>fe am ar an (C.sameBut l (λau=>c (a.ZS d M t (au▸an) m))) (as.W6 p)
  .obtain⟨w,y,q,r,S⟩:=a.Xb C c;by_cases z:C=t;·subst z;exact az Y λT W X=>⟨w,y,T,W,.Ya X⟩
   .exact⟨w,y,q,(l.2 C z).trans r,S⟩
def my(I:aB):cC->Pl->Prop|.C f,a=>a=.ref (I.Zt f)|.YJ b,a=>a=.ref (I.YX b)|.f c,a=>ay I.YQ c a|.o d,a=>a=lZ d|.Zx .a,a=>a=.type "int"|.Zx .g,a=>a=.type "bool"|.Zx .E,a=>a=.type "str"|.Zx .W2,a=>a=.type "tuple"|.Zx .Zq,_=>False|.YU,a=>a=.builtin "isinstance"|.Xe,a=>a=.type "enumerate"
noncomputable def rv(I:aB):Prop:=∀a c,I.Q a=O c->∃b,my I c b/\(QO I.YS I.I? a=O (O b)\/(QO I.YS I.I? a=O U/\Sg a=O b/\a≠"__name__"))
theorem bz.Yk(f:fp I)(m:rv I)(h:aA I b s.heap)(a:bz I B N x b s.heap){e:cC}{i:Pl->Pn->Prop}(n:I.Q M=O e)(o:B.Z.names.lookup M=O .globalImplicit)(j:∀c,my I e c->i c s){p:Q4}:Pq p V (loadName x M) i g s:=by
 refine az (m M e n) λc k d=>?_;have l:=f.H.keeps h.WQ;refine ks_loadName_global (by erw[a.Z];exact a.Y1) (by unfold S4;erw[a.Z];exact o) ?_;unfold loadGlobal;erw[a.ZY,a.ZM];rcases d with d|⟨d,q,r⟩;·exact Pu ((looks_nsIn l d).here (PH (j c k)))
 .refine Pu ((looks_nsIn l d).here (az f.ZM λv t u=>Pu (wpAny_nsGet (t.keeps h.WQ) ?_)));erw[u M r,q];exact PH (j c k)
end
end
variable{q:Po}{i:Nat}
section
section
variable{A:Pv}
abbrev go(m A:Pv):Prop:=∀b a,m.get? b=O a->(a.cls=.type "tuple"\/a.cls=.type "range")->((∃i c,a.data=.seq i c)\/∃d,a.data=.fields d)->A.get? b=O a
theorem ij(l:∀b,H b->∃a,m.get? b=O a/\gT a)(k:∀b a,¬H b->m.get? b=O a->A.get? b=O a):go m A:=λg a h c d=>by
 by_cases j:H g
 .refine az (l g j) λp e f=>?_;rw[h]at e;injection e with e;subst e;rcases f with⟨n,o⟩|f
  .rcases c with c|c;·exact absurd c n
   .exact absurd c o
  .rcases d with⟨i,q,d⟩|⟨r,d⟩<;>(rw[d]at f;exact f.elim)
 .exact k g a j h
theorem aA.XA(g:aA I b m)(h:∀a,H a->(∃e,m.get? a=O e/\gT e)/\¬cI b a/\I.YQ.get? a=U)(k:∀a e,¬H a->m.get? a=O e->A.get? a=O e):aA I b A/\go m A:=by have p:go m A:=ij (λa c=>(h a c).1) k;have s:∀j l,ay m j l->ay A j l:=λj l t=>t.Xk p;exact⟨⟨λf q d=>k f q (λc=>by rw[(h f c).2.2]at d;injection d) (g.WQ f q d),λi u d=>(g.Y2 i u d).WQ (λn o=>k i n (λc=>(h i c).2.1 (.inl (by erw[d];exact RV _))) o) (λf r v w n o=>k r n (λc=>(h r c).2.1 (.inr ⟨i,f,v,by erw[<-w];exact d⟩)) o) s,g.WT,g.Y4⟩,p⟩
theorem ay.Xh(k:go m A)(a:ay m o n):ay A o n:=a.Xk k
theorem aZ.Xh(k:go m A){a:List Pl}(b:aZ m w a):aZ A w a:=b.Xk k
structure dX(I:aB)(V:PT)(ah:Po)(R:Pw->Prop)(ad:Pl)(k:dh)(af:List aa)(S:Nat->Pv->Prop):Prop where
 ZK:∀i m A,S i m->(∀F P,R F->m.get? F=O P->A.get? F=O P)->go m A->S i A
 WT:∀i m,S i m->∀F,R F->∃P,m.get? F=O P/\gT P
 Z6:∀{i:Nat}{b:ab}{s:Pn}{ag:aa}{Q:Pl->Pn->Prop}{g:Pl->Pn->Prop},S i s.heap->aA I b s.heap->k.WP b->af[i]?=O ag->(∀F,R F->¬cI b F/\I.YQ.get? F=U)->(∀ac A ae,ay A ag ac->S (i+1) A->(∀F P,¬R F->s.heap.get? F=O P->A.get? F=O P)->Q ac {s with heap:=A,toks:=ae})->Pq (Py I.r I.q) V (Rc ad) (λai aj=>match ai with|none=>False|some ac=>Pq (Py I.r I.q) V (SG ah ad ac) (λam al=>Q ac al) g aj) g s
 Z9:∀{b:ab}{s:Pn}{Q:Option Pl->Pn->Prop}{g:Pl->Pn->Prop},S af.length s.heap->aA I b s.heap->k.WP b->(∀F,R F->¬cI b F/\I.YQ.get? F=U)->(∀A ae,(∀F P,¬R F->s.heap.get? F=O P->A.get? F=O P)->Q U {s with heap:=A,toks:=ae})->Pq (Py I.r I.q) V (Rc ad) Q g s
abbrev v6(I:aB)(V:PT)(a:Pl)(b:Nat->Pv->Prop):Prop:=∀{i:Nat}{s:Pn}{Q:Pl->Pn->Prop}{g:Pl->Pn->Prop},b i s.heap->Q a s->Pq (Py I.r I.q) V (pyIter a) Q g s
inductive hW:Po->Prop|u? (P F):hW (.Name P F)|h (R S F):hW (.Tuple R S F)
theorem qq(e:hW q){c:PA}{Q:Unit->Pn->Prop}(f:s.heap.get? t=O c)(a:∃b,c.cls=.type b/\["enumerate","zip","dict_itemiterator","dict_reverseitemiterator","odict_iterator","itertools.zip_longest","itertools.pairwise"].contains b=J)(m:Q () s):Pq (Py I.r I.q) V (SG q (.ref t) n) Q g s:=by induction e with
 |u? d h=>exact PH m
 |h l o h=>cases n with
  |ref i=>refine Pu (wpAny_load f ?_);obtain⟨b,a,j⟩:=a;obtain⟨p,r,k,u⟩:=c;dsimp only at a;subst a;cases k with
   |fields vs=>show Pq _ _ (if(["enumerate","zip","dict_itemiterator","dict_reverseitemiterator","odict_iterator","itertools.zip_longest","itertools.pairwise"].contains b&&vs[0]?==O (rawInt i))=L then _ else _) _ _ _;exact bG (if_neg (λd=>QY (j.symm.trans (Qv.mp d).1))) (PH m)
   |_=>exact PH m
  |_=>exact PH m
theorem lk.WT{b:Pw}(c:m.IsListIter t b i):∃a,m.get? t=O a/\a.cls=.type "list_iterator":=let⟨a,d,e,_⟩:=c;⟨a,d,e⟩
theorem dX.WE(x:V.handled=U)(y:hW q)(f v:Pw)(xs:List aa):dX I V q (λa=>a=f) (.ref f) (.x v xs) xs (λi m=>m.IsListIter f v i)where
 ZK:=λi m A e k N=>e.at λc d=>k _ c rfl d
 WT:=λi m e a d=>by subst d;exact az (lk.WT e) λc j h=>⟨c,j,.inl ⟨by erw[h];decide,by erw[h];decide⟩⟩
 Z6:=λ{i b s P Q g} e l n d z o=>by refine cn (l.WE n) λB C p D r=>az (l5 r d) λE F G=>U1 e p.isList F λA w t=>?_;have k:∀a c,¬a=f->s.heap.get? a=O c->A.get? a=O c:=λa c u d=>(t.2 a u).trans d;refine az (lk.WT e) λc j h=>az (lk.WT w) λR H K=>?_;have M:go s.heap A:=ij (H:=λa=>a=f) (i4 j (.inl ⟨by erw[h];decide,by erw[h];decide⟩)) k;exact qq y H ⟨_,K,by decide⟩ (o E A s.toks (G.Xh M) w k)
 Z9:=λ{b s Q g} e l n z o=>by refine cn (l.WE n) λB C p D r=>U2 x e p.isList (by rw[Sy];erw[e1 r];exact P2 _) λA t=>o A s.toks λa c u d=>t a c u d
theorem oe.WT{b:Pw}(c:m.IsTupleIter t b i):∃a,m.get? t=O a/\a.cls=.type "tuple_iterator":=let⟨a,d,e,_⟩:=c;⟨a,d,e⟩
theorem oe.Yt{b:Pw}(c:m.IsTupleIter t b i)(d:∀a,m.get? t=O a->A.get? t=O a):A.IsTupleIter t b i:=let⟨a,e,f⟩:=c;⟨a,d _ e,f⟩
theorem fw{c:PA}{b:String}(d:c.cls=.type b)(e:b≠"tuple")(f:b≠"range"):gT c:=.inl ⟨by erw[d];intro a;injection a with a;subst a;exact e rfl,by erw[d];intro a;injection a with a;subst a;exact f rfl⟩
theorem dX.W2(y:V.handled=U)(z:hW q)(o w:Pw)(xs:List aa):dX I V q (λc=>c=o) (.ref o) .YM xs (λi m=>m.IsTupleIter o w i/\∃f h,IsT m w f h/\aZ m xs f.toList)where
 ZK:=λi m A a k j=>⟨oe.Yt a.1 λd e=>k _ d rfl e,let⟨f,h,l,n⟩:=a.2;⟨f,h,j _ _ l (.inl rfl) (.inl ⟨_,_,rfl⟩),n.Xh j⟩⟩
 WT:=λi m a c e=>by subst e;exact az (oe.WT a.1) λd p r=>⟨d,p,fw r (by decide) (by decide)⟩
 Z6:=λ{i b s M Q g} a B C e D t=>by obtain⟨a,f,h,l,n⟩:=a;refine az (l5 n e) λE F G=>wpAny_pyNext_tuple_item a ⟨_,l,rfl,_,rfl⟩ F λA x u=>?_;have k:∀c d,¬c=o->s.heap.get? c=O d->A.get? c=O d:=λc d v e=>(u.2 c v).trans e;refine az (oe.WT a) λd p r=>az (oe.WT x) λN H K=>?_;have j:go s.heap A:=ij (H:=λc=>c=o) (i4 p (fw r (by decide) (by decide))) k;exact qq z H ⟨_,K,by decide⟩ (t E A s.toks (G.Xh j) ⟨x,f,h,j _ _ l (.inl rfl) (.inl ⟨_,_,rfl⟩),n.Xh j⟩ k)
 Z9:=λ{b s Q g} a B C D t=>by obtain⟨a,f,h,l,n⟩:=a;exact wpAny_pyNext_tuple_end y a ⟨_,l,rfl,_,rfl⟩ (by rw[Sy];erw[e1 n];exact P2 _) λA u=>t A s.toks λc d v e=>u c d v e
theorem Gv(b c:Int):UU b c 1=(c-b).toNat:=by
 unfold UU;simp;by_cases a:b<c;·exact(if_pos a).trans (V5 (Sv (Int.sub_pos_of_lt a))).symm
 .exact(if_neg a).trans (UH (Int.sub_nonpos_of_le (R7.mp a))).symm
theorem dX.WW(v:V.handled=U)(w:hW q)(j:Pw)(a f:Int):dX I V q (λc=>c=j) (.ref j) .YM (dq a f) (λi m=>IsRangeIter m j (a+i) ((f-a).toNat-i:Int) 1)where
 ZK:=λi m A e k E=>k _ _ rfl e
 WT:=λi m e c d=>by subst d;exact⟨_,e,fw rfl (by decide) (by decide)⟩
 Z6:=λ{i b s F Q g} e x y d z n=>by
  unfold dq at d;rw[QT]at d;refine az (Q2.mp d) λG l B=>?_;have t:i<(f-a).toNat:=by
   by_cases u:i<(f-a).toNat;·exact u
   .rw[R1 (by erw[S0];exact gX (.w rZ) (ai mL ag) rfl u)]at l;injection l
  rw[List.getElem?_range t]at l;obtain rfl:=PS l;subst B;refine wpAny_pyNext_range_item e (gX rZ (a3 aX (.u kg bm)) rfl t) λA o p=>?_;have k:∀c h,¬c=j->s.heap.get? c=O h->A.get? c=O h:=λc h r d=>(p.2 c r).trans d;refine qq w o ⟨_,rfl,by decide⟩ (n (.int (a+i) s.toks) A (s.toks+1) ⟨_,rfl⟩ ?_ k);have C:a+(i:Int)+1=a+((i+1:Nat):Int):=(gY (aT (.i mN aG) (.i ag h6)) rfl);have D:((f-a).toNat:Int)-i-1=((f-a).toNat:Int)-((i+1:Nat):Int):=(Ar.dW [_] [_,_] (aT (.u (.u kg bm) aG) (.u kg h6)) rfl);rw[C,D]at o;exact o
 Z9:=λ{b s Q g} e x y z n=>by refine wpAny_pyNext_range_end v e (by unfold dq;erw[Pt,S0];exact Ar.dW [] [_,_] (aq (.u kg kg) aX) rfl) λA p=>n A s.toks λc h r d=>p c h r d
theorem v'.WT{c:Pw}(d:m.IsKeyIter t c i a l):∃b,m.get? t=O b/\b.cls=.type "dict_keyiterator":=let⟨b,e,f,_⟩:=d;⟨b,e,f⟩
theorem BW(e:c0 m c X):∀{i:Nat}{b:Int×aa},c[i]?=O b->∃d,X[i]?=O (b.1,d)/\ay m b.2 d:=by induction e with
 |e=>intro i b a;simp at a
 |c f _ g=>
  intro i b a;rcases i with _|i;·injection a with a;subst a;exact⟨_,rfl,f⟩
  .exact g (i:=i) a
theorem dX.Xq(D:V.handled=U)(E:hW q)(h w x:Nat)(j:List (Int×aa)):dX I V q (λd=>d=h) (.ref h) (.ZV w x j) (j.map λy=>.a y.1) (λi m=>m.IsKeyIter h w i j.length x)where
 ZK:=λi m A c k W=>c.at λe a=>k _ e rfl a
 WT:=λi m c d a=>by subst a;exact az (v'.WT c) λe z B=>⟨e,z,fw B (by decide) (by decide)⟩
 Z6:=λ{i b s X Q g} c n o a F p=>by refine dY (n.Xv o) λC r G l=>?_;rw[QT]at a;refine az (Q2.mp a) λy H K=>?_;obtain rfl:=K;refine az (BW l H) λY M Z=>?_;have f:=l.Xd;rw[f]at c;refine wpAny_pyNext_dict_item c r M λN A P t u=>?_;have k:∀d e,¬d=h->s.heap.get? d=O e->A.get? d=O e:=λd e v a=>(u.2 d v).trans a;refine az (v'.WT c) λe z B=>az (v'.WT t) λab R S=>?_;rw[<-f]at t;refine qq E R ⟨_,S,by decide⟩ (p N A s.toks ?_ t k);obtain⟨T,rfl⟩:=Value.isInt_shape P;exact⟨T,rfl⟩
 Z9:=λ{b s Q g} c n o F p=>by
  refine dY (n.Xv o) λC r G l=>?_;have f:=l.Xd;rw[Pt]at c;have a:C[j.length]?=U:=by rw[R1];exact aQ bX fP rfl f
  rw[f]at c a;exact wpAny_pyNext_dict_end D c r a λA u=>p A s.toks λd e v a=>u d e v a
theorem dX.Xe(K:V.handled=U){M:List Po}{N:PD}(n o v:Pw)(G:n≠o)(xs:List aa):dX I V (.Tuple M a N) (λc=>c=n\/c=o) (.ref n) (.x v xs) (gj 0 xs) (λi m=>(∃r,IsEnum m n o i r)/\m.IsListIter o v i)where
 ZK:=λi m A j k P=>⟨let⟨r,l⟩:=j.1;⟨r,k _ _ (.inl rfl) l⟩,j.2.at λe d=>k _ e (.inr rfl) d⟩
 WT:=λi m j c d=>by
  rcases d with rfl|rfl;·obtain⟨r,l⟩:=j.1;exact⟨_,l,fw rfl (by decide) (by decide)⟩
  .exact az (lk.WT j.2) λe x R=>⟨e,x,fw R (by decide) (by decide)⟩
 Z6:=λ{i b s H Q g} j p y d S z=>by
  obtain⟨⟨r,t⟩,u⟩:=j;refine cn (p.WE y) λT f B W C=>?_;have X:∀(f i:Nat)(xs:List aa),(gj f xs)[i]?=O H->∃l,xs[i]?=O l/\H=.h [.a ((f+i:Nat):Int),l]:=by intro f i xs;induction xs generalizing f i with
   |nil=>intro d;simp[gj]at d
   |cons w p D=>
    intro d;rcases i with _|i;·injection d with d;subst d;exact⟨w,rfl,rfl⟩
    .exact az (D (f+1) i d) λl v c=>⟨l,v,by erw[c];congr 4;exact b4 (a9 h7 iI) rfl⟩
  refine az (X 0 i xs d) λl Y Z=>?_;obtain rfl:=Z;refine az (l5 C Y) λw ab ac=>wpAny_pyNext_enum_item t u B.isList ab G λA ad ae af aq ag=>wpAny_letOwnedTupleGo_enum ad λE ah F=>?_;have ai:s.heap.objs.size≠n:=λh=>by have:=e9 s.heap;rw[h,t]at this;injection this
  have ar:s.heap.objs.size≠o:=λh=>by refine az u λe x P=>?_;have:=e9 s.heap;rw[h,x]at this;injection this
  have k:∀c e,¬(c=n\/c=o)->s.heap.get? c=O e->E.get? c=O e:=λc e h d=>(F.2 c (λq=>h (.inl q))).trans (ag c e (λq=>h (.inl q)) (λq=>h (.inr q)) d);refine az (lk.WT u) λas aj al=>?_;have am:go s.heap E:=ij (H:=λc=>c=n\/c=o) (λc h=>by
   rcases h with rfl|rfl;·exact⟨_,t,fw rfl (by decide) (by decide)⟩
   .exact⟨_,aj,fw al (by decide) (by decide)⟩) k;have an:=(F.2 _ ai).trans af;exact z (.ref s.heap.objs.size) E (s.toks+1) (h' (l:=0) (D:=#[.int (i:Nat) s.toks,w]) an (by size_fits) ⟨⟨_,by erw[Tg];rfl⟩,ac.Xh am,trivial⟩) ⟨⟨_,ah⟩,ae.at λe d=>(F.2 _ (PB G)).trans d⟩ k
 Z9:=λ{b s Q g} j p y S z=>by
  obtain⟨⟨r,t⟩,u⟩:=j;refine cn (p.WE y) λT f B W C=>?_;have ao:∀(f:Nat)(xs:List aa),(gj f xs).length=xs.length:=by intro f xs;induction xs generalizing f with|nil=>rfl|cons w p D=>show(gj (f+1) p).length+1=p.length+1;erw[D];rfl
  rw[ao]at t u;exact wpAny_pyNext_enum_end K t u B.isList (by rw[Sy];erw[e1 C];exact P2 _) λA ap=>z A s.toks λc e h d=>ap c e (λq=>h (.inr q)) d
theorem dX.Xu(G:V.handled=U){H:List Po}{K:PD}(f x y:Nat)(n:List (Int×aa)):dX I V (.Tuple H a K) (λd=>d=f) (.ref f) (.ZV x y n) (io n) (λi m=>∃p q,IsItemIter m f x i n.length y p q)where
 ZK:=λi m A c k ah=>let⟨z,B,c⟩:=c;⟨z,B,k _ _ rfl c⟩
 WT:=λi m c d e=>by subst e;exact on c λz B c=>⟨_,c,fw rfl (by decide) (by decide)⟩
 Z6:=λ{i b s ai Q g} c r t e M u=>by
  refine on c λp q c=>dY (r.Xv t) λC v N o=>?_;unfold io at e;rw[QT]at e;refine az (Q2.mp e) λP R S=>?_;obtain rfl:=S;refine az (BW o R) λT W X=>?_;have l:=o.Xd;rw[l]at c;refine wpAny_pyNext_items_item c v W λaj A Y Z ab al ac=>wpAny_letOwnedTupleGo_items Z λw D E=>?_;have ad:s.heap.objs.size≠f:=λh=>by have:=e9 s.heap;rw[h,c]at this;injection this
  have k:∀d j,¬d=f->s.heap.get? d=O j->w.get? d=O j:=λd j h e=>(E.2 d h).trans (ac d j h e);have ae:go s.heap w:=ij (H:=λd=>d=f) (i4 c (fw rfl (by decide) (by decide))) k;have af:=(E.2 _ ad).trans ab;rw[<-l]at D;obtain⟨F,rfl⟩:=Value.isInt_shape Y;exact u (.ref s.heap.objs.size) w s.toks (h' (l:=0) (D:=#[.int P.1 F,T]) af (by size_fits) ⟨⟨F,rfl⟩,X.Xh ae,trivial⟩) ⟨_,_,D⟩ k
 Z9:=λ{b s Q g} c r t M u=>by
  refine on c λp q c=>dY (r.Xv t) λC v N o=>?_;have l:=o.Xd;unfold io at c;rw[Pt]at c;have e:C[n.length]?=U:=by rw[R1];exact aQ bX fP rfl l
  rw[l]at c e;exact wpAny_pyNext_items_end G c v e λA ag=>u A s.toks λd j h e=>ag d j h e
theorem uh(H:fp I)(h:V.handled=U)(t:aA I b s.heap)(i:hW q){k:dh}{Q:Pl->Pn->Prop}(u:ay s.heap o n)(a:f_ o b=O (k,w))(j:∀z v x A,dX I V q z x k w v->v6 I V x v->v 0 A->(∀c l,s.heap.get? c=O l->A.get? c=O l)->(∀c,z c->s.heap.get? c=U)->k.WP b->Q x {s with heap:=A}):Pq (Py I.r I.q) V (pyIter n) Q g s:=by
 have p:∀c,c=s.heap.objs.size->s.heap.get? c=U:=λc d=>by subst d;exact e9 _
 rcases o with _|_|_|_|xs|⟨f,y⟩|r;·exact aU a
 .exact aU a
 .exact aU a
 .exact aU a
 .cases a;exact g2 (d:=λn=>Pq _ V (pyIter n) Q g s) u λr w B C D E=>wpAny_pyIter_tuple ⟨_,C,rfl,_,rfl⟩ (j _ _ _ _ (dX.W2 h i s.heap.objs.size r _) (λe m=>wpAny_pyIter_tupleiter e.1 m) ⟨⟨_,Qu _ rfl,rfl,rfl⟩,w,B,cY _ _ _ C,E.WR (cY _)⟩ (cY _) p trivial)
 .cases a;refine O8 u λr W X Y K M F G=>?_;obtain rfl:=K;refine wpAny_pyIter_range M ?_ (j _ _ _ _ (dX.WW h i s.heap.objs.size f y) (λe m=>wpAny_pyIter_rangeiter e m) ?_ (cY _) p trivial);·exact small_one F.1 F.2 G.1 G.2
  .show IsRangeIter _ _ _ _ _;have N:f+((0:Nat):Int)=f:=(Ar.dW [] [_] (aT (.i ag pm) ag) rfl);have P:(((y-f).toNat:Int)-((0:Nat):Int))=UU f y 1:=by erw[Gv];exact Ar.dW [] [_,_] (aT (.u kg pm) kg) rfl
   erw[N,P];exact Qu _ rfl
 .obtain rfl:=u;refine az (Rr.mp (show(b r).bind _=O (k,w)from a)) λl d a=>?_;rcases l with xs|⟨Z,ab⟩|⟨_,_,_⟩|_;·cases a;exact cn (t.WE d) λw B R D E=>U3 R.isList (j _ _ _ _ (dX.WE h i s.heap.objs.size _ _) (λe m=>wpAny_pyIter_listiter e m) ⟨_,Qu _ rfl,rfl,rfl⟩ (cY _) p d)
  .cases a;exact dY (t.Xv d) λac S D T=>wpAny_pyIter_dict (t.Xw H d) S (j _ _ _ _ (dX.Xq h i s.heap.objs.size _ _ _) (λe m=>wpAny_pyIter_keyiter e m) ⟨_,Qu _ rfl,rfl,by erw[T.Xd];rfl⟩ (cY _) p d)
  .exact aU a
  .exact aU a
end
end
variable{y:Po->Prop}{f:Nat}{r:aL}
section
mutual
noncomputable def fl:aa->aa->Bool
|.WK,a=>match a with|.WK=>L|_=>J
|.g b,a=>match a with|.g c=>b==c|_=>J
|.a b,a=>match a with|.a c=>b==c|_=>J
|.E b,a=>match a with|.E c=>b==c|_=>J
|.h b,a=>match a with|.h c=>tA b c|_=>J
|.WW _ _,_=>J
|.b _,_=>J
noncomputable def tA:List aa->List aa->Bool|[],d=>d.isEmpty|b::e,d=>match d with|[]=>J|c::d=>fl b c&&tA e d
end
mutual
theorem pL:∀{c b:aa},fl c b=L->c=b
|.WK,b,a=>by cases b with|WK=>rfl|_=>exact c4 a
|.g c,b,a=>by cases b with|g b=>exact congrArg _ (P5 a)|_=>exact c4 a
|.a c,b,a=>by cases b with|a b=>exact congrArg _ (P5 a)|_=>exact c4 a
|.E c,b,a=>by cases b with|E b=>exact congrArg _ (P5 a)|_=>exact c4 a
|.h c,b,a=>by cases b with|h b=>exact congrArg _ (yY a)|_=>exact c4 a
|.WW _ _,_,a=>c4 a
|.b _,_,a=>c4 a
theorem yY:∀{c b:List aa},tA c b=L->c=b|[],b,a=>(Qk.mp a).symm|c::e,d,a=>by cases d with|nil=>exact c4 a|cons b d=>exact(congrArg (·::e) (pL (Qv.mp a).1)).trans (congrArg (b::·) (yY (Qv.mp a).2))
end
noncomputable def CE(c:aa)(b:R_):Bool:=match c with|.WK=>Ps (b=.none)|.g a=>Ps (b=.bool a)|.a a=>Ps (b=.int a)|.E a=>Ps (b=.str a)|_=>J
noncomputable def iZ(b c:Qp):Qp:={b with names:=b.names.map λ(a,k)=>if(k==.free&&c.kind==.function&&c.names.lookup a==O .cell)then(a,.cell)else(a,k)}
def g8(a:bw)(b:Qp)(c:Pr)(k:Nat):bw:=⟨iZ b a.Z,(c,k)::a.Zd,a.w⟩
def vo(c:bw)(b:Qp)(d:Pr)(k:Nat):Bool:=b.kind==.function&&b.names.all (λa=>a.2 !=.cell)&&b.names.lookup d==O .local&&b.names.all (λa=>a.2 !=.local||b.names.lookup a.1==O .local)&&b.names.all (λa=>a.2 !=.free||(c.Z.names.lookup a.1==O .cell&&(c.Zd.lookup a.1).isSome))&&c.Zd.all (λa=>a.1==d||(a.2 !=k&&(iZ b c.Z).names.lookup a.1 !=O .local))&&Ps (k<c.w)
noncomputable def hB:Po->Bool|.Starred ..=>J|_=>L
noncomputable def nx:Po->Bool|.Call ..=>J|_=>L
noncomputable def AO:Po->Bool|.Slice ..=>J|_=>L
noncomputable def l7:cC->Option ei
|.o a=>match a with|.a=>O .a|.W2=>O .W2|_=>U
|.Zx b=>match b with|.Zq=>U|.a=>O .a|.g=>O .g|.E=>O .E|.W2=>O .W2
|_=>U
noncomputable def fG(a:Nat)(b:Po)(f:b.ctorIdx=a->Bool):Bool:=if c:b.ctorIdx=a then f c else J
theorem fZ{f:q.ctorIdx=a->Bool}(c:fG a q f=L)(k:∀b,f b=L->z):z:=by
 by_cases b:q.ctorIdx=a;·exact k b ((dif_pos b).symm.trans c)
 .exact absurd ((dif_neg b).symm.trans c) Qf
theorem ax{a:Bool}(b:(A&&a)=L):A=L:=(Qv.mp b).1
theorem ar{a:Bool}(b:(A&&a)=L):a=L:=(Qv.mp b).2
theorem dZ[Decidable z](a:Ps z=L):z:=of_decide_eq_true a
theorem gP{a:Bool}(b:(A||a)=L)(c:A=L->z)(d:a=L->z):z:=(UW.mp b).elim c d
def q2(b:Vj->List Po->PD->Bool)(a:Po):Bool:=fG 0 a λc=>Expr.BoolOp.elim (motive_1:=λf=>Bool) a c λd vs e=>b d vs e
theorem j3{d:Vj->List Po->PD->Bool}(a:q2 d q=L)(k:∀b vs c,d b vs c=L->y (.BoolOp b vs c)):y q:=fZ a λe f=>Expr.BoolOp.elim (motive_1:=λq=>q2 d q=L->y q) q e (λb vs c a=>k b vs c a) a
def vE(b:Po->Sh->Po->Bool)(a:Po):Bool:=fG 2 a λc=>Expr.BinOp.elim (motive_1:=λd=>Bool) a c λe f g d=>b e f g
theorem q3{e:Po->Sh->Po->Bool}(a:vE e q=L)(k:∀b c d f,e b c d=L->y (.BinOp b c d f)):y q:=fZ a λg h=>Expr.BinOp.elim (motive_1:=λq=>vE e q=L->y q) q g (λb c d f a=>k b c d f a) a
def qW(b:Vi->Po->Bool)(a:Po):Bool:=fG 3 a λc=>Expr.UnaryOp.elim (motive_1:=λd=>Bool) a c λe f d=>b e f
theorem j0{d:Vi->Po->Bool}(a:qW d q=L)(k:∀b c e,d b c=L->y (.UnaryOp b c e)):y q:=fZ a λf g=>Expr.UnaryOp.elim (motive_1:=λq=>qW d q=L->y q) q f (λb c e a=>k b c e a) a
def vA(b:Po->Po->Po->Bool)(a:Po):Bool:=fG 5 a λc=>Expr.IfExp.elim (motive_1:=λg=>Bool) a c λd e f h=>b d e f
theorem q0{e:Po->Po->Po->Bool}(a:vA e q=L)(k:∀b c d f,e b c d=L->y (.IfExp b c d f)):y q:=fZ a λg h=>Expr.IfExp.elim (motive_1:=λq=>vA e q=L->y q) q g (λb c d f a=>k b c d f a) a
def vB(b:List (Option Po)->List Po->Bool)(a:Po):Bool:=fG 6 a λc=>Expr.Dict.elim (motive_1:=λe=>Bool) a c λd vs f=>b d vs
theorem q1{c:List (Option Po)->List Po->Bool}(a:vB c q=L)(k:∀b vs d,c b vs=L->y (.Dict b vs d)):y q:=fZ a λe f=>Expr.Dict.elim (motive_1:=λq=>vB c q=L->y q) q e (λb vs d a=>k b vs d a) a
def vD(b:Po->List Comprehension->Qp->Bool)(a:Po):Bool:=fG 8 a λc=>Expr.ListComp.elim (motive_1:=λg=>Bool) a c λd e f h=>b d e f
theorem vC{e:Po->List Comprehension->Qp->Bool}(a:vD e q=L)(k:∀b c d f,e b c d=L->y (.ListComp b c d f)):y q:=fZ a λg h=>Expr.ListComp.elim (motive_1:=λq=>vD e q=L->y q) q g (λb c d f a=>k b c d f a) a
def k5(b:Po->List R'->List Po->Bool)(a:Po):Bool:=fG 15 a λc=>Expr.Compare.elim (motive_1:=λg=>Bool) a c λd e f h=>b d e f
theorem hS{e:Po->List R'->List Po->Bool}(a:k5 e q=L)(k:∀b c d f,e b c d=L->y (.Compare b c d f)):y q:=fZ a λg h=>Expr.Compare.elim (motive_1:=λq=>k5 e q=L->y q) q g (λb c d f a=>k b c d f a) a
def mg(b:Po->List Po->List Keyword->PD->Bool)(a:Po):Bool:=fG 16 a λc=>Expr.Call.elim (motive_1:=λh=>Bool) a c λf d e g=>b f d e g
theorem mf{e:Po->List Po->List Keyword->PD->Bool}(a:mg e q=L)(k:∀f b c d,e f b c d=L->y (.Call f b c d)):y q:=fZ a λg h=>Expr.Call.elim (motive_1:=λq=>mg e q=L->y q) q g (λf b c d a=>k f b c d a) a
def j2(b:R_->Bool)(a:Po):Bool:=fG 19 a λc=>Expr.Constant.elim (motive_1:=λe=>Bool) a c λd f g=>b d
theorem me{c:R_->Bool}(a:j2 c q=L)(k:∀b d e,c b=L->y (.Constant b d e)):y q:=fZ a λf g=>Expr.Constant.elim (motive_1:=λq=>j2 c q=L->y q) q f (λb d e a=>k b d e a) a
def j5(b:Po->Pr->PD->Bool)(a:Po):Bool:=fG 20 a λc=>Expr.Attribute.elim (motive_1:=λg=>Bool) a c λd e f=>b d e f
theorem j4{e:Po->Pr->PD->Bool}(a:j5 e q=L)(k:∀b c d,e b c d=L->y (.Attribute b c d)):y q:=fZ a λf g=>Expr.Attribute.elim (motive_1:=λq=>j5 e q=L->y q) q f (λb c d a=>k b c d a) a
def mc(b:Po->Po->Bool)(a:Po):Bool:=fG 21 a λc=>Expr.Subscript.elim (motive_1:=λf=>Bool) a c λd e g=>b d e
theorem gO{d:Po->Po->Bool}(a:mc d q=L)(k:∀b c e,d b c=L->y (.Subscript b c e)):y q:=fZ a λf g=>Expr.Subscript.elim (motive_1:=λq=>mc d q=L->y q) q f (λb c e a=>k b c e a) a
def gk(b:Pr->Bool)(a:Po):Bool:=fG 23 a λc=>TF (motive_1:=λe=>Bool) a c λd f=>b d
theorem eS{c:Pr->Bool}(a:gk c q=L)(k:∀b d,c b=L->y (.Name b d)):y q:=fZ a λe f=>TF (motive_1:=λq=>gk c q=L->y q) q e (λb d a=>k b d a) a
def vz(b:List Po->Bool)(a:Po):Bool:=fG 24 a λc=>Expr.List.elim (motive_1:=λd=>Bool) a c λxs e=>b xs
theorem qZ{b:List Po->Bool}(a:vz b q=L)(k:∀xs c,b xs=L->y (.List xs c)):y q:=fZ a λd e=>Expr.List.elim (motive_1:=λq=>vz b q=L->y q) q d (λxs c a=>k xs c a) a
def j1(b:List Po->Bool)(a:Po):Bool:=fG 25 a λc=>Expr.Tuple.elim (motive_1:=λd=>Bool) a c λxs e f=>b xs
theorem hP{b:List Po->Bool}(a:j1 b q=L)(k:∀xs c d,b xs=L->y (.Tuple xs c d)):y q:=fZ a λe f=>Expr.Tuple.elim (motive_1:=λq=>j1 b q=L->y q) q e (λxs c d a=>k xs c d a) a
def qY(b:Option Po->Option Po->Option Po->Bool)(a:Po):Bool:=fG 26 a λc=>Expr.Slice.elim (motive_1:=λg=>Bool) a c λd e f h=>b d e f
theorem DF{e:Option Po->Option Po->Option Po->Bool}(a:qY e q=L)(k:∀b c d f,e b c d=L->y (.Slice b c d f)):y q:=fZ a λg h=>Expr.Slice.elim (motive_1:=λq=>qY e q=L->y q) q g (λb c d f a=>k b c d f a) a
noncomputable def i_{a:Type}(b:a->List a->Bool):List a->Bool|[]=>J|c::d=>b c d
theorem g_{a:Type}{d:a->List a->Bool}{xs:List a}{e:List a->Prop}(f:i_ d xs=L)(k:∀b c,d b c=L->e (b::c)):e xs:=by
 rcases xs with _|⟨b,c⟩;·exact absurd f Qf
 .exact k b c f
def ev{a:Type}(b:a->Bool)(xs:List a):Bool:=i_ (λc d=>d.isEmpty&&b c) xs
theorem g9{c:Type}{d:c->Bool}{xs:List c}{e:List c->Prop}(b:ev d xs=L)(k:∀a,d a=L->e [a]):e xs:=g_ (d:=λa f=>f.isEmpty&&d a) b λa f b=>by obtain rfl:=Qk.mp (ax b);exact k a (ar b)
def n4{a:Type}(b:a->a->Bool)(xs:List a):Bool:=i_ (λc d=>ev (b c) d) xs
theorem qX{b:Type}{d:b->b->Bool}{xs:List b}{e:List b->Prop}(f:n4 d xs=L)(k:∀a g,d a g=L->e [a,g]):e xs:=g_ (d:=λa c=>ev (d a) c) f λa c f=>g9 (e:=λc=>e (a::c)) f (k a)
noncomputable def d0{a:Type}(b:a->Bool):Option a->Bool|none=>J|some c=>b c
theorem hQ{b:Type}{d:b->Bool}{c:Option b}{e:Option b->Prop}(f:d0 d c=L)(k:∀a,d a=L->e (O a)):e c:=by
 rcases c with _|a;·exact absurd f Qf
 .exact k a f
def k6(a:Pr->List Po->Bool)(b:Po):Bool:=mg (λf c d g=>d.isEmpty&&gk (λe=>a e c) f) b
theorem fn{e:Pr->List Po->Bool}(b:k6 e q=L)(k:∀c g a d,e c a=L->y (.Call (.Name c g) a [] d)):y q:=mf (e:=λf a h i=>h.isEmpty&&gk (λc=>e c a) f) b λf a h d b=>by obtain rfl:=Qk.mp (ax b);exact eS (y:=λf=>y (.Call f a [] d)) (ar b) λc g b=>k c g a d b
noncomputable def C2(f:Nat):cC->Bool|.C a=>PX f a|_=>J
noncomputable def C3(a:Nat):cC->Bool|.YJ b=>PX a b|_=>J
def qH(a:fJ):cC->Bool|.o b=>PX a.Xi b.Xi|_=>J
noncomputable def C1:cC->Bool|.YU=>L|_=>J
def C0(a:ei)(b:cC):Bool:=d0 (λc=>PX a.Xi c.Xi) (l7 b)
noncomputable def u4(a:aa->Bool):cC->Bool|.f b=>a b|_=>J
noncomputable def tE(a:Int->Bool):aa->Bool|.a b=>a b|_=>J
noncomputable def Ci(a:Int->Bool):R_->Bool|.int b=>a b|_=>J
theorem LR{a:Option cC}(b:d0 (C2 f) a=L):a=O (.C f):=hQ (e:=λa=>a=O (.C f)) b λc b=>by induction c with|C k=>erw[Q3 b];rfl|_=>exact absurd b Qf
theorem LU{a:Option cC}(b:d0 (C3 f) a=L):a=O (.YJ f):=hQ (e:=λa=>a=O (.YJ f)) b λc b=>by induction c with|YJ k=>erw[Q3 b];rfl|_=>exact absurd b Qf
noncomputable def DM:List fJ:=[.WJ,.ZF,.ZJ,.Z',.Zr,.a,.W2,.WE,.WN,.WW]
theorem DL(a:fJ):DM.getD a.Xi .WJ=a:=by cases a<;>rfl
theorem NA{a b:fJ}(c:PX a.Xi b.Xi=L):a=b:=(DL a).symm.trans ((congrArg (DM.getD · .WJ) (Q3 c)).trans (DL b))
noncomputable def x5:List ei:=[.a,.g,.E,.W2,.Zq]
theorem x4(a:ei):x5.getD a.Xi .a=a:=by cases a<;>rfl
theorem x3{a b:ei}(c:PX a.Xi b.Xi=L):a=b:=(x4 a).symm.trans ((congrArg (x5.getD · .a) (Q3 c)).trans (x4 b))
theorem u6{c:fJ}{a:Option cC}(b:d0 (qH c) a=L):a=O (.o c):=hQ (e:=λa=>a=O (.o c)) b λd b=>by induction d with|o k=>erw[NA b];rfl|_=>exact absurd b Qf
theorem LP{a:Option cC}(b:d0 C1 a=L):a=O .YU:=hQ (e:=λa=>a=O .YU) b λc b=>by induction c with|YU=>rfl|_=>exact absurd b Qf
theorem CZ{d:aa->Bool}{b:Option cC}(c:d0 (u4 d) b=L)(k:∀a,b=O (.f a)->d a=L->z):z:=hQ (e:=λb=>(∀a,b=O (.f a)->d a=L->z)->z) c (λe c=>by induction e with
 |f a=>exactλk=>k a rfl c
 |_=>exact absurd c Qf) k
theorem Gc{c:Int->Bool}{d:aa->Prop}(a:tE c o=L)(k:∀b,c b=L->d (.a b)):d o:=by
 rcases o with _|_|b|_|_|⟨_,_⟩|_;·exact absurd a Qf
 .exact absurd a Qf
 .exact k b a
 .exact absurd a Qf
 .exact absurd a Qf
 .exact absurd a Qf
 .exact absurd a Qf
theorem Kl{c:Int->Bool}{b:R_}{d:R_->Prop}(e:Ci c b=L)(k:∀a,c a=L->d (.int a)):d b:=by induction b with|int a=>exact k a e|_=>exact absurd e Qf
noncomputable def uW:aL->Bool
|.f a=>match a with|.g b=>b|_=>J
|_=>J
theorem K6(a:uW r=L):r=.f (.g L):=by cases r with
 |f b=>
  rcases b with _|c|_|_|_|⟨_,_⟩|_;·exact absurd a Qf
  .obtain rfl:c=L:=a;rfl
  .exact absurd a Qf
  .exact absurd a Qf
  .exact absurd a Qf
  .exact absurd a Qf
  .exact absurd a Qf
 |_=>exact absurd a Qf
section
variable(C:Pr->Option cC)(B:Nat->Option Pr)
noncomputable def fD(b:bw)(a:Pr):Option cC:=if a !="__debug__"&&b.Z.names.lookup a==O .globalImplicit then C a else U
noncomputable def AR(b:bw)(a:Pr)(k:Nat):Bool:=a !="__debug__"&&b.Zd.lookup a==O k&&(b.Z.names.lookup a==O .local||b.Z.names.lookup a==O .cell)
noncomputable def mp(a:Nat)(b:Pr):Bool:=B a==O b
def un(e:bw)(a:aa)(c:Po):Bool:=j2 (CE a) c||(gk (λb=>d0 (u4 (fl a)) (fD C e b)) c||qW (λf b=>Ps (f=.USub)&&(j2 (Ci λd=>fl a (.a (-d))) b||gk (λg=>d0 (u4 (tE λd=>fl a (.a (-d)))) (fD C e g)) b)) c)
def CB(a:ei):Bool:=PX a.Xi 4
def uo(b:bw)(d:ei)(e:Po):Bool:=gk (λa=>d0 (C0 d) (fD C b a)) e||j1 (λf=>CB d&&n4 (λa c=>gk (λa=>d0 (qH .W2) (fD C b a)) a&&gk (λc=>d0 (qH .WE) (fD C b c)) c) f) e
mutual
noncomputable def bc(b:bw):aL->Po->Bool
|.f E,a=>un C b E a
|.d k,a=>gk (λc=>AR b c k) a
|.m F h j,a=>vE (λo g m=>Ps (g=e3 F)&&(bc b h o&&bc b j m)) a
|.M e,a=>qW (λg c=>Ps (g=.Not)&&bc b e c) a
|.V h j,a=>q2 (λg vs p=>Ps (g=.And)&&i_ (λc m=>i_ (λd q=>bc b h c&&bc b j (match q with|[]=>d|u::v=>.BoolOp .And (d::u::v) p)) m) vs) a
|.YF h j,a=>q2 (λg vs p=>Ps (g=.Or)&&i_ (λc m=>i_ (λd q=>bc b h c&&bc b j (match q with|[]=>d|u::v=>.BoolOp .Or (d::u::v) p)) m) vs) a
|.l l h j,a=>vA (λw c d=>bc b l w&&(bc b h c&&bc b j d)) a
|.j l h j,a=>k5 (λo r s=>ev (λg=>ev (λm=>Ps (g=gB l)&&(bc b h o&&bc b j m)) s) r) a
|.Y7 l G h x j,a=>k5 (λo r s=>n4 (λg p=>n4 (λc d=>(Ps (g=gB l)&&Ps (p=gB G))&&(bc b h o&&(bc b x c&&bc b j d))) s) r) a
|.Zn e,a=>k5 (λo r s=>ev (λg=>ev (λm=>Ps (g=.Is)&&(j2 (λl=>Ps (l=.none)) m&&bc b e o)) s) r) a
|.Zy e,a=>k5 (λo r s=>ev (λg=>ev (λm=>Ps (g=.IsNot)&&(j2 (λl=>Ps (l=.none)) m&&bc b e o)) s) r) a
|.h y,a=>j1 (λxs=>gH b y xs) a
|.x y,a=>vz (λxs=>gH b y xs) a
|.ZH,a=>vB (λH vs=>H.isEmpty&&vs.isEmpty) a
|.W1 k I D K,a=>vD (λc M z=>ev (λn=>gk (λd=>Ps (n.is_async=0)&&(vo b z d k&&(bc b I n.iter&&((match n.ifs with|[]=>uW D|l::m=>m.isEmpty&&bc (g8 b z d k) D l)&&bc (g8 b z d k) K c)))) n.target) M) a
|.k f t,a=>k6 (λn xs=>d0 (C2 f) (fD C b n)&&gH b t xs) a
|.WH l t,a=>k6 (λn xs=>d0 (C3 l) (fD C b n)&&gH b t xs) a
|.o j t,a=>k6 (λn xs=>d0 (qH j) (fD C b n)&&gH b t xs) a
|.YU e w,a=>k6 (λn xs=>n4 (λc d=>d0 C1 (fD C b n)&&(hB c&&(bc b e c&&uo C b w d))) xs) a
|.n e h,a=>j5 (λc A R=>mp B h A&&(nx c&&bc b e c)) a
|.N e x t,a=>mg (λf xs N p=>N.isEmpty&&j5 (λg A q=>(mp B x A&&((q.endLine==p.line)&&Ps (xs.length<20)))&&(nx g&&(bc b e g&&gH b t xs))) f) a
|.y e i,a=>mc (λc d=>AO d&&(bc b e c&&bc b i d)) a
|.Yv e P Q,a=>mc (λc d=>qY (λh j l=>l.isNone&&(bc b e c&&(qk b P h&&qk b Q j))) d) a
|.ZW e,a=>mc (λc d=>qY (λh j l=>(h.isNone&&j.isNone)&&(d0 (λu=>un C b (.a (-1)) u) l&&bc b e c)) d) a
|.D,_=>L
noncomputable def gH(b:bw):di->List Po->Bool|.e,xs=>xs.isEmpty|.c e m,xs=>i_ (λa q=>hB a&&(bc b e a&&gH b m q)) xs
noncomputable def qk(b:bw):gr->Option Po->Bool|.WK,a=>a.isNone|.WI e,a=>d0 (λc=>bc b e c) a
end
end
end
def Ou(I:aB)(V:PT)(p:as):Prop:=∀{a:ab}{s:Pn}{f:Pl->Pn->Prop}{Q:aa->ab->Prop}{e:Pl->Pn->Prop}{g:Pr}{c:Nat}{vs:List aa}{xs:List Pl},I.Q g=O (.YJ c)->aA I a s.heap->aZ s.heap vs xs->(∀b d,a b=U->a d=U->b≠d->p.k (p.Zv c) (.b b::vs) (am a b (.WO c d [])) λh i=>nv h (Q (.b b) i))->aS I a s Q e->Pq (Py I.r I.q) V (Qb (.ref (I.YX c)) xs) e f s
structure bW(I:aB)(V:PT)(p:as)(a:Nat):Prop where
 WP:fp I
 A?:rv I
 B?:mA I
 Zj:iw V a
 q?:ES I V p
 n?:Ou I V p
 D?:p.Zp=I.YH.Zp
 E?:p.ZA=I.YH.ZA
 YY:p.YY=I.YH.YY
 G?:∀R<4,I.P R=O (qj R)
 v?:∀P f,I.Q P=O (.C f)->QG I.YS (.ref (I.Zt f))=L
 x?:∀F S f,I.YH.Zp F S=O f->QG I.YS (.ref (I.Zt f))=L
 y?:∀P F,I.Q P=O (.YJ F)->QG I.YS (.ref (I.YX F))=L
section
abbrev bK(I:aB)(V:PT)(a:PI)(b c:Pl->Pn->Prop)(s:Pn)(d:Po):Prop:=Pq (Py I.r I.q) V (PW d a) b c s
abbrev gp(I:aB)(V:PT)(a:PI)(c:Bool->Pn->Prop)(d:Pl->Pn->Prop)(s:Pn)(b:Po):Prop:=Pq (Py I.r I.q) V (Rp b a (PW b a)) c d s
abbrev bs(I:aB)(V:PT)(p:as)(b:aL):Prop:=∀{c:Po}{d:bw}{e:al}{f:PI}{a:ab}{s:Pn}{Q:aa->ab->Prop}{g:Pl->Pn->Prop}{h:Pl->Pn->Prop},bc I.Q I.P d b c=L->aA I a s.heap->bz I d e f a s.heap->au p b e a Q->aS I a s Q g->Pq (Py I.r I.q) V (PW c f) g h s
abbrev b'(I:aB)(V:PT)(p:as)(g:aL):Prop:=∀{c:Po}{h:bw}{i:al}{d:PI}{a:ab}{s:Pn}{Q:Bool->ab->Prop}{j:Bool->Pn->Prop}{k:Pl->Pn->Prop},bc I.Q I.P h g c=L->aA I a s.heap->bz I h i d a s.heap->au p g i a (λl m=>match l with|.g b=>Q b m|_=>False)->(∀b e f n,aA I e f->a1 ct a s.heap e f->Q b e->j b {s with heap:=f,toks:=n})->Pq (Py I.r I.q) V (Rp c d (PW c d)) j k s
abbrev gU(I:aB)(V:PT)(p:as)(d:di):Prop:=∀{xs:List Po}{e:bw}{f:al}{g:PI}{a:ab}{s:Pn}{Q:List aa->ab->Prop}{h:List Pl->Pn->Prop}{i:Pl->Pn->Prop}{j:PD},gH I.Q I.P e d xs=L->aA I a s.heap->bz I e f g a s.heap->dF p d f a Q->(∀us vs c b k,aA I c b->a1 ct a s.heap c b->aZ b us vs->Q us c->h vs {s with heap:=b,toks:=k})->Pq (Py I.r I.q) V (spliced (RD j (Q9 xs g))) h i s
theorem Lc{h:Q4}{f:R_}{j:PD}{l:Pl->Pn->Prop}(a:CE o f=L)(c:aA I b s.heap)(d:Q o b)(e:aS I b s Q g):Pq h V (PW (.Constant f k j) x) g l s:=by
 rcases o with _|m|i|n|_|⟨_,_⟩|_;·obtain rfl:=dZ a;exact SA (aS.WX (l:=s.toks) c e Fe d)
 .obtain rfl:=dZ a;exact wpAny_Constant_bool (aS.WX (l:=s.toks) c e e0 d)
 .obtain rfl:=dZ a;exact U' (aS.WX c e d_ d)
 .obtain rfl:=dZ a;exact wpAny_Constant_str (aS.WX c e te d)
 .exact c4 a
 .exact c4 a
 .exact c4 a
theorem u3{c:Pr->Option cC}{d:cC}(a:fD c B M=O d):(M==("__debug__":Pr))=J/\B.Z.names.lookup M=O .globalImplicit/\c M=O d:=by
 unfold fD at a;split at a;·rename_i b;simp only[Qc,bne_iff_ne,beq_iff_eq]at b;exact⟨by simpa using b.1,b.2,a⟩
 .injection a
theorem jX(c:bW I V p a){f:Pl->Pn->Prop}{h:PD}{d:cC}(i:fD I.Q B M=O d)(j:aA I b s.heap)(k:bz I B N x b s.heap)(l:∀e,my I d e->g e s){m:Q4}:Pq m V (PW (.Name M h) x) g f s:=by exact cc (u3 i) λn o q=>wpAny_Name (k.Yk c.WP c.A? j q o l) n
theorem A'(u:bW I V p a){d:Pl->Pn->Prop}(c:un I.Q B o q=L)(e:aA I b s.heap)(v:bz I B N x b s.heap)(l:Q o b)(m:aS I b s Q g):Pq (Py I.r I.q) V (PW q x) g d s:=gP c (λc=>me (y:=bK I V x g d s) c λn i j c=>Lc c e l m) λc=>gP c (λc=>eS (y:=bK I V x g d s) c λf j c=>CZ c λi k c=>by obtain rfl:=pL c;exact jX u k e v λf r=>aS.WX (l:=s.toks) e m (ay.WR e.WQ r) l) λc=>j0 (y:=bK I V x g d s) c λy f j c=>by obtain rfl:=dZ (ax c);exact gP (ar c) (λc=>me (y:=λf=>bK I V x g d s (.UnaryOp .USub f j)) c λn i t c=>Kl (c:=λh=>fl o (.a (-h))) (d:=λn=>bK I V x g d s (.UnaryOp .USub (.Constant n i t) j)) c λh c=>by obtain rfl:=pL c;exact TW (U' (PySem.P.neg_int (aS.WX e m d_ l)))) λc=>eS (y:=λf=>bK I V x g d s (.UnaryOp .USub f j)) c λw t c=>CZ (d:=tE λh=>fl o (.a (-h))) c λi k c=>Gc (c:=λh=>fl o (.a (-h))) (d:=λi=>fD I.Q B w=O (.f i)->bK I V x g d s (.UnaryOp .USub (.Name w t) j)) c (λh c k=>by obtain rfl:=pL c;exact TW (jX u k e v λf r=>by obtain⟨z,rfl⟩:=r;exact PySem.P.neg_int (aS.WX e m d_ l))) k
theorem ID{e:Pl->Pn->Prop}{f:PD}{h:Q4}(a:AR B M k=L)(i:aA I b s.heap)(j:bz I B N x b s.heap)(d:aP (eB N k) λc=>Q c b)(l:aS I b s Q g):Pq h V (PW (.Name M f) x) g e s:=by
 have m:B.Z.names.lookup M=O .local\/B.Z.names.lookup M=O .cell:=gP (ar a) (λa=>.inl (P5 a)) λa=>.inr (P5 a);have n:=P5 (ar (ax a));have o:(M==("__debug__":Pr))=J:=by simpa[bne]using ax (ax a)
 exact cm (c:=λc=>Q c b) d λc p d=>wpAny_Name (j.X7 n m p λr q=>aS.WX (l:=s.toks) i l q d) o
theorem bz.WL{t1:Nat}(a:bz I B N x b s.heap)(c:aA I b s.heap)(d:a1 ct b s.heap T m):bz I B N x T ({s with heap:=m,toks:=t1}:Pn).heap:=a.WU c d
theorem ni{h:aL}(w:bs I V p r)(y:bs I V p h){k:Po}{Q:aa->aa->ab->Prop}{l:Pl->Pl->Pn->Prop}(z:bc I.Q I.P B r q=L)(A:bc I.Q I.P B h k=L)(m:aA I b s.heap)(n:bz I B N x b s.heap)(C:au p r N b λa o=>au p h N o λc i=>Q a c i)(D:∀a c d e j f E,aA I j f->a1 ct b s.heap j f->ay f a d->ay f c e->Q a c j->l d e {s with heap:=f,toks:=E}):Pq (Py I.r I.q) V (PW q x) (λd F=>Pq (Py I.r I.q) V (PW k x) (λe G=>l d e G) g F) g s:=w z m n C λa d o W t1 t u H K=>y A t (n.WL (t1:=t1) m u) K λc e i M P R v S T=>D a c d e i M P R (u.WF v) (H.WU t es v) S T
noncomputable def AP(a:Po):Bool:=!(PX a.ctorIdx 7)
abbrev dN(a:Po):Prop:=AP a=L
theorem Bb{i:Pr->Option cC}{j:Nat->Option Pr}(b:bc i j B r q=L):r=.D\/AP q=L:=by cases r with
 |D=>exact .inl rfl
 |f n=>exact .inr (gP b (λe=>me (y:=dN) e λa a a a=>rfl) λe=>gP e (λe=>eS (y:=dN) e λa a a=>rfl) λe=>j0 (y:=dN) e λa a a a=>rfl)
 |d k=>exact .inr (eS (y:=dN) b λa a a=>rfl)
 |m o c d=>exact .inr (q3 (y:=dN) b λa a a a a=>rfl)
 |M c=>exact .inr (j0 (y:=dN) b λa a a a=>rfl)
 |V c d=>exact .inr (j3 (y:=dN) b λa a a a=>rfl)
 |YF c d=>exact .inr (j3 (y:=dN) b λa a a a=>rfl)
 |l c d g=>exact .inr (q0 (y:=dN) b λa a a a a=>rfl)
 |j g c d=>exact .inr (hS (y:=dN) b λa a a a a=>rfl)
 |Y7 g p c d l=>exact .inr (hS (y:=dN) b λa a a a a=>rfl)
 |Zn c=>exact .inr (hS (y:=dN) b λa a a a a=>rfl)
 |Zy c=>exact .inr (hS (y:=dN) b λa a a a a=>rfl)
 |h m=>exact .inr (hP (y:=dN) b λa a a a=>rfl)
 |x m=>exact .inr (qZ (y:=dN) b λa a a=>rfl)
 |ZH=>exact .inr (q1 (y:=dN) b λa a a a=>rfl)
 |W1 c d g l=>exact .inr (vC (y:=dN) b λa a a a a=>rfl)
 |k f h=>exact .inr (fn (y:=dN) b λa a a a a=>rfl)
 |WH f h=>exact .inr (fn (y:=dN) b λa a a a a=>rfl)
 |o f h=>exact .inr (fn (y:=dN) b λa a a a a=>rfl)
 |YU f h=>exact .inr (fn (y:=dN) b λa a a a a=>rfl)
 |n c d=>exact .inr (j4 (y:=dN) b λa a a a=>rfl)
 |N c d g=>exact .inr (mf (y:=dN) b λa a a a a=>rfl)
 |y c d=>exact .inr (gO (y:=dN) b λa a a a=>rfl)
 |Yv c d g=>exact .inr (gO (y:=dN) b λa a a a=>rfl)
 |ZW c=>exact .inr (gO (y:=dN) b λa a a a=>rfl)
theorem DJ(h:bW I V p a){c:dT}{d:aL}(i:bs I V p r)(j:bs I V p d):bs I V p (.m c r d):=λ{C D E k F s Q l e} b m n o q=>q3 (y:=bK I V k l e s) b λG H t K b=>by obtain rfl:=dZ (ax b);exact wpAny_BinOp (ni (Q:=λf g u=>dK c f g u Q) i j (ax (ar b)) (ar (ar b)) m n o λf g M t N v w x y z A B=>Nv (V:=V) (g:=e) (s:={s with heap:=v,toks:=w}) h.WP x z A B (q.W4 y))
theorem vI{b:R'}(c:bc I.Q I.P B r q=L)(d:r≠.D):behindInMarks b q=J:=by
 rcases Bb c with a|a;·exact absurd a d
 .cases q<;>first|rfl|exact c4 a
theorem DC{e:Pr->Option cC}{f:Nat->Option Pr}{h:el}{i:aL}(a:bc e f B (.j h r i) q=L)(k:∀b d c,bc e f B r b=L->bc e f B i d=L->y (.Compare b [gB h] [d] c)):y q:=hS a λb j g c a=>g9 (e:=λj=>y (.Compare b j g c)) a λl a=>g9 (e:=λg=>y (.Compare b [l] g c)) a λd a=>by obtain rfl:=dZ (ax a);exact k b d c (ax (ar a)) (ar (ar a))
theorem MY(e:bW I V p a){f:el}{c:aL}(g:bs I V p r)(q:bs I V p c):bs I V p (.j f r c):=λ{H K M t N s Q u v} w h i j x=>DC (y:=bK I V t u v s) w λP y R k l=>by
 by_cases m:c=.D;·subst m;delta bK;erw[eval_Compare1];exact Pu (g (Q:=λb z=>False) k h i j λb A z S t1 T W n d=>d.elim)
 .exact TZ (ni (Q:=λb o B=>b3 f b o B Q) g q k l h i j λb o A y X C D E F n G d=>n2 (V:=V) (s:={s with heap:=C,toks:=D}) e.WP e.Zj E n G d (x.W4 F)) (vI l m)
theorem Fl{c:Q4}{d:Bool->Pn->Prop}(f:Pq c V (PW q x) (λa e=>∃b,a=.bool b/\d b e) g s)(h:Rp q x (PW q x)=(do let a<-PW q x;standAt q.pos;holding [a] (SB a))):Pq c V (Rp q x (PW q x)) d g s:=wpAny_isTrue_value (Qo f (λa e ⟨b,q,i⟩=>by subst q;exact QF i) λj j q=>q) h
theorem vF{Q:Bool->ab->Prop}{h:Bool->Pn->Prop}(i:∀a d e g,aA I d e->a1 ct b s.heap d e->Q a d->h a {s with heap:=e,toks:=g}):aS I b s (λf j=>match f with|.g a=>Q a j|_=>False) (λf k=>∃a,f=.bool a/\h a k):=λl f d e g m n o c=>by
 rcases l with _|a|_|_|_|⟨_,_⟩|_;·exact c.elim
 .obtain rfl:=o;exact⟨a,rfl,i a d e g m n c⟩
 .exact c.elim
 .exact c.elim
 .exact c.elim
 .exact c.elim
 .exact c.elim
theorem M2(h:bW I V p a){i:el}{b:aL}(j:bs I V p r)(e:bs I V p b):b' I V p (.j i r b):=λ{W X Y u Z s Q v w} x k l m y=>DC (y:=gp I V u v w s) x λaa z ab n c=>by
 by_cases o:b=.D;·subst o;delta gp;erw[isTrue_Compare1];exact Pu (j (Q:=λd A=>False) n k l m λd B A ac t1 ad ae q f=>f.elim)
 .refine TT (ni (Q:=λd t g=>b3 i d t g _) j e n c k l m λd t B z af C D E F q G f=>n2 (V:=V) (s:={s with heap:=C,toks:=D}) h.WP h.Zj E q G f ?_) (vI c o);intro H K g c M N P R S;refine az (vF (I:=I) (s:=s) y H K g c M N (F.WF P) R S) λb T e=>?_;obtain rfl:=T;exact QF e
theorem j6(c:(aa->ab->Prop)->Prop){d e:ab->Prop}(f:c λb a=>cd b (d a) (e a)):c λb a=>match b with
|.g g=>(match g with|true=>d a|false=>e a)
|_=>False:=by unfold cd at f;exact f
theorem IA(m:bs I V p r):bs I V p (.M r):=λ{w x y n z s Q o q} c t u v f=>j0 (y:=bK I V n o q s) c λA B C c=>by
 obtain rfl:=dZ (ax c);refine TW (m (Q:=λd g=>cd d (Q (.g J) g) (Q (.g L) g)) (ar c) t u v λh d i e j k l a b=>n5 (a:=λh=>ay e h d->_) b (λb a=>?_) (λb a=>?_) a);·obtain rfl:=a;exact not_value (QF (f (.g J) _ i e j k l rfl b))
 .obtain rfl:=a;exact not_value (QF (f (.g L) _ i e j k l rfl b))
theorem IC(k:b' I V p r):b' I V p (.M r):=λ{w x l m n s Q o q} a t u v c=>j0 (y:=gp I V m o q s) a λy z A a=>by
 obtain rfl:=dZ (ax a);refine wpAny_isTrue_Not (k (Q:=λb d=>match b with|true=>Q J d|false=>Q L d) (ar a) t u (j6 (au p r l n) v) λb e f g h i j=>?_);cases b;·exact c _ e f g h i j
 .exact c _ e f g h i j
theorem KR{d e:aL}(n:b' I V p r)(o:bs I V p d)(q:bs I V p e):bs I V p (.l r d e):=λ{y z f t u s Q v w} a g h x i=>q0 (y:=bK I V t v w s) a λb A B C a=>wpAny_IfExp (n (Q:=λb j=>match b with|true=>au p d f j Q|false=>au p e f j Q) (ax a) g h (j6 (au p r f u) x) λb D E k l c m=>by
 cases b;·exact q (ar (ar a)) l (h.WL (t1:=k) g c) m (i.W4 c)
 .exact o (ax (ar a)) l (h.WL (t1:=k) g c) m (i.W4 c))
theorem KT{e a:aL}(w:b' I V p r)(x:b' I V p e)(y:b' I V p a):b' I V p (.l r e a):=λ{E F f z A s Q B C} b g h D o=>q0 (y:=gp I V z B C s) b λc G H K b=>by
 delta gp;erw[arm_isTrue_IfExp];refine Pu (w (Q:=λc q=>match c with|true=>au p e f q _|false=>au p a f q _) (ax b) g h (j6 (au p r f A) D) λc M N t u d v=>?_);cases c;·exact y (ar (ar b)) u (h.WL (t1:=t) g d) v λa i j k l m n=>o a i j k l (d.WF m) n
 .exact x (ax (ar b)) u (h.WL (t1:=t) g d) v λa i j k l m n=>o a i j k l (d.WF m) n
theorem NN{l:aL}(D:bs I V p r)(x:bs I V p l):bs I V p (.V r l):=λ{P E y m F s Q f g} a n o G q=>by
 have z:∀{h:Po}{t:PD}{i:List (QC Pl)},bc I.Q I.P E r h=L->(∀{j d u},aA I j d->a1 ct F s.heap j d->au p l y j Q->Pq (Py I.r I.q) V (boolOp t .And i) f g {s with heap:=d,toks:=u})->i≠[]->Pq (Py I.r I.q) V (boolOp t .And (PW h m::i)) f g s:=λ{h t i} H K M=>by
  rcases i with _|⟨N,R⟩;·exact absurd rfl M
  .refine Pu (D (Q:=λv A=>cd v (au p l y A Q) (Q (.g J) A)) H n o G λw v j d u e c k b=>Pu (Qw (Pu (n5 (a:=λw=>ay d w v->_) b (λb k=>?_) (λb k=>?_) k))));·obtain rfl:=k;exact P7 (QF (K e c b))
   .obtain rfl:=k;exact P7 (QF (PH (q (.g J) _ j d u e c rfl b)))
 refine j3 (y:=bK I V m f g s) a λS vs B a=>?_;obtain rfl:=dZ (ax a);refine g_ (e:=λvs=>bK I V m f g s (.BoolOp .And vs B)) (ar a) λh C a=>g_ (e:=λC=>bK I V m f g s (.BoolOp .And (h::C) B)) a λN b a=>?_;rcases b with _|⟨T,w⟩;·exact z (ax a) (λe c b=>x (ar a) e (o.WU n c) b (q.W4 c)) (Tv _ _)
 .exact z (ax a) (λe c b=>x (ar a) e (o.WU n c) b (q.W4 c)) (Tv _ _)
theorem HG{l:aL}(D:bs I V p r)(x:bs I V p l):bs I V p (.YF r l):=λ{P E y m F s Q f g} a n o G q=>by
 have z:∀{h:Po}{t:PD}{i:List (QC Pl)},bc I.Q I.P E r h=L->(∀{j d u},aA I j d->a1 ct F s.heap j d->au p l y j Q->Pq (Py I.r I.q) V (boolOp t .Or i) f g {s with heap:=d,toks:=u})->i≠[]->Pq (Py I.r I.q) V (boolOp t .Or (PW h m::i)) f g s:=λ{h t i} H K M=>by
  rcases i with _|⟨N,R⟩;·exact absurd rfl M
  .refine Pu (D (Q:=λv A=>cd v (Q (.g L) A) (au p l y A Q)) H n o G λw v j d u e c k b=>Pu (Qw (Pu (n5 (a:=λw=>ay d w v->_) b (λb k=>?_) (λb k=>?_) k))));·obtain rfl:=k;exact P7 (QF (PH (q (.g L) _ j d u e c rfl b)))
   .obtain rfl:=k;exact P7 (QF (K e c b))
 refine j3 (y:=bK I V m f g s) a λS vs B a=>?_;obtain rfl:=dZ (ax a);refine g_ (e:=λvs=>bK I V m f g s (.BoolOp .Or vs B)) (ar a) λh C a=>g_ (e:=λC=>bK I V m f g s (.BoolOp .Or (h::C) B)) a λN b a=>?_;rcases b with _|⟨T,w⟩;·exact z (ax a) (λe c b=>x (ar a) e (o.WU n c) b (q.W4 c)) (Tv _ _)
 .exact z (ax a) (λe c b=>x (ar a) e (o.WU n c) b (q.W4 c)) (Tv _ _)
theorem NS{b:aL}(H:b' I V p r)(C:b' I V p b):b' I V p (.V r b):=λ{R K x i D s Q j k} a y z M n=>by
 have E:∀{l:Po}{A:List Po},bc I.Q I.P K r l=L->(∀{e f m},aA I e f->a1 ct D s.heap e f->au p b x e (λN o=>match N with|.g b=>Q b o|_=>False)->Pq (Py I.r I.q) V (Tc .And A i) j k {s with heap:=f,toks:=m})->Pq (Py I.r I.q) V (Tc .And (l::A) i) j k s:=λ{l A} P g=>by
  refine U_ (H (Q:=λB o=>match B with|true=>au p b x o _|false=>Q J o) P y z (j6 (au p r x D) M) λB e f m h c d=>?_);cases B;·exact n _ e f m h c d
  .exact g h c d
 refine j3 (y:=gp I V i j k s) a λS vs F a=>?_;obtain rfl:=dZ (ax a);refine g_ (e:=λvs=>gp I V i j k s (.BoolOp .And vs F)) (ar a) λl G a=>g_ (e:=λG=>gp I V i j k s (.BoolOp .And (l::G) F)) a λT d a=>?_;rcases d with _|⟨W,X⟩
 .refine S8 (E (ax a) λ{e f m} h c d=>U_ (C (ar a) h (z.WU y c) d λb q g t u v w=>?_));cases b;·exact n _ q g t u (c.WF v) w
  .exact wpAny_allTrue_And_nil (n _ q g t u (c.WF v) w)
 .exact S8 (E (ax a) λ{e f m} h c d=>C (ar a) h (z.WU y c) d λb q g t u v w=>n b q g t u (c.WF v) w)
theorem HH{b:aL}(H:b' I V p r)(C:b' I V p b):b' I V p (.YF r b):=λ{R K x i D s Q j k} a y z M n=>by
 have E:∀{l:Po}{A:List Po},bc I.Q I.P K r l=L->(∀{e f m},aA I e f->a1 ct D s.heap e f->au p b x e (λN o=>match N with|.g b=>Q b o|_=>False)->Pq (Py I.r I.q) V (Tc .Or A i) j k {s with heap:=f,toks:=m})->Pq (Py I.r I.q) V (Tc .Or (l::A) i) j k s:=λ{l A} P g=>by
  refine U9 (H (Q:=λB o=>match B with|true=>Q L o|false=>au p b x o _) P y z (j6 (au p r x D) M) λB e f m h c d=>?_);cases B;·exact g h c d
  .exact n _ e f m h c d
 refine j3 (y:=gp I V i j k s) a λS vs F a=>?_;obtain rfl:=dZ (ax a);refine g_ (e:=λvs=>gp I V i j k s (.BoolOp .Or vs F)) (ar a) λl G a=>g_ (e:=λG=>gp I V i j k s (.BoolOp .Or (l::G) F)) a λT d a=>?_;rcases d with _|⟨W,X⟩
 .refine S8 (E (ax a) λ{e f m} h c d=>U9 (C (ar a) h (z.WU y c) d λb q g t u v w=>?_));cases b;·exact wpAny_allTrue_Or_nil (n _ q g t u (c.WF v) w)
  .exact n _ q g t u (c.WF v) w
 .exact S8 (E (ax a) λ{e f m} h c d=>C (ar a) h (z.WU y c) d λb q g t u v w=>n b q g t u (c.WF v) w)
end
variable{us:List aa}
section
theorem MS{c:Q4}{h e:Po}{i f:R'}{n:PD}{d:Pl->Pn->Prop}(y:Pq c V (PW q x) (λo p=>Pq c V (PW h x) (λj r=>Pq c V (Re i o j) (λk t=>Pq c V (SB k) (λl m=>match l with
|true=>Pq c V (SF f e (PW e x)) (λu v=>Pq c V (Re f j u) g d v) d m
|false=>g k m) d t) d r) d p) d s):Pq c V (PW (.Compare q [i,f] [h,e] n) x) g d s:=by
 show Pq c V (do compareChain n (<-PW q x) [i,f] [PW h x,SF f e (PW e x)]) g d s;refine Pu (Qo y (λo p z=>Pu (P7 (Qo z (λj r A=>Pu (Qw (Pu (P7 (Qo A (λk t B=>Pu (S7 (Pu (P7 (Qo B (λl m w=>?_) λa a b=>b))))) λa a b=>b))))) λa a b=>b))) λa a b=>b);rcases l with _|_;·exact PH w
 .exact Pu (P7 (Qo w (λu v C=>Pu (Qw (TQ C))) λa a b=>b))
theorem Fq{c:Q4}{h d:Po}{i e:R'}{k:PD}{j:Bool->Pn->Prop}(z:Pq c V (PW q x) (λo p=>Pq c V (PW h x) (λl r=>Pq c V (Re i o l) (λf t=>Pq c V (SB f) (λm n=>match m with
|true=>Pq c V (SF e d (PW d x)) (λu v=>Pq c V (Re e l u) (λf w=>Pq c V (SB f) j g w) g v) g n
|false=>j J n) g t) g r) g p) g s):Pq c V (Rp (.Compare q [i,e] [h,d] k) x (PW (.Compare q [i,e] [h,d] k) x)) j g s:=by
 show Pq c V (do testChain k (<-PW q x) [i,e] [PW h x,SF e d (PW d x)]) j g s;refine Pu (Qo z (λo p A=>Pu (P7 (Qo A (λl r B=>Pu (Qw (Pu (P7 (Qo B (λf t C=>Pu (S7 (Pu (P7 (Qo C (λm n y=>?_) λa a b=>b))))) λa a b=>b))))) λa a b=>b))) λa a b=>b);rcases m with _|_;·exact PH y
 .exact Pu (P7 (Qo y (λu v D=>Pu (Qw (Pu (TQ (Qo D (λf w E=>P7 E) λa a b=>b))))) λa a b=>b))
theorem x'(e:bW I V p a){d:el}(m:bs I V p r){f:Pl->Pn->Prop}(h:bc I.Q I.P B r q=L)(i:aA I b s.heap)(t:bz I B N x b s.heap)(u:ay s.heap o n)(j:au p r N b λc v=>b3 d o c v Q)(w:aS I b s Q g):Pq (Py I.r I.q) V (SF (gB d) q (PW q x)) (λc y=>Pq (Py I.r I.q) V (Re (gB d) n c) g f y) f s:=by
 by_cases k:r=.D;·subst k;exact Pz j
 .erw[markedBehindIn_of_false (vI h k)];exact m h i t j λc E F z t1 A l C D=>n2 (V:=V) (s:={s with heap:=z,toks:=t1}) e.WP e.Zj A (u.WU i es l) C D (w.W4 l)
theorem DD{d:Pr->Option cC}{e:Nat->Option Pr}{i j:el}{l m:aL}(a:bc d e B (.Y7 i j r l m) q=L)(k:∀b f g c,bc d e B r b=L->bc d e B l f=L->bc d e B m g=L->y (.Compare b [gB i,gB j] [f,g] c)):y q:=hS a λb n h c a=>qX (e:=λn=>y (.Compare b n h c)) a λo p a=>qX (e:=λh=>y (.Compare b [o,p] h c)) a λf g a=>by obtain rfl:=dZ (ax (ax a));obtain rfl:=dZ (ar (ax a));exact k b f g c (ax (ar a)) (ax (ar (ar a))) (ar (ar (ar a)))
theorem M3(f:bW I V p a){l m:el}{n g:aL}(B:bs I V p r)(C:bs I V p n)(D:bs I V p g):bs I V p (.Y7 l m r n g):=λ{o ab E F ac s Q G H} K q t M u=>DD (y:=bK I V F G H s) K λad ae N af P R S=>by
 refine MS (ni (Q:=λv h i=>b3 l v h i λd w=>cd d (au p g E w λx T=>b3 m h x T Q) (Q (.g J) w)) B C P R q t M λv h x N ag W X j k Y y Z=>n2 (V:=V) (s:={s with heap:=W,toks:=X}) f.WP f.Zj j Y y Z λd o i z aa A e b c=>n5 (a:=λd=>ay z d o->_) c (λc b=>?_) (λc b=>?_) b);·obtain rfl:=b;exact QF (x' f D S A ((t.WU q k).WU j e) (y.WU j es e) c (u.W4 (k.WF e)))
 .obtain rfl:=b;exact QF (u (.g J) _ i z aa A (k.WF e) rfl c)
theorem M4(j:bW I V p a){q t:el}{u d:aL}(C:bs I V p r)(D:bs I V p u)(k:bs I V p d):b' I V p (.Y7 q t r u d):=λ{e ah E F ai s Q G H} K v w M x=>DD (y:=gp I V F G H s) K λaj al N am P R S=>by
 refine Fq (ni (Q:=λf l m=>b3 q f l m λg h=>cd g (au p d E h λy T=>b3 t l y T _) (Q J h)) C D P R v w M λf l y N an W X n o Y z Z=>n2 (V:=V) (s:={s with heap:=W,toks:=X}) j.WP j.Zj n Y z Z λg e m A aa B i b c=>n5 (a:=λg=>ay A g e->_) c (λc b=>?_) (λc b=>?_) b);·obtain rfl:=b;refine QF ?_;·refine x' j k S B ((w.WU v o).WU n i) (z.WU n es i) c λf e h ab ac ad ae b af=>?_;refine az (vF (I:=I) (s:=s) x f e h ab ac ad ((o.WF i).WF ae) b af) λd ag k=>?_;obtain rfl:=ag;exact QF k
 .obtain rfl:=b;exact QF (x _ m A aa B (o.WF i) c)
theorem qB(b:ay m o n):(n==Value.none)=b1 o:=by cases o<;>first
 |obtain rfl:=b;rfl
 |obtain⟨d,rfl⟩:=b;rfl
 |refine d7 b λa a a c a=>?_;obtain rfl:=c;rfl
 |refine wf b λa a a a c a=>?_;obtain rfl:=c;rfl
theorem qd{f:Po->Bool}{j:R'}(b:k5 (λa d c=>ev (λe=>ev (λg=>Ps (e=j)&&(j2 (λi=>Ps (i=.none)) g&&f a)) c) d) q=L)(k:∀a l m h,f a=L->y (.Compare a [j] [.Constant .none l m] h)):y q:=hS (e:=λa d c=>ev (λe=>ev (λg=>Ps (e=j)&&(j2 (λi=>Ps (i=.none)) g&&f a)) c) d) b λa d c h b=>g9 (e:=λd=>y (.Compare a d c h)) b λe b=>g9 (e:=λc=>y (.Compare a [e] c h)) b λg b=>by obtain rfl:=dZ (ax b);exact me (y:=λg=>y (.Compare a [e] [g] h)) (ax (ar b)) λi l m n=>by obtain rfl:=dZ n;exact k a l m h (ar (ar b))
theorem K_(e:bs I V p r):bs I V p (.Zn r):=λ{u f v g w s Q h i} a j k l m=>qd (f:=bc I.Q I.P f r) (y:=bK I V g h i s) a λx y z d a=>TZ (e (Q:=λb c=>Q (.g (b1 b)) c) a j k l λb A c n t1 o q t d=>SA (is_none (by erw[qB t];exact m (.g (b1 b)) _ c n t1 o q rfl d))) rfl
theorem K8(e:bs I V p r):bs I V p (.Zy r):=λ{u f v g w s Q h i} a j k l m=>qd (f:=bc I.Q I.P f r) (y:=bK I V g h i s) a λx y z d a=>TZ (e (Q:=λb c=>Q (.g (!b1 b)) c) a j k l λb A c n t1 o q t d=>SA (isNot_none (by erw[qB t];exact m (.g (!b1 b)) _ c n t1 o q rfl d))) rfl
noncomputable def p2:Po->Bool|.UnaryOp .Not _ _=>J|.BoolOp ..=>J|.IfExp ..=>J|.Compare ..=>J|_=>L
theorem K5{b:QC Pl}(a:p2 q=L):Rp q x b=(do let c<-b;standAt q.pos;holding [c] (SB c)):=by cases q with
 |UnaryOp d e f=>cases d<;>first|rfl|injection a
 |BoolOp=>injection a
 |IfExp=>injection a
 |Compare=>injection a
 |_=>rfl
theorem b'.Xg(d:bs I V p r)(e:∀b a,bc I.Q I.P b r a=L->p2 a=L):b' I V p r:=λ{a b j k l s Q m n} c f g h i=>Fl (d c f g h (vF i)) (K5 (e b a c))
theorem K'(e:bs I V p r):b' I V p (.Zn r):=λ{u f v g w s Q h i} a j k l m=>qd (f:=bc I.Q I.P f r) (y:=gp I V g h i s) a λx y z c a=>TT (e (Q:=λd b=>Q (b1 d) b) a j k l λd A b n t1 o q t c=>SA (is_none (by erw[qB t];exact QF (m _ b n t1 o q c)))) rfl
theorem K9(e:bs I V p r):b' I V p (.Zy r):=λ{u f v g w s Q h i} a j k l m=>qd (f:=bc I.Q I.P f r) (y:=gp I V g h i s) a λx y z c a=>TT (e (Q:=λd b=>Q (!b1 d) b) a j k l λd A b n t1 o q t c=>SA (isNot_none (by erw[qB t];exact QF (m _ b n t1 o q c)))) rfl
theorem ud:gU I V p .e:=λ{xs f g h a s Q i j k} b c l d e=>by obtain rfl:=Qk.mp b;exact wpAny_items_nil (e [] [] a s.heap s.toks c (a1.WZ _ _ _) trivial d)
theorem nk{a:List Po}(b:hB q=L):Q9 (q::a) x=(J,PW q x)::Q9 a x:=by cases q<;>first|rfl|injection b
theorem Dw{b:di}(l:bs I V p r)(m:gU I V p b):gU I V p (.c r b):=λ{xs E n o F s Q q t u} a e f v w=>g_ (e:=λxs=>Pq (Py I.r I.q) V (spliced (RD u (Q9 xs o))) q t s) a λG g a=>TS (l (Q:=λc h=>dF p b n h λvs d=>Q (c::vs) d) (ax (ar a)) e f v λx c h H t1 i j y g=>m (ar (ar a)) i (f.WL (t1:=t1) e j) g λus vs d z A B k C D=>w (x::us) (c::vs) d z A B (j.WF k) ⟨y.WU i es k,C⟩ D) (nk (ax a))
theorem z5{a:di}:∀{xs:List Po}{c:bw}{d:PD}{e:PI},gH I.Q I.P c a xs=L->(RD d (Q9 xs e)).any (·.1)=J:=by intro xs;induction xs generalizing a with
 |nil=>intros;rfl
 |cons f g h=>
  intro c d e b;rcases a with _|⟨i,a⟩;·exact c4 b
  .have b:(hB f&&(bc I.Q I.P c i f&&gH I.Q I.P c a g))=L:=b;erw[nk (ax b)];show(J||(RD d (Q9 g e)).any (·.1))=J;erw[h (ar (ar b))];rfl
theorem pI{vs:List Pl}(a:aZ m us vs)(b:us.length<=100):vs.length<=PV:=by erw[Qd];erw[<-a.Xd];exact PO b (Pp rfl)
theorem x7{d:di}(f:gU I V p d):bs I V p (.h d):=λ{t u v g w s Q h i} a j k l m=>by
 refine hP (y:=bK I V g h i s) a λxs x y a=>?_
 .refine TX (f (Q:=λvs e=>vs.length<=100/\Q (.h vs) e) a j k l λus vs e n t1 o q b c=>⟨?_,?_⟩);·exact pI b c.1
  .have r:vs.toArray.size<=PV:=pI b c.1;exact aS.XS (s:={s with heap:=n,toks:=t1}) o (m.W4 q) r b c.2
theorem Bc{f:di}(g:gU I V p f):bs I V p (.x f):=λ{u v w h x s Q i j} a k l m n=>by
 refine qZ (y:=bK I V h i j s) a λxs y a=>?_
 .refine wpAny_List (g (Q:=λvs b=>vs.length<=100/\∀c,b c=U->Q (.b c) (am b c (.WE vs))) a k l m λus vs b o t1 q r d e=>⟨?_,?_⟩);·exact pI d e.1
  .have t:vs.toArray.size<=PV:=pI d e.1;exact aS.XG (s:={s with heap:=o,toks:=t1}) q (n.W4 r) t d e.2
theorem Dr:bs I V p .ZH:=λ{h i j b k s Q c d} a e l f g=>by refine q1 (y:=bK I V b c d s) a λm vs n a=>?_;·obtain rfl:=Qk.mp (ax a);obtain rfl:=Qk.mp (ar a);delta bK;erw[eval_Dict_empty];refine Pu (Qw ?_);unfold newDict;exact TR (aS.XT (h:=s.toks) e g (c:=[]) (by erw[Qd];exact QD _) .e (cY _) (e9 _) (Heap.DictOf.new s.heap) f) (by size_fits)
end
section
abbrev rt(I:aB)(f:Pl):Prop:=∀a,I.YS.In a->∃k,(k=Keeper.frame\/k=Keeper.machine\/k=Keeper.boundFrame)/\Looks (Py I.r I.q) a (keeperOf f) k
theorem jU{f:Pl}(a:∀b,f≠.ref b):rt I f:=λc c=>⟨.machine,.inr (.inl rfl),by
 have:keeperOf f=PN .machine:=by cases f<;>first|rfl|exact absurd rfl (a _)
 erw[this];exact .now⟩
theorem qV(n:bW I V p a){c:di}(w:gU I V p c){f:Pl}{j:List Pl}{xs:List Po}{Q:List aa->ab->Prop}{i:Pl->Pn->Prop}{k:PD}(y:rt I f)(e:gH I.Q I.P B c xs=L)(l:aA I b s.heap)(z:bz I B N x b s.heap)(o:dF p c N b Q)(q:∀us vs h d m,aA I h d->a1 ct b s.heap h d->aZ d us vs->Q us h->Pq (Py I.r I.q) V (Qb f (j++vs)) g i {s with heap:=d,toks:=m}):Pq (Py I.r I.q) V (callWith k f j (RD k (Q9 xs x)) []) g i s:=by
 refine callWith_of (P:=I.YS.In) (by erw[z5 e];rfl) y ?_;have r:Pq (Py I.r I.q) V (spliced (RD k (Q9 xs x))) (λvs t=>I.YS.In t.heap/\Pq (Py I.r I.q) V (Qb f (j++vs)) g i t) i s:=w e l z o λus vs h d m u A C v=>⟨n.WP.H.keeps u.WQ,q us vs h d m u A C v⟩;rcases xs with _|⟨D,v⟩
 .rcases c with _|⟨E,c⟩;·exact evalArgs_nil3 ⟨n.WP.H.keeps l.WQ,q [] [] b s.heap s.toks l (a1.WZ _ _ _) trivial o⟩
  .exact c4 e
 .have F:hB D=L:=by
   rcases c with _|⟨E,c⟩;·exact c4 e
   .exact ax e
  rw[nk F]at r⊢;exact evalArgs_plain r
theorem ug(k:bW I V p a){h:di}(q:gU I V p h){r t:PD}{xs:List Po}{i:cC}{Q:List aa->ab->Prop}{l:Pl->Pn->Prop}(u:fD I.Q B M=O i)(v:∀d,my I i d->rt I d)(w:gH I.Q I.P B h xs=L)(m:aA I b s.heap)(n:bz I B N x b s.heap)(y:dF p h N b Q)(z:∀f us vs e c j,my I i f->aA I e c->a1 ct b s.heap e c->aZ c us vs->Q us e->Pq (Py I.r I.q) V (Qb f vs) g l {s with heap:=c,toks:=j}):Pq (Py I.r I.q) V (PW (.Call (.Name M r) xs [] t) x) g l s:=by erw[T7];exact Pu (jX k u m n λd o=>qV k q (j:=[]) (v d o) w m n y λus vs e c j A C D E=>z d us vs e c j o A C D E)
theorem DE(c:bW I V p a){e:di}(i:gU I V p e):bs I V p (.k f e):=λ{z A B j C s Q k l} b m n o q=>fn (y:=bK I V j k l s) b λD g xs E b=>by
 have h:=LR (ax b);refine ug (Q:=λvs r=>p.k f vs r Q) c i h (λt d=>?_) (ar b) m n o λt us vs F u v d w x y g=>?_;·obtain rfl:=d;exact keeps_K (c.v? _ _ (u3 h).2.2)
 .obtain rfl:=d;exact c.q? (s:={s with heap:=u,toks:=v}) w y g (q.W4 x)
theorem AT(d:bW I V p a){i:di}(n:gU I V p i):bs I V p (.WH l i):=λ{D E F o G s Q q r} c e t u v=>fn (y:=bK I V o q r s) c λH j xs K c=>by
 have k:=LU (ax c);have m:=(u3 k).2.2;refine ug (Q:=λvs f=>∀b g,f b=U->f g=U->b≠g->p.k (p.Zv l) (.b b::vs) (am f b (.WO l g [])) λe w=>nv e (Q (.b b) w)) d n k (λx h=>?_) (ar c) e t u λx us vs M y z h A B C j=>?_;·obtain rfl:=h;exact keeps_K (d.y? _ _ m)
 .obtain rfl:=h;exact d.n? (s:={s with heap:=y,toks:=z}) m A C j (v.W4 B)
theorem DK(b:bW I V p a){d:fJ}{f:di}(h:gU I V p f):bs I V p (.o d f):=λ{z A B i C s Q j k} c l m n o=>fn (y:=bK I V i j k s) c λD g xs E c=>by
 refine ug (Q:=λvs q=>cz d vs q Q) b h (u6 (ax c)) (λr e=>?_) (ar c) l m n λr us vs F t u e v w x g=>?_;·obtain rfl:=e;exact jU λG y=>by cases d<;>injection y
 .obtain rfl:=e;exact Nu (s:={s with heap:=t,toks:=u}) b.WP b.B? b.Zj v x g (o.W4 w)
theorem Lv{b:cC}{c:ei}(a:l7 b=O c)(d:my I b n):v3 m c n:=by induction b with
 |o e=>cases e<;>first
  |injection a with a;subst a;exact d
  |injection a
 |Zx f=>cases f<;>first
  |injection a with a;subst a;exact d
  |injection a
 |_=>injection a
theorem LO{b:ei}{c:Option cC}(d:d0 (C0 b) c=L)(k:∀a,c=O a->l7 a=O b->z):z:=hQ (e:=λc=>(∀a,c=O a->l7 a=O b->z)->z) d (λa d k=>k a rfl (hQ (d:=λe=>PX b.Xi e.Xi) (c:=l7 a) (e:=λc=>c=O b) (show d0 (λe=>PX b.Xi e.Xi) (l7 a)=L from d) λe d=>congrArg O (x3 d).symm)) k
theorem K7{a:ei}(b:CB a=L):a=.Zq:=x3 (b:=.Zq) b
theorem I4(j:bW I V p a){r:ei}{e:Pl->Pn->Prop}(y:uo I.Q B r q=L)(k:aA I b s.heap)(l:bz I B N x b s.heap)(t:∀d m z,(∀u v,s.heap.get? u=O v->m.get? u=O v)->v3 m r d->g d {s with heap:=m,toks:=z}):Pq (Py I.r I.q) V (PW q x) g e s:=gP y (λc=>eS (y:=bK I V x g e s) c λf h c=>LO c λH A n=>jX j A k l λd o=>t d s.heap s.toks (λC C D=>D) (Lv n o)) λc=>hP (y:=bK I V x g e s) c λw d h c=>by obtain rfl:=K7 (ax c);refine qX (e:=λw=>bK I V x g e s (.Tuple w d h)) (ar c) λf i c=>eS (y:=λf=>bK I V x g e s (.Tuple [f,i] d h)) (ax c) λf E F=>eS (y:=λi=>bK I V x g e s (.Tuple [.Name f E,i] d h)) (ar c) λi K G=>TX (TS (jX j (u6 F) k l λd o=>TS (jX j (u6 G) k l λM n=>wpAny_items_nil ?_)));obtain rfl:=o;obtain rfl:=n;exact⟨by erw[Qd];decide,t _ _ s.toks (cY _) ⟨_,rfl,Qu _ rfl⟩⟩
abbrev EE(a:Po):Prop:=hB a=L
theorem I3{c:Pr->Option cC}{d:ei}(b:uo c B d q=L):hB q=L:=gP b (λb=>eS (y:=EE) b λa a a=>rfl) λb=>hP (y:=EE) b λa a a a=>rfl
theorem Cz(g:bW I V p a){j:ei}(z:bs I V p r):bs I V p (.YU r j):=λ{R S T c W s Q l m} b h i A B=>fn (y:=bK I V c l m s) b λC d xs D b=>qX (e:=λxs=>bK I V c l m s (.Call (.Name C d) xs [] D)) b λn o b=>by
 have E:=ax (ar b);have q:=ar (ar (ar b));delta bK;erw[T7];refine Pu (jX g (LP (ax b)) h i λF G=>?_);obtain rfl:=G;have t:Q9 [n,o] c=[(J,PW n c),(J,PW o c)]:=by erw[nk E,nk (I3 q)];rfl
 refine callWith_of (P:=I.YS.In) (by erw[t];rfl) (jU λX r=>by injection r) ?_;erw[t];refine evalArgs_plain (Calls.spliced_cons (z (Q:=λu e=>aP (hI j u e) λf=>Q (.g f) e) (ax (ar (ar b))) h i A λF u e Y t1 v w H d=>Calls.spliced_cons (I4 g q v (i.WL (t1:=t1) h w) λZ x K k M=>Calls.spliced_nil ?_)));have y:aA I e x:=v.W' k;exact⟨g.WP.H.keeps y.WQ,cm (c:=λf=>Q (.g f) e) d λf N d=>KV (s:={s with heap:=x,toks:=K}) y (H.WR k) M N d (B.W4 (w.WF (a1.W' k)))⟩
theorem vM{a:QC Pl}(b:nx q=L):attributeBase q M x a=a:=by cases q<;>first|rfl|injection b
theorem rl(a:mp I.P l M=L):I.P l=O M:=by unfold mp at a;exact P5 a
theorem Et(c:bW I V p a)(f:bs I V p r):bs I V p (.n r l):=λ{F G H g K s Q h i} b j k m n=>j4 (y:=bK I V g h i s) b λM N P b=>by delta bK;erw[arm_eval_Attribute,vM (ax (ar b))];exact Pu (f (Q:=λd e=>dB p d l e Q) (ar (ar b)) j k m λR d e o t1 q t u v=>Pu (Qw (Pu (P7 (Es (s:={s with heap:=o,toks:=t1}) c.WP c.E? q u (rl (ax b)) v λw x y z A B C D E=>Pu (U4 (PH (n w x y z A B (t.WF C) D E))))))))
theorem Fo(i:bW I V p a){h:hc}{f:Pl}(c:hD p o l b=O h)(g:v4 I h f t):rt I f:=by induction h with
 |C r e=>
  obtain⟨rfl,rfl⟩:=g;rcases o with _|_|_|_|_|⟨_,_⟩|m;·exact aU c
  .exact aU c
  .exact aU c
  .exact aU c
  .exact aU c
  .exact aU c
  .refine az (Rr.mp (show(b m).bind _=O _ from c)) λn s c=>?_;rcases n with xs|⟨h,u⟩|⟨q,v,w⟩|_
   .rcases l with _|_|_|_;·injection c with c;injection c
    .injection c with c;injection c
    .injection c with c;injection c
    .exact aU c
   .by_cases j:l=3;·have c:=(if_pos j).symm.trans c;injection c with c;injection c
    .exact aU ((if_neg j).symm.trans c)
   .refine az (Q2.mp (show(p.Zp q l).map _=O _ from c)) λf k d=>?_;injection d with d;subst d;rw[i.D?]at k;exact keeps_K (i.x? _ _ _ k)
   .exact aU c
 |W9 e=>obtain⟨rfl,rfl⟩:=g;exact jU λe d=>by injection d
 |Z4 e=>obtain⟨rfl,rfl⟩:=g;exact jU λe d=>by injection d
 |ZU e=>obtain⟨rfl,rfl⟩:=g;exact jU λe d=>by injection d
 |Xa e=>obtain⟨rfl,rfl⟩:=g;exact jU λe d=>by injection d
theorem A3(c:bW I V p a){i:di}(B:bs I V p r)(C:gU I V p i):bs I V p (.N r l i):=λ{j ae n d af s Q o q} b t u D E=>by
 refine mf (y:=bK I V d o q s) b λf xs ah e b=>?_;obtain rfl:=Qk.mp (ax b);refine j4 (y:=λf=>bK I V d o q s (.Call f xs [] e)) (ar b) λF ai G b=>?_;have H:=ax (ar b);have v:=ar (ar (ar b));have K:=ax (ar (ax b));have M:=dZ (ar (ar (ax b)));delta bK;erw[arm_eval_Call,vM H];refine Pu (B (Q:=λw k=>aP (hD p w l k) λg=>dF p i n k λvs h=>dA p g vs h Q) (ax (ar (ar b))) t u D λaj w k N t1 x y P m=>Pu (Qw ?_));have R:methodCallForm (xs.length+([]:List Keyword).length) (RD e (Q9 xs d)) (backToKw e (keywordEach [] d))=L:=by
  unfold methodCallForm;have:=z5 (d:=e) (e:=d) v;have S:(RD e (Q9 xs d)).all (λj=>!j.1)=L:=by erw[<-Bool.not_eq_false',List.not_all_eq_any_not];simpa using this
  erw[S];simp only[TI];show(([]:List (Option Pr×QC Pl)).all (λj=>j.1.isSome)&&Ps (xs.length+0+(if([]:List (Option Pr×QC Pl)).isEmpty=L then 0 else 1)<30))=L;simp;exact a7 (a8 ag (.H 20)) (a8 ag (.H 30)) rfl M
 have T:methodCallPos L F d G e=PN e:=if_pos K;unfold methodCall;erw[R];refine cm (c:=λg=>dF p i n k λvs h=>dA p g vs h Q) m λg z m=>?_;·refine Pu (P7 (IY (s:={s with heap:=N,toks:=t1}) c.WP c.D? c.G? x P (rl (ax (ax b))) z λf W A X=>Pu (Sz T ?_)));subst X;exact qV (Q:=λvs h=>dA p g vs h Q) c C (j:=[.ref W]) (Fo c z A) v x (u.WL (t1:=t1) t y) m λus vs al Y Z aa ab ac ad=>IX (s:={s with heap:=Y,toks:=Z}) c.WP c.q? aa A ac ad (E.W4 (y.WF ab))
theorem tq{e:Po}{i:Pl}{b:Pl->Pn->Prop}(m:hd I V n i g b s):Pq (Py I.r I.q) V (getitemInPython n>>=λj=>subscripted e j n i>>=λa=>T2 q n a>>=λc=>PN a) g b s:=by
 refine cn m λv w o k p=>Pu ?_;erw[getitemInPython_of_ne k.not_modules];refine Pu (wpAny_specialOf k o ?_);have f:∀l,Pq (Py I.r I.q) V (operate l (getItem n i)) (λa d=>Pq (Py I.r I.q) V (T2 q n a>>=λc=>PN a) g b d) b s:=λl=>TQ (Qo p (λa d r=>Pu (U4 (PH r))) λc c t=>t);have h:Pq (Py I.r I.q) V (subscripted e J n i) (λa d=>Pq (Py I.r I.q) V (T2 q n a>>=λc=>PN a) g b d) b s:=by cases e with
  |Slice x y u j=>cases u with|none=>exact f _|some _=>exact f _
  |_=>exact f _
 first|exact PH (Pu h)|exact wpAny_bind (wpAny_pure (wpAny_bind h))|exact wpAny_bind h
theorem CK(n:bW I V p a){i:aL}(o:bs I V p r)(q:bs I V p i):bs I V p (.y r i):=λ{H K t u M s Q v w} b e f x y=>gO (y:=bK I V u v w s) b λN z P b=>by delta bK;erw[T4];exact Pu (o (Q:=λg h=>au p i t h λd c=>eN g d c Q) (ax (ar b)) e f x λd g h R t1 j k A B=>Pu (P7 (q (Q:=λl c=>eN d l c Q) (ar (ar b)) j (f.WL (t1:=t1) e k) B λl z c C D E m F G=>Pu (Qw (tq (Lk (s:={s with heap:=C,toks:=D}) n.WP E (A.WU j es m) F G (y.W4 (k.WF m))))))))
theorem Ac{e:gr}(q:∀f,e=.WI f->bs I V p f){h:Option Po}{Q:Option aa->ab->Prop}{k:Pl->Pn->Prop}(i:qk I.Q I.P B e h=L)(l:aA I b s.heap)(r:bz I B N x b s.heap)(m:f9 p e N b Q)(n:∀o a d c j,aA I d c->a1 ct b s.heap d c->jf c o a->Q o d->g a {s with heap:=c,toks:=j}):Pq (Py I.r I.q) V (evalPart h x) g k s:=by
 rcases e with _|f;·obtain rfl:=RH.mp i;exact PH (n U .none b s.heap s.toks l (a1.WZ _ _ _) rfl m)
 .exact hQ (e:=λh=>Pq (Py I.r I.q) V (evalPart h x) g k s) i λA i=>q f rfl (Q:=λa t=>Q (O a) t) i l r m λu a d c j v w y z=>n (O u) a d c j v w y z
theorem yS(D:bW I V p a){i f:gr}(E:bs I V p r)(F:∀b,i=.WI b->bs I V p b)(G:∀b,f=.WI b->bs I V p b):bs I V p (.Yv r i f):=λ{ac ad j n ae s Q o q} c t b H K=>by
 refine gO (y:=bK I V n o q s) c λM u N c=>DF (y:=λu=>bK I V n o q s (.Subscript M u N)) c λaf ag ah ai c=>?_;obtain rfl:=RH.mp (ax c);delta bK;erw[T4];refine Pu (E (Q:=λv w=>f9 p i j w λr g=>f9 p f j g λP d=>gz v r P d Q) (ax (ar c)) t b H λx v w aj t1 k y R S=>Pu (P7 (wpAny_Slice ?_)));have z:=b.WL (t1:=t1) t y;refine Ac (Q:=λe g=>f9 p f j g λh d=>gz x e h d Q) F (ax (ar (ar c))) k z S λe T g al am A l B W=>Ac (Q:=λh d=>gz x e h d Q) G (ar (ar (ar c))) A (z.WU k l) W λh an d C X Y m Z aa=>PH (Pu (Qw (tq ?_)));have ab:jf C e T:=by
  rcases e with _|ao;·exact B
  .exact ay.WU A es m B
 exact FO (s:={s with heap:=C,toks:=X}) D.WP Y (R.WU k es (l.WF m)) ab Z aa (K.W4 (y.WF (l.WF m)))
theorem Gn{e:Pl->Pn->Prop}{a:Tok}(l:aA I b s.heap)(m:ay s.heap o n)(c:kK o b Q)(p:aS I b s Q g):hd I V n (.ref s.heap.objs.size) g e {s with heap:=s.heap.push {cls:=.type "slice",data:=.fields #[.none,.none,.int (-1) a]}}:=by
 have k:=cY (m:=s.heap) {cls:=.type "slice",data:=.fields #[.none,.none,.int (-1) a]};have q:=Heap.IsSliceOf.new s.heap .none .none (.int (-1) a);have r:aS I b {s with heap:=s.heap.push {cls:=.type "slice",data:=.fields #[.none,.none,.int (-1) a]}} Q g:=p.W4 (t1:=s.toks) (a1.W' k);have f:aA I b (s.heap.push {cls:=.type "slice",data:=.fields #[.none,.none,.int (-1) a]}):=l.W' k;refine lY (d:=λh=>aP (b h) λn=>ea n λxs=>∀d,b d=U->Q (.b d) (am b d (.WE xs.reverse))) (a:=λn=>hd I V n (.ref s.heap.objs.size) g e {s with heap:=s.heap.push {cls:=.type "slice",data:=.fields #[.none,.none,.int (-1) a]}}) c m λh c=>hJ f c λxs u v c w i j t x=>fe ("list") _ T1.lookup ⟨_,i,rfl⟩ (U5 (hsz:=j) i.isList q .none .none (.int _ _) (by simp) ?_);erw[krv_pick];refine aS.XG f r ?_ ?_ c;·erw[RZ,Sn,RA];exact j
 .exact t.XJ
theorem zp(t:bW I V p a)(u:bs I V p r):bs I V p (.ZW r):=λ{M N P d R s Q e f} b h i v w=>by refine gO (y:=bK I V d e f s) b λj k l b=>DF (y:=λk=>bK I V d e f s (.Subscript j k l)) b λS T m x b=>?_;obtain rfl:=RH.mp (ax (ax b));obtain rfl:=RH.mp (ar (ax b));refine hQ (e:=λm=>bK I V d e f s (.Subscript j (.Slice U U m x) l)) (ax (ar b)) λW y=>?_;delta bK;erw[T4];refine Pu (u (Q:=λc g=>kK c g Q) (ar (ar b)) h i v λX c g z t1 n o A B=>Pu (P7 (wpAny_Slice (PH (PH ?_)))));have C:=i.WL (t1:=t1) h o;refine A' (Q:=λc D=>c=.a (-1)/\D=g) (s:={s with heap:=z,toks:=t1}) t y n C ⟨rfl,rfl⟩ λY Z aa E F G q H K=>?_;obtain⟨rfl,rfl⟩:=K;obtain⟨ab,rfl⟩:=H;exact Pu (Qw (tq (Gn (s:={s with heap:=E,toks:=F}) G (A.WU n es q) B (w.W4 (o.WF q)))))
end
section
theorem aA.XY{d:ca}(h:aA I b m)(p:¬cI b t)(q:I.YQ.get? t=U)(r:iy I m t d)(k:∀e i g,d≠.WO e i g):aA I (am b t d) m:=by
 refine⟨h.WQ,λc s f=>?_,λc f=>?_,λc e i g f=>?_⟩
 .by_cases a:c=t;·subst a;rw[er]at f;injection f with f;subst f;exact r
  .rw[cx b d a]at f;exact h.Y2 c s f
 .rcases f with f|⟨l,e,g,f⟩
  .by_cases a:c=t;·subst a;exact q
   .rw[cx b d a]at f;exact h.WT c (.inl f)
  .by_cases a:l=t;·subst a;rw[er]at f;exact absurd (PS f) (k _ _ _)
   .rw[cx b d a]at f;exact h.WT c (.inr ⟨l,e,g,f⟩)
 .by_cases a:c=t;·subst a;rw[er]at f;exact absurd (PS f) (k _ _ _)
  .rw[cx b d a]at f;obtain⟨u,v⟩:=h.Y4 c e i g f;have w:i≠t:=λx=>p (.inr ⟨c,e,g,by erw[<-x];exact f⟩);refine⟨by erw[cx b d w];exact u,λn y z j=>?_⟩;by_cases o:n=t;·subst o;rw[er]at j;exact absurd (PS j) (k _ _ _)
   .rw[cx b d o]at j;exact v n y z j
theorem a1.XY{i:Pv}{c:ca}(d:a1 H b m T i)(k:m.get? t=U)(l:∀e n g,c≠.WO e n g):a1 H b m (am T t c) i:=⟨d.WQ,(λh f=>by
 rcases f with f|⟨j,e,g,f⟩
 .by_cases a:h=t;·subst a;exact .inr k
  .rw[cx T c a]at f;exact d.WG h (.inl f)
 .by_cases a:j=t;·subst a;rw[er]at f;exact absurd (PS f) (l _ _ _)
  .rw[cx T c a]at f;exact d.WG h (.inr ⟨j,e,g,f⟩)),d.Zs⟩
theorem a1.W7{h i:Pv}(k:∀a c,m.get? a=O c->h.get? a=O c)(g:a1 H b h T i)(j:∀a,H a->m.get? a=U):a1 ct b m T i:=by
 refine⟨λa c d l o=>g.WQ a c (k a c d) l λn=>(by rw[j a n]at d;injection d),λa f=>?_,λa c d=>g.Zs a c (k a c d)⟩;rcases g.WG a f with e|e;·exact .inl e
 .right;rcases d:m.get? a with _|c;·rfl
  .rw[k a c d]at e;injection e
theorem bz.X0{j:Pv}(d:bz I B N x b m)(y:aA I b m)(z:gn H m)(n:a1 H b m T j)(A:∀c,dw x c->¬H c):bz I B N x T j:=by
 have v:∀o p,ay m o p->ay j o p:=λo p g=>g.WU y z n;have q:∀c e,dw x c->m.get? c=O e->j.get? c=O e:=λc e i C=>n.WQ c e C (d.Xb c i).1 (A c i);refine⟨d.Z,d.Y1,d.ZY,d.ZM,?_,?_,λc i=>?_,d.WJ,d.ZS,d.Y4⟩;·exact az d.e? λD r E=>h1 r λe F G h s K M=>⟨D,⟨e,F,G,q _ _ (.inl rfl) h,s,K,M⟩,λg k t u=>(E g k t u).W6 v⟩
 .exactλg k t u=>cn (d.Z0 g k t u) λP Q w r a=>az r λe h s=>fe P Q w ⟨e,q _ _ (.inr ⟨g,w⟩) h,s⟩ (a.W6 v)
 .obtain⟨f,R,e,h,S⟩:=d.Xb c i;refine⟨λV=>?_,R,e,q _ _ i h,S⟩;rcases n.WG c V with l|l;·exact f l
  .rw[h]at l;injection l
noncomputable def eR(b:List (Pr×Pw)):List (Pr×Rh)->List (Pr×Pw)->List (Pr×Pw)|[],a=>a|(d,k)::c,a=>if k==.free then match b.lookup d with|some e=>eR b c ((d,e)::a)|none=>eR b c a else eR b c a
theorem qQ{g:List (Pr×Pw)}:∀{i:List (Pr×Rh)}{h:List (Pr×Pw)},(∀b c,h.lookup b=O c->g.lookup b=O c)->∀b c,(eR g i h).lookup b=O c->g.lookup b=O c
|[],_,e,b,c,d=>e b c d
|(o,k)::j,h,e,b,c,d=>by
 unfold eR at d;split at d
 .split at d
  .rename_i p l;refine qQ (i:=j) (λm a f=>?_) b c d;rw[Qr]at f;split at f;·rename_i n;cases f;erw[P5 n];exact l
   .exact e m a f
  .exact qQ e b c d
 .exact qQ e b c d
theorem qS{d:List (Pr×Pw)}:∀{e:List (Pr×Rh)}{b:List (Pr×Pw)}{c:Pr},(b.lookup c).isSome=L->((eR d e b).lookup c).isSome=L
|[],_,_,a=>a
|(f,k)::g,b,c,a=>by
 unfold eR;split
 .split
  .refine qS ?_;erw[Qr];split;·rfl
   .exact a
  .exact qS a
 .exact qS a
theorem qR{d:List (Pr×Pw)}:∀{e:List (Pr×Rh)}{f:List (Pr×Pw)}{c:Pr},(c,NameKind.free)∈e->(d.lookup c).isSome=L->((eR d e f).lookup c).isSome=L
|[],_,_,a,_=>by simp at a
|(h,k)::i,f,c,a,b=>by
 unfold eR;rcases PM.mp a with a|a
 .cases a;erw[if_pos (by rfl)];split;·refine qS ?_;erw[Qr,beq_self_eq_true];rfl
  .rename_i g;rw[g]at b;cases b
 .split
  .split;·exact qR a b
   .exact qR a b
  .exact qR a b
theorem M8{d:Qp}(o:∀a∈d.names,a.2=.free->(x.cells.lookup a.1).isSome=L):T5 d x=PN (eR x.cells d.names []):=by
 unfold T5;suffices∀(b:List (Pr×Rh))(e:List (Pr×Pw)),(∀a∈b,a.2=.free->(x.cells.lookup a.1).isSome=L)->(forIn b e λ(p:Pr×Rh) (f:List (Pr×Pw))=>(match p with|(j,q)=>if(q==.free)=L then do let g<-cellOf x j;PN (Sw ((j,g)::f))else PN (Sw f):QC (ForInStep (List (Pr×Pw)))))=PN (eR x.cells b e) by exact(congrArg (·>>=λs=>PN s) (this d.names [] o)).trans (pure_bind _ _)
 intro b;induction b with
 |nil=>intro e _;rfl
 |cons a f l=>
  intro e h;obtain⟨m,k⟩:=a;erw[Up];unfold eR;dsimp only;by_cases c:(k==NameKind.free)=L;·erw[if_pos c,if_pos c];have:=h (m,k) (QS ..) (P5 c);obtain⟨g,r⟩:=RG.mp this;have n:x.cells.lookup m=O g:=r;erw[n];unfold cellOf;erw[n];simp only[pure_bind];exact l _ λa i=>h a (PY _ i)
  .erw[if_neg c,if_neg c];simp only[pure_bind];exact l _ λa i=>h a (PY _ i)
structure mB(R:bw)(P:Qp)(S:Pr)(k:Nat):Prop where
 Y1:P.kind=.function
 V?:∀F∈P.names,F.2≠.cell
 d:P.names.lookup S=O .local
 W?:∀F∈P.names,F.2=.local->P.names.lookup F.1=O .local
 agy:∀F∈P.names,F.2=.free->R.Z.names.lookup F.1=O .cell/\(R.Zd.lookup F.1).isSome=L
 Zd:∀F∈R.Zd,F.1=S\/(F.2≠k/\(iZ P R.Z).names.lookup F.1≠O .local)
 YI:k<R.w
theorem MW{f:Qp}(a:vo B f M k=L):mB B f M k:=by unfold vo at a;simp only[Qc,Qi,TJ,beq_iff_eq,bne_iff_ne,decide_eq_true_eq]at a;obtain⟨⟨⟨⟨⟨⟨g,h⟩,i⟩,j⟩,l⟩,m⟩,n⟩:=a;exact⟨g,h,i,λb c d=>(j b c).resolve_left (λe=>e d),λb c d=>(l b c).resolve_left (λe=>e d),m,n⟩
theorem hF{b e:Type}[BEq b][LawfulBEq b]:∀{f:List (b×e)}{c:b}{d:e},f.lookup c=O d->(c,d)∈f
|[],_,_,a=>by simp at a
|(h,i)::j,c,d,a=>by
 rw[Qr]at a;split at a;·rename_i g;cases a;erw[P5 g];exact QS ..
 .exact PY _ (hF a)
theorem Gq{c d:Qp}(a:c.names.lookup M=O .local):(iZ c d).names.lookup M=O .local:=by unfold iZ;dsimp only;generalize c.names=e at a;induction e with
 |nil=>simp at a
 |cons f i g=>
  obtain⟨h,k⟩:=f;erw[Qj];rw[Qr]at a;rcases b:M==h with _|_;·rw[b]at a;have:=g a;split<;>(erw[Qr,b];exact this)
  .rw[b]at a;simp only[Option.some.injEq]at a;subst a;erw[if_neg (by simp)];erw[Qr,b];rfl
theorem Gr{b d:Qp}(h:∀c∈b.names,c.2≠.cell)(e:(iZ b d).names.lookup M=O .cell):(M,NameKind.free)∈b.names/\d.names.lookup M=O .cell:=by
 unfold iZ at e;have:=hF e;refine az (P'.mp this) λc f a=>?_;obtain⟨l,k⟩:=c;dsimp only at a;split at a;·rename_i g;simp only[Qc,beq_iff_eq]at g;injection a with a;subst a;obtain⟨⟨i,_⟩,j⟩:=g;subst i;exact⟨f,j⟩
 .cases a;exact absurd rfl (h _ f)
theorem bz.W1{i:Qp}(h:bz I B N x b m)(g:mB B i M k){p:Pr->Option Pl}(r:m.Ns t p)(y:p M=O n)(z:ay m o n)(s:¬cI b t/\I.YQ.get? t=U)(A:¬dw x t):bz I (g8 B i M k) (bD N k o) (SI i (eR x.cells i.names []) t x) b m:=by
 have l:∀e g,(eR x.cells i.names []).lookup e=O g->x.cells.lookup e=O g:=qQ (λu u c=>by simp at c);have C:k<N.length:=by erw[h.WJ];exact g.YI
 refine⟨?_,g.Y1,h.ZY,h.ZM,⟨p,r,λe q d f=>?_⟩,λe q d f=>?_,λD c=>?_,by erw[qr];exact h.WJ,λe E a d f=>h.ZS e E a (l _ _ d) (l _ _ f),λe c=>A (.inr ⟨e,l _ _ c⟩)⟩;·show S' i x=iZ i B.Z;unfold S' iZ S4;erw[h.Z];rfl
 .unfold g8 at d f;dsimp only at d f;by_cases c:e=M;·subst c;rw[Qr,beq_self_eq_true]at d;injection d with d;subst d;erw[qG _ _ _ C];exact⟨n,y,z⟩
  .rw[Qr,beq_false_of_ne c]at d;rcases g.Zd _ (hF d)with j|⟨_,j⟩;·exact absurd j c
   .exact absurd f j
 .unfold g8 at d f;dsimp only at d f;have c:e≠M:=λc=>by subst c;rw[Gq g.d]at f;cases f
  rw[Qr,beq_false_of_ne c]at d;obtain⟨F,G⟩:=Gr g.V? f;have H:q≠k:=by
   rcases g.Zd _ (hF d)with j|⟨j,_⟩;·exact absurd j c
   .exact j
  refine cn (h.Z0 e q d G) λK P v Q R=>?_;have S:=qR (f:=[]) F (by erw[v];rfl);obtain⟨X,w⟩:=RG.mp S;have:=l _ _ w;rw[v]at this;injection this with this;subst this;exact fe K P w Q (by erw[l8 _ _ _ _ H];exact R)
 .rcases c with c|⟨e,c⟩;·subst c;exact jh r λT Y Z V W u=>⟨s.1,s.2,T,V,.WN W⟩
  .exact h.Xb D (.inr ⟨e,l _ _ c⟩)
end
section
def og(I:aB)(b:bw)(a:aL):List Po->Prop|[]=>a=.f (.g L)|[c]=>bc I.Q I.P b a c=L|_=>False
theorem Li(n:b' I V p r){h:List Po}{Q:Bool->ab->Prop}{k:Bool->Pn->Prop}(c:og I B r h)(d:aA I b s.heap)(o:bz I B N x b s.heap)(l:au p r N b (λq t=>match q with|.g a=>Q a t|_=>False))(m:∀a e f i,aA I e f->a1 ct b s.heap e f->Q a e->k a {s with heap:=f,toks:=i}):Pq (Py I.r I.q) V (forIn h L λj d=>if d=L then do let u<-Rp j x (PW j x);PN (Sw u)else PN (Sw d)) k g s:=by match h,c with
 |[],c=>obtain rfl:r=.f (.g L):=c;exact PH (m L b s.heap s.toks d (a1.WZ _ _ _) l)
 |[j],c=>erw[Up];exact Pu (Pu (n c d o l λa e f i v w y=>PH (PH (m a e f i v w y))))
theorem dX.Yi{m:PD}{k:dh}{j:Nat->Pv->Prop}(t:dX I V (.Name M m) H n k w j){l:Option Pl->Pn->Prop}(u:j i s.heap)(c:aA I b s.heap)(v:k.WP b)(x:w[i]?=O o)(y:∀d,H d->¬cI b d/\I.YQ.get? d=U)(z:∀a h A,ay h o a->j (i+1) h->(∀d p,¬H d->s.heap.get? d=O p->h.get? d=O p)->l (O a) {s with heap:=h,toks:=A}):Pq (Py I.r I.q) V (Rc n) l g s:=by
 have B:=t.Z6 (Q:=λa q=>l (O a) q) (g:=g) u c v x y z;have C:Rc n=Rc n>>=λc=>(match c with|none=>PN U|some a=>SG (.Name M m) n a>>=λe=>PN (O a):QC (Option Pl)):=by
  conv=>lhs;rw[<-bind_pure (Rc n)]
  congr 1;funext c;rcases c with _|a;·rfl
  .exact(pure_bind _ _).symm
 erw[C];refine Pu (Qo B (λc D r=>?_) λe e f=>f);rcases c with _|a;·exact r.elim
 .exact Pu (Qo r (λe q f=>PH f) λe e f=>f)
theorem Ag{c:Pw}{d:Pr->Option Pl}(e:gn H m)(f:m.Ns t d)(g:P4 m c D l):gn (λb=>H b\/b=t\/b=c) m:=λb a=>a.elim (e b) λa=>a.elim (λa=>by exact jh f λh k n i j o=>⟨h,a▸i,.WN j⟩) λa=>⟨_,a▸g,fw rfl (by decide) (by decide)⟩
theorem MX{i y:Po}{m:List Po}{z:Qp}{A:PD}{o:Pl}{p:RE->Pn->Prop}(f:Nat->(Pn->Prop)->Prop)(B:∀d (j:Pn->Prop) (g:Pl->Pn->Prop) k r l t,(∀e s,e<d->(∀b,f e b->b s)->j s)->(∀s,p (.ok .next) s->k U s)->(∀h s,Pq (Py I.r I.q) V (QB i x h) r g s->k (O h) s)->(∀C s,Pq (Py I.r I.q) V (forIn m L λu v=>if v=L then do let D<-Rp u x (PW u x);PN (Sw D)else PN (Sw v)) l g s->r C s)->(∀s,Pq (Py I.r I.q) V (PW q x) t g s->l L s)->(∀s,j s->l J s)->(∀w s,Pq (Py I.r I.q) V (Qb (.builtin "list.append") [o,w]) (λc s=>j s) g s->t w s)->f d λs=>Pq (Py I.r I.q) V (Rc n) k g s)(d:Nat)(a:∀b,f d b->b s)(E:∀h,SG i n h=PN ()):Rq (Py I.r I.q) V (.compLoop (.ListComp q [⟨i,y,m,0⟩] z A) 0 n o x) p s:=codeAny_compLoop_tests (λd s=>∀b,f d b->b s) (λd c F=>F _ (B d (λs=>∃e,e<d/\∀b,f e b->b s) _ _ _ _ _ (λe c G a=>⟨e,G,a⟩) (λc a=>a) (λc c a=>a) (λc c a=>a) (λc a=>a) (λc a=>a) (λc c a=>a))) d a E
theorem MV(cE:bW I V p a){ar:aL}(bS:b' I V p r)(bT:bs I V p ar){be:Po}{aM:List Po}{aP bf:PD}{C:Qp}{v:Pn}{h:Pw}{ac:Nat->Pv->Prop}{aR:dh}{bg:Pr->Option Pl}{T:List aa->ab->Prop}{aS:RE->Pn->Prop}(aT:mB B C M k)(bU:og I (g8 B C M k) r aM)(bV:bc I.Q I.P (g8 B C M k) ar q=L)(D:dX I V (.Name M aP) H n aR w ac)(bY:v6 I V n ac)(as:aA I b v.heap)(e:bz I B N x b v.heap)(aU:∀c g,v.heap.get? c=O g->m.get? c=O g)(ag:∀c,(H c\/c=t\/c=h)->v.heap.get? c=U)(aV:¬H t)(aW:¬H h)(bh:t≠h)(aX:ac 0 m)(bi:P4 m h #[] 0)(bj:m.Ns t bg)(av:w.length<=aJ)(bZ:dS (λW b Q=>au p r (bD N k W) b Q) (λW b Q=>au p ar (bD N k W) b Q) aR w b T)(b0:∀us u j ad y aw ae,aA I u j->a1 ct b v.heap u j->P4 j h y aw->y.size<=PV->aZ j us y.toList->j.Ns t ae->¬cI u h->¬cI u t->T us u->aS (.ok .next) {v with heap:=j,toks:=ad}):Rq (Py I.r I.q) V (.compStart (.ListComp q [⟨.Name M aP,be,aM,0⟩] C bf) 0 n (.ref h) (SI C (eR x.cells C.names []) t x)) aS {v with heap:=m,toks:=l}:=by
 have bk:aA I b m:=as.W' aU;have bl:Rq (Py I.r I.q) V (.compLoop (.ListComp q [⟨.Name M aP,be,aM,0⟩] C bf) 0 n (.ref h) (SI C (eR x.cells C.names []) t x)) aS {v with heap:=m,toks:=l}:=by
  refine MX (λaw b1=>∀i us u j ad y X ae,aw=w.length-i->i<=w.length->aA I u j->a1 (λc=>H c\/c=t\/c=h) b m u j->ac i j->P4 j h y X->aZ j us y.toList->y.size<=i->j.Ns t ae->dS (λW b Q=>au p r (bD N k W) b Q) (λW b Q=>au p ar (bD N k W) b Q) aR (w.drop i) u (λvs S=>T (us++vs) S)->b1 {v with heap:=j,toks:=ad}) ?_ w.length (λA k=>k 0 [] b m l #[] 0 bg rfl (QD _) bk (a1.WZ _ _ _) aX bi trivial (P2 _) bj bZ) λA=>rfl;intro aw cF cG cJ cK cL cM bm b2 b3 b4 b5 b6 b7 i us u j ad y X ae bn bo ah F ai aY bp ax a0 P;have bq:gn (λc=>H c\/c=t\/c=h) m:=Ag (D.WT 0 m aX) bj bi;have b8:gn (λc=>H c\/c=t\/c=h) j:=Ag (D.WT i j ai) a0 aY;have G:∀c,(H c\/c=t\/c=h)->¬cI u c/\I.YQ.get? c=U:=λc d=>by
   have a2:=ag c d;refine⟨λf=>?_,?_⟩
   .rcases F.WG c f with z|z;·exact as.Xx a2 z
    .refine az (bq c d) λg af A=>?_;rw[af]at z;injection z
   .rcases o:I.YQ.get? c with _|g;·rfl
    .rw[as.WQ c g o]at a2;injection a2
  have a3:∀c,dw x c->¬(H c\/c=t\/c=h):=λc d o=>by obtain⟨_,_,g,af,_⟩:=e.Xb c d;rw[ag c o]at af;injection af
  have b9:bz I B N x b m:=e.WU as (a1.W' aU);have b_:bz I B N x u j:=b9.X0 bk bq F a3;by_cases Y:i<w.length
  .have ca:w.drop i=w[i]::w.drop (i+1):=Sr Y;rw[ca]at P;obtain⟨cb,P⟩:=(P:_/\_);refine D.Yi (s:={v with heap:=j,toks:=ad}) ai ah cb (P8 Y) (λc d=>G c (.inl d)) (λcd Z t1 ce br E=>?_);refine b3 _ _ ?_;obtain⟨a4,a5⟩:=ah.XA (H:=H) (λc d=>⟨D.WT i j ai c d,G c (.inl d)⟩) E;have cf:P4 Z h y X:=E _ _ aW aY;have bt:Z.Ns t ae:=a0.at' λg e=>E _ g aV e;have ay:=G t (.inr (.inl rfl));have a6:=G h (.inr (.inr rfl));have cg:∀c g,¬(H c\/c=t\/c=h)->j.get? c=O g->Z.get? c=O g:=λc g d e=>E c g (λo=>d (.inl o)) e;refine S9 (UY (lookup_relabel_local aT.d) bt (λK aB aj=>jh bt λcN cO cP bu bv A=>?_) (by simp[SI,S',aT.Y1]));obtain⟨am,bx,bB⟩:=a4.XM bu (.WN bv) ay.1 ay.2 aj (d7 aB λaG A A a8 A=>⟨aG,a8⟩);have a9:a1 (λc=>H c\/c=t\/c=h) u j u K:=⟨λc g e bC aH=>(aj.2 c (λo=>aH (.inr (.inl o)))).trans (cg c g aH e),λc f=>.inl f,λc g e=>by
    by_cases o:H c;·exact az (D.WT (i+1) Z br c o) λch ci A=>bx.Zs c ch ci
    .exact bx.Zs c g (E c g o e)⟩;have bE:ac (i+1) K:=D.ZK _ _ _ br (λc g d e=>(aj.2 c (λ(o:c=t)=>aV (o▸d))).trans e) (ij (H:=λc=>c=t) (i4 bu (.WN bv)) λc g d e=>(aj.2 c d).trans e);have cj:bz I B N x u K:=b_.X0 ah b8 a9 a3;have bF:bz I (g8 B C M k) (bD N k w[i]) (SI C (eR x.cells C.names []) t x) u K:=cj.W1 aT (n:=cd) aB (if_pos rfl) (bB _ _ ce) ay λd=>a3 t d (.inr (.inl rfl));have a':P4 K h y X:=(aj.2 h (PB bh)).trans cf;have bG:aZ K us y.toList:=(bp.Xh a5).W6 bB;have bH:∀{an:ab}{ao:Pv}{bI:Array Pl}{bJ:Nat}{bK:Pr->Option Pl},a1 ct u K an ao->P4 K h bI bJ->K.Ns t bK->P4 ao h bI bJ/\ao.Ns t bK/\ac (i+1) ao:=λF ck cl=>⟨F.WQ _ _ ck a6.1 id,cl.at' λg e=>F.WQ _ g e ay.1 id,D.ZK _ _ _ bE (λc g d e=>F.WQ c g e (G c (.inl d)).1 id) λcQ g e d o=>qv am es F e d o⟩;refine b4 _ _ (Li (s:={v with heap:=K,toks:=t1+1}) bS bU am bF (j6 (au p r (bD N k w[i]) u) P) λc S bL bM bN R bO=>?_);rcases c with _|_;·exact cc (bH R a' aB) λap ba bb=>b6 _ (bm (w.length-(i+1)) _ (by erw[bn];exact aQ bA jl rfl Y) λA k=>k (i+1) us S bL bM y X _ rfl Y bN ((F.WF a9).WF (R.Xm λA d=>d.elim)) bb ap (bG.WU am es R) (Nat.le_succ_of_le ax) ba bO)
   .refine b5 _ (bT (s:={v with heap:=bL,toks:=bM}) bV bN (bF.WU am R) bO λo bP an ao cm cn aq co cq=>b7 _ _ (cc (bH (R.WF aq) a' aB) λap ba bb=>?_));have cr:w.length<=PV:=by erw[Qd];unfold aJ at av;exact a7 dm jA rfl av
    refine wpAny_list_append_plain (hsz:=PO ax (PO bo cr)) ⟨X,ap⟩ λbQ aI aK=>?_;obtain⟨cs,aI⟩:=aI;have cu:¬cI an h:=λf=>by
     rcases(R.WF aq).WG h f with z|z;·exact a6.1 z
     .rw[a']at z;injection z
    obtain⟨cv,cw,bR⟩:=cn.XM ap (fw rfl (by decide) (by decide)) cu a6.2 aK ⟨_,aI⟩;have cR:∀c,H c->¬cI an c:=λc d f=>by
     rcases(R.WF aq).WG c f with z|z;·exact(G c (.inl d)).1 z
     .refine az (D.WT _ _ bE c d) λg af A=>?_;rw[af]at z;injection z
    have cx:aZ bQ (us++[o]) (y.push bP).toList:=by erw[Wy];exact((bG.WU am es (R.WF aq)).W6 bR).W9 ⟨bR _ _ co,trivial⟩
    have cz:(λvs S=>T (us++[o]++vs) S)=λvs S=>T (us++(o::vs)) S:=by funext vs S;erw[P9];rfl
    exact bm (w.length-(i+1)) _ (by erw[bn];exact aQ bA jl rfl Y) λA k=>k (i+1) (us++[o]) an bQ cm (y.push bP) cs _ rfl Y cv ((((F.WF a9).WF (R.Xm λA d=>d.elim)).WF (aq.Xm λA d=>d.elim)).WF (cw.Xm λc d=>.inr (.inr d))) (D.ZK _ _ _ bb (λc g d e=>(aK.2 c (λo=>aW (o▸d))).trans e) (ij (H:=λc=>c=h) (i4 ap (fw rfl (by decide) (by decide))) λc g d e=>(aK.2 c d).trans e)) aI cx (by erw[Wz];exact aQ a_ hn rfl ax) (ba.at' λg e=>(aK.2 t bh).trans e) (cz▸cq)
  .have cB:i=w.length:=(cp a_ f4 bX rfl bo Y);subst cB;rw[Ux]at P;have P:_/\_:=P;refine D.Z9 (s:={v with heap:=j,toks:=ad}) ai ah P.1 (λc d=>G c (.inl d)) λZ t1 E=>b2 _ ?_;obtain⟨a4,a5⟩:=ah.XA (H:=H) (λc d=>⟨D.WT _ j ai c d,G c (.inl d)⟩) E;have cC:T us u:=by have this:T (us++[]) u:=P.2;rwa[P3]at this
   have cD:a1 ct b v.heap u Z:=by have bd:a1 ct b v.heap u j:=a1.W7 aU F ag;refine⟨λc g e bC aH=>E c g (λo=>by rw[ag c (.inl o)]at e;injection e) (bd.WQ c g e bC aH),bd.WG,λc g e=>?_⟩;obtain⟨aG,a8⟩:=bd.Zs c g e;exact⟨aG,E c aG (λo=>by rw[ag c (.inl o)]at e;injection e) a8⟩
   exact b0 us u Z t1 y X ae a4 cD (E _ _ aW aY) (by erw[Qd];unfold aJ at av;exact cp a_ h_ jA rfl ax av) (bp.Xh a5) (a0.at' λg e=>E _ g aV e) (G h (.inr (.inr rfl))).1 (G t (.inr (.inl rfl))).1 cC
 exact codeAny_compStart_list bl (bY aX bl)
end
section
theorem tv(c:bc I.Q I.P B r q=L)(d:r≠.D):∀a,foldedSetIterable q x a=PN a:=by
 intro a;rcases Bb c with b|b;·exact absurd b d
 .cases q<;>first|exact c4 b|rfl
theorem DA(as:bW I V p a){C:aL}(av:b' I V p r)(aw:bs I V p C){ax:Po}{af:List Po}{ag ay:PD}{i:Qp}{f:Pn}{D:Nat->Pv->Prop}{ah:dh}{ai:List aa->ab->Prop}{aj:Pl->Pw->RE->Pn->Prop}(E:mB B i M k)(aB:og I (g8 B i M k) r af)(F:bc I.Q I.P (g8 B i M k) C q=L)(G:dX I V (.Name M ag) H n ah w D)(aG:v6 I V n D)(aH:aA I b f.heap)(y:bz I B N x b f.heap)(am:∀c e,f.heap.get? c=O e->m.get? c=O e)(aI:∀c,H c->f.heap.get? c=U)(an:D 0 m)(aK:w.length<=aJ)(aM:dS (λK b Q=>au p r (bD N k K) b Q) (λK b Q=>au p C (bD N k K) b Q) ah w b ai)(aP:∀us j h P s R S t u,aA I j h->a1 ct b f.heap j h->P4 h t s R->s.size<=PV->aZ h us s.toList->h.Ns u S->¬cI j t->¬cI j u->f.heap.get? t=U->f.heap.get? u=U->u≠t->ai us j->aj (.ref t) u (.ok .next) {f with heap:=h,toks:=P}):Pq (Py I.r I.q) V (newList []) (λao aQ=>Pq (Py I.r I.q) V (newFunctionEnv i x.globals (eR x.cells i.names []) [] x.qual U .none (O x)) (λap aR=>Rq (Py I.r I.q) V (.compStart (.ListComp q [⟨.Name M ag,ax,af,0⟩] i ay) 0 n ao {ap with scope:=S' i x}) (aj ao ap.locals) aR) g aQ) g {f with heap:=m,toks:=l}:=by
 refine TR (wpAny_newFunctionEnv E.V? (by intro q F;simp at F) (λaq T z=>?_) E.Y1);dsimp only at T z⊢;generalize W:m.push {cls:=.type "list",dict:=U,data:=.seq ([]:List Pl).toArray}=v at T z⊢;have X:v.objs.size=m.objs.size+1:=by erw[<-W,UJ];rfl
 have Y:v.objs.size≠m.objs.size:=by erw[X];exact SP _
 have Z:∀c e,m.get? c=O e->aq.get? c=O e:=λc e y=>by have aS:=QV y;refine z.extBut c e (by erw[X];exact Ub (Nat.lt_succ_of_lt aS)) (TB _ (W▸TB _ y))
 have A:∀c,m.get? c=U->f.heap.get? c=U:=λc d=>by
  rcases o:f.heap.get? c with _|e;·rfl
  .rw[am c e o]at d;injection d
 have ac:m.get? m.objs.size=U:=e9 m;have ad:m.get? v.objs.size=U:=by
  rcases o:m.get? v.objs.size with _|e;·rfl
  .have:=QV o;rw[X]at this;exact absurd this (RI.mpr (SU _))
 have ar:∀c,H c->m.get? c≠U:=λc d o=>by refine az (G.WT 0 m an c d) λe aT ae=>?_;rw[aT]at o;injection o
 have aU:P4 aq m.objs.size #[] 0:=z.extBut _ _ (PB Y) (TB _ (W▸Qu _ rfl));refine MV as av aw (t:=v.objs.size) (h:=m.objs.size) E aB F G aG aH y (λc e d=>Z c e (am c e d)) (λc d=>?_) (λd=>ar _ d ad) (λd=>ar _ d ac) Y (G.ZK _ _ _ an (λc e ae d=>Z c e d) (λaV e d ae ae=>Z aV e d)) aU T aK aM ?_
 .rcases d with d|rfl|rfl;·exact aI c d
  .exact A _ ad
  .exact A _ ac
 .exactλus j h P s R S aW aX aY a0 a2 a3 a4 a5 d=>aP us j h P s R S _ _ aW aX aY a0 a2 a3 a4 a5 (A _ ac) (A _ ad) Y d
theorem Lj{a:List Po}(b:(match a with|[]=>uW r|c::d=>d.isEmpty&&bc I.Q I.P B r c)=L):og I B r a:=by
 rcases a with _|⟨c,d⟩;·exact K6 b
 .obtain rfl:=Qk.mp (ax b);exact ar b
theorem vm{i j:aL}(a:bc I.Q I.P B (.W1 k r i j) q=L)(o:∀b c p d e f s,mB B f c k->bc I.Q I.P B r d=L->og I (g8 B f c k) i e->bc I.Q I.P (g8 B f c k) j b=L->y (.ListComp b [⟨.Name c p,d,e,0⟩] f s)):y q:=vC a λb l g h a=>g9 (e:=λl=>y (.ListComp b l g h)) a λt a=>by obtain⟨m,d,e,n⟩:=t;refine eS (y:=λm=>y (.ListComp b [⟨m,d,e,n⟩] g h)) a λc u a=>?_;obtain rfl:n=0:=dZ (ax a);exact o b c u d e g h (MW (ax (ar a))) (ax (ar (ar a))) (Lj (ax (ar (ar (ar a))))) (ar (ar (ar (ar a))))
theorem Dz{a:Qp}(d:mB B a M k)(e:bz I B N x b m):T5 a x=PN (eR x.cells a.names []):=by refine M8 λc f g=>?_;obtain⟨h,i⟩:=d.agy c f g;obtain⟨j,l⟩:=RG.mp i;refine iC (e.Z0 c.1 j l h) λo p n q=>?_;erw[n];rfl
theorem a1.Yb{g h:Pv}(e:a1 H b m T g)(k:∀a c,a≠t->g.get? a=O c->h.get? a=O c)(i:m.get? t=U):a1 H b m T h:=⟨λa c d l n=>k a c (λf=>by rw[f,i]at d;injection d) (e.WQ a c d l n),e.WG,λa c d=>by obtain⟨j,o⟩:=e.Zs a c d;exact⟨j,k a j (λf=>by rw[f,i]at d;injection d) o⟩⟩
theorem Dy{d:Pn}{h:Pv}{r:Pr->Option Pl}{c:Pw}(s:aA I b d.heap)(u:aA I T m)(v:a1 ct b d.heap T m)(w:P4 m t D l)(x:D.size<=PV)(y:aZ m us D.toList)(z:m.Ns c r)(n:¬cI T t)(A:¬cI T c)(o:d.heap.get? t=U)(p:d.heap.get? c=U)(B:c≠t)(C:UK c m h):aA I (am T t (.WE us)) h/\a1 ct b d.heap (am T t (.WE us)) h/\T t=U:=by
 have q:∀a,d.heap.get? a=U->I.YQ.get? a=U:=λa e=>by
  rcases j:I.YQ.get? a with _|f;·rfl
  .rw[s.WQ a f j]at e;injection e
 refine jh z λE N P F G g=>?_;have k:∀a f,a≠c->m.get? a=O f->h.get? a=O f:=λa f e i=>(C.2 a e).trans i;obtain⟨H,K⟩:=u.XA (H:=λa=>a=c) (λa e=>e▸⟨⟨E,F,.WN G⟩,A,q _ p⟩) k;have M:aA I (am T t (.WE us)) h:=H.XY n (q _ o) ⟨D,l,k _ _ (PB B) w,x,y.Xh K⟩ (λg g g i=>by injection i);refine⟨M,(v.Yb k p).XY o (λg g g i=>by injection i),?_⟩;rcases j:T t with _|f;·rfl
 .exact absurd (.inl (by erw[j];exact RV _)) n
theorem Dx(g:bW I V p a){h i:aL}(D:bs I V p r)(E:b' I V p h)(F:bs I V p i):bs I V p (.W1 k r h i):=λ{ay az t G e s Q H K} M u j v N=>by
 refine vm (y:=bK I V G H K s) M λaA w x aB aG aH aI f y P R=>?_;delta bK;erw[eval_ListComp];by_cases z:r=.D;·subst z;exact Pz v
 refine U6 (use:=U) rfl (tv y z) (Dz f j) f.Y1 f.W? (D (Q:=λb l=>aP (f_ b l) λc=>c.2.length<=aJ/\dS (λb e Q=>au p h (bD t k b) e Q) (λb e Q=>au p i (bD t k b) e Q) c.1 c.2 l λus A=>∀m,A m=U->Q (.b m) (am A m (.WE us))) y u j v λaK b l n t1 o B S d=>cm d λc T d=>?_);obtain⟨aM,aQ⟩:=c;·obtain⟨W,d⟩:=d;exact uh (s:={s with heap:=n,toks:=t1}) g.WP g.Zj.Zo o (q:=.Name w x) (.u? w x) S T λaR aS aT aU X Y Z aa ab aV=>DA g E F (f:={s with heap:=n,toks:=t1}) f P R X Y o (j.WL (t1:=t1) u B) aa ab Z W d (λus aW aX ac aY aZ ad q a0 ae af ag ah ai C aj al an ao ap aq=>⟨ad,C,λar as=>cc (Dy (d:={s with heap:=n,toks:=t1}) o ae af ag ah ai C aj al an ao ap as) λav aw ax=>N (.b q) (.ref q) _ ar ac av (B.WF aw) rfl (aq q ax)⟩)
theorem L5{c:Pw}(f:cI (am b t (.WE xs)) c):cI b c\/c=t:=by
 rcases f with f|⟨d,e,g,f⟩
 .by_cases a:c=t;·exact .inr a
  .rw[cx b _ a]at f;exact .inl (.inl f)
 .by_cases a:d=t;·subst a;rw[er]at f;cases f
  .rw[cx b _ a]at f;exact .inl (.inr ⟨d,e,g,f⟩)
theorem bz.XW{i:Pv}(c:bz I B N x b m)(j:∀e d,dw x e->m.get? e=O d->i.get? e=O d)(r:go m i):bz I B N x b i:=by
 refine⟨c.Z,c.Y1,c.ZY,c.ZM,?_,?_,λe s=>?_,c.WJ,c.ZS,c.Y4⟩;·exact az c.e? λu l v=>h1 l λd w y g n z A=>⟨u,⟨d,w,y,j _ _ (.inl rfl) g,n,z,A⟩,λh k o p=>(v h k o p).W6 λq q=>ay.Xh r⟩
 .exactλh k o p=>cn (c.Z0 h k o p) λC D t l a=>az l λd g n=>fe C D t ⟨d,j _ _ (.inr ⟨h,t⟩) g,n⟩ (a.W6 λq q=>ay.Xh r)
 .obtain⟨f,E,d,g,F⟩:=c.Xb e s;exact⟨f,E,d,j _ _ s g,F⟩
theorem Ms(S:bW I V p a){E F:aL}(aG:bs I V p r)(aH:b' I V p E)(aI:bs I V p F){Q:bb->al->ab->Prop}{G:Rb->Pn->Prop}{m H:PD}(aK:bc I.Q I.P B (.W1 k r E F) q=L)(T:Ro q (O (.Name M m)) H.line x=PN L)(aM:ms B M l)(K:aA I b s.heap)(j:bz I B N x b s.heap)(ac:au p (.W1 k r E F) N b λh v=>Q .WL (bD N l h) v)(aQ:∀h t n W,aA I t n->a1 (dw x) b s.heap t n->bz I B (bD N l h) x t n->Q .WL (bD N l h) t->G .next {s with heap:=n,toks:=W}):Pq (Py I.r I.q) V (exec (.Assign [.Name M m] q H) x) G g s:=by
 refine vm (y:=λq=>Ro q (O (.Name M m)) H.line x=PN L->Pq (Py I.r I.q) V (exec (.Assign [.Name M m] q H) x) G g s) aK (λaR w X ad aS ae aT P af aU aV T=>?_) T;erw[exec_Assign_Name_used _ _ _ _ T];refine Pu (Qw (Pu ?_));show Pq _ V (do let _<-comprehension (.ListComp aR [⟨.Name w X,ad,aS,0⟩] ae aT) ae x _ (newList []) J (PW ad x) (O (QB (.Name M m) x))) _ _ s;by_cases ag:r=.D;·subst ag;exact Pz ac
 refine Pu (Qo (U6 (use:=O (QB (.Name M m) x)) (Q:=λy ah=>G .next ah) rfl (tv af ag) (Dz P j) P.Y1 P.W? (aG (Q:=λh v=>aP (f_ h v) λz=>z.2.length<=aJ/\dS (λh b Q=>au p E (bD N k h) b Q) (λh b Q=>au p F (bD N k h) b Q) z.1 z.2 v λus ai=>∀Y,ai Y=U->Q .WL (bD N l (.b Y)) (am ai Y (.WE us))) af K j ac λbu h v u t1 R A aW c=>cm c λz aX c=>?_)) (λy ah aY=>PH (PH aY)) λy y j=>j);obtain⟨bv,bx⟩:=z
 .obtain⟨aZ,c⟩:=c;refine uh (s:={s with heap:=u,toks:=t1}) S.WP S.Zj.Zo R (q:=.Name w X) (.u? w X) aW aX λbA bB bC bE a0 a2 a3 a4 a5 bF=>DA S aH aI (f:={s with heap:=u,toks:=t1}) P aU aV a0 a2 R (j.WL (t1:=t1) K A) a4 a5 a3 aZ c (λus t n W bG bH aj C d a6 a7 a8 a9 a_ an a' ao ba D ap bd=>cc (Dy (d:={s with heap:=u,toks:=t1}) R a6 a7 a8 a9 a_ an a' ao ba D ap (Heap.SameBut.refl d n)) λbe aq bf=>?_);have bg:=j.WU K (A.WF aq);have ar:¬dw x d:=λc=>by obtain⟨_,_,e,as,_⟩:=(j.WL (t1:=t1) K A).Xb d c;rw[D]at as;injection as
  show Pq _ V (QB (.Name M m) x (.ref C)) _ _ _;refine S9 (bg.XE (s:={s with heap:=n,toks:=W}) be aM (pB (l:=C)) λav bh bi aw bj=>?_);have ax:¬cI (am t C (.WE us)) d:=λf=>by
   rcases L5 f with Z|Z;·exact ao Z
   .exact ap Z
  have ay:av.Ns d aj:=an.at' λe o=>aw.WQ d e o ax ar;refine⟨aj,ay,λaz bk=>?_⟩;have aa:∀i e,i≠d->av.get? i=O e->az.get? i=O e:=λi e c j=>(bk.2 i c).trans j;refine jh ay λbl bI bJ bm bn y=>?_;have bo:I.YQ.get? d=U:=by
   rcases o:I.YQ.get? d with _|e;·rfl
   .have:=R.WQ d e o;rw[show({s with heap:=u,toks:=t1}:Pn).heap=u from rfl]at D;rw[D]at this;injection this
  obtain⟨bp,bq⟩:=bi.XA (H:=λi=>i=d) (λi c=>c▸⟨⟨bl,bm,.WN bn⟩,ax,bo⟩) aa;refine aQ (.b C) _ az bh bp ?_ (bj.XW (λi e c o=>aa i e (λw=>ar (w▸c)) o) bq) (bd C bf);have br:u.get? d=U:=D;have bt:s.heap.get? d=U:=by
   rcases o:s.heap.get? d with _|e;·rfl
   .obtain⟨bK,aB⟩:=A.Zs d e o;rw[br]at aB;injection aB
  exact(((A.WF aq).Xm λy c=>c.elim).WF aw).Yb aa bt
end
section
theorem xU(b:bW I V p a):bs I V p (.f o):=λ{h i j k l s Q m n} c d e f g=>A' b c d e f g
theorem Bh:bs I V p (.d k):=λ{i j l b m s Q c d} a e f g h=>eS (y:=bK I V b c d s) a λn o a=>ID a e f g h
theorem Mo:bs I V p .D:=λ{b c d e f s Q g h} i j k a l=>Pz a
theorem Mq:b' I V p .D:=λ{b c d e f s Q g h} i j k a l=>Pz a
abbrev fc(a:Po):Prop:=p2 a=L
theorem GR(c b)(d:bc I.Q I.P c (.f o) b=L):p2 b=L:=gP d (λa=>me (y:=fc) a λ_ _ _ _=>rfl) λa=>gP a (λa=>eS (y:=fc) a λ_ _ _=>rfl) λa=>j0 (y:=fc) a λe f g a=>by obtain rfl:=dZ (ax a);rfl
mutual
theorem bi(b:bW I V p a):∀c:aL,bs I V p c/\b' I V p c
|.f z=>⟨xU b,b'.Xg (xU b) GR⟩
|.d k=>⟨Bh,b'.Xg Bh λh j d=>eS (y:=fc) d λ_ _ _=>rfl⟩
|.m A e g=>⟨DJ b (bi b e).1 (bi b g).1,b'.Xg (DJ b (bi b e).1 (bi b g).1) λh j d=>q3 (y:=fc) d λ_ _ _ _ _=>rfl⟩
|.M c=>⟨IA (bi b c).1,IC (bi b c).2⟩
|.V e g=>⟨NN (bi b e).1 (bi b g).1,NS (bi b e).2 (bi b g).2⟩
|.YF e g=>⟨HG (bi b e).1 (bi b g).1,HH (bi b e).2 (bi b g).2⟩
|.l n e g=>⟨KR (bi b n).2 (bi b e).1 (bi b g).1,KT (bi b n).2 (bi b e).2 (bi b g).2⟩
|.j n e g=>⟨MY b (bi b e).1 (bi b g).1,M2 b (bi b e).1 (bi b g).1⟩
|.Y7 n B e o g=>⟨M3 b (bi b e).1 (bi b o).1 (bi b g).1,M4 b (bi b e).1 (bi b o).1 (bi b g).1⟩
|.Zn c=>⟨K_ (bi b c).1,K' (bi b c).1⟩
|.Zy c=>⟨K8 (bi b c).1,K9 (bi b c).1⟩
|.h m=>⟨x7 (gi b m),b'.Xg (x7 (gi b m)) λh j d=>hP (y:=fc) d λ_ _ _ _=>rfl⟩
|.x m=>⟨Bc (gi b m),b'.Xg (Bc (gi b m)) λh j d=>qZ (y:=fc) d λ_ _ _=>rfl⟩
|.ZH=>⟨Dr,b'.Xg Dr λh j d=>q1 (y:=fc) d λ_ _ _ _=>rfl⟩
|.W1 k r s t=>⟨Dx b (bi b r).1 (bi b s).2 (bi b t).1,b'.Xg (Dx b (bi b r).1 (bi b s).2 (bi b t).1) λh j d=>vC (y:=fc) d λ_ _ _ _ _=>rfl⟩
|.k f l=>⟨DE b (gi b l),b'.Xg (DE b (gi b l)) λh j d=>fn (y:=fc) d λ_ _ _ _ _=>rfl⟩
|.WH n l=>⟨AT b (gi b l),b'.Xg (AT b (gi b l)) λh j d=>fn (y:=fc) d λ_ _ _ _ _=>rfl⟩
|.o g l=>⟨DK b (gi b l),b'.Xg (DK b (gi b l)) λh j d=>fn (y:=fc) d λ_ _ _ _ _=>rfl⟩
|.YU c C=>⟨Cz b (bi b c).1,b'.Xg (Cz b (bi b c).1) λh j d=>fn (y:=fc) d λ_ _ _ _ _=>rfl⟩
|.n c e=>⟨Et b (bi b c).1,b'.Xg (Et b (bi b c).1) λh j d=>j4 (y:=fc) d λ_ _ _ _=>rfl⟩
|.N c o l=>⟨A3 b (bi b c).1 (gi b l),b'.Xg (A3 b (bi b c).1 (gi b l)) λh j d=>mf (y:=fc) d λ_ _ _ _ _=>rfl⟩
|.y c i=>⟨CK b (bi b c).1 (bi b i).1,b'.Xg (CK b (bi b c).1 (bi b i).1) λh j d=>gO (y:=fc) d λ_ _ _ _=>rfl⟩
|.Yv c u v=>⟨yS b (bi b c).1 (p9 b u) (p9 b v),b'.Xg (yS b (bi b c).1 (p9 b u) (p9 b v)) λh j d=>gO (y:=fc) d λ_ _ _ _=>rfl⟩
|.ZW c=>⟨zp b (bi b c).1,b'.Xg (zp b (bi b c).1) λh j d=>gO (y:=fc) d λ_ _ _ _=>rfl⟩
|.D=>⟨Mo,Mq⟩
theorem gi(b:bW I V p a):∀m:di,gU I V p m|.e=>ud|.c c w=>Dw (bi b c).1 (gi b w)
theorem p9(b:bW I V p a):∀(x:gr)(c:aL),x=.WI c->bs I V p c
|.WK,_,q=>by cases q
|.WI y,c,q=>by cases q;exact(bi b y).1
end
end
variable{j:List Nat}
noncomputable def kE(a:bw)(b:Pr)(k:Nat):Bool:=a.Zd.lookup b==O k&&((a.Z.names.lookup b==O .local||a.Z.names.lookup b==O .cell)&&(a.Zd.all (λc=>c.1==b||c.2 !=k)&&Ps (k<a.w)))
theorem pG(a:kE B M k=L):ms B M k:=by
 unfold kE at a;simp only[Qc,TJ,beq_iff_eq,Qi,bne_iff_ne,decide_eq_true_eq]at a;refine ry a λc d e f=>⟨c,d,λi j g h=>?_,f⟩;rcases e _ (hF g)with b|b;·exact absurd b h
 .exact b
noncomputable def uf(a:Po):Option Pr:=if b:a.ctorIdx=23 then O (TF (motive_1:=λc=>Pr) a b λd c=>d)else U
theorem IK(a:uf q=O M)(k:∀b,y (.Name M b)):y q:=by
 by_cases c:q.ctorIdx=23;·exact TF (motive_1:=λq=>uf q=O M->y q) q c (λd b a=>by obtain rfl:d=M:=PS a;exact k b) a
 .exact nomatch (dif_neg c).symm.trans a
noncomputable def kR(b:bw):List Nat->List Po->Option (List Pr)
|[],a=>match a with|[]=>O []|_::_=>U
|k::d,a=>match a with|[]=>U|e::a=>(uf e).bind λc=>if kE b c k then(kR b d a).map (c::·)else U
def l4(b:bw):ej->Po->Bool
|.z k,a=>gk (λc=>kE b c k) a
|.Y5 d,a=>j1 (λe=>(kR b d e).isSome) a
section
theorem yU:∀(g:al)(a b:Nat)(c d:aa),a≠b->bD (bD g a c) b d=bD (bD g b d) a c|[],_,_,_,_,_=>rfl|_::_,0,0,_,_,e=>absurd rfl e|_::_,0,_+1,_,_,_=>rfl|_::_,_+1,0,_,_,_=>rfl|h::f,a+1,b+1,c,d,e=>by show h::bD (bD f a c) b d=h::bD (bD f b d) a c;erw[yU f a b c d (λi=>e (by rw[i]))];rfl
theorem yO:∀{b:List (Pr×Nat)}{c:List (Pl->QC Unit)}{us:List aa}{vs:List Pl}{j:bw}{e:al}{g:PI}{d:ab}{s:Pn}{m:Unit->Pn->Prop}{k:Pl->Pn->Prop},(∀a∈b,ms j a.1 a.2)->b.length=c.length->(∀(i:Nat)(a:Pr×Nat)(f:Pl->QC Unit),b[i]?=O a->c[i]?=O f->∀{r:Pl}{s:Pn}{Q:Unit->Pn->Prop},Pq (Py I.r I.q) V (storeName g a.1 r) Q k s->Pq (Py I.r I.q) V (f r) Q k s)->us.length=b.length->aA I d s.heap->bz I j e g d s.heap->aZ s.heap us vs->(∀h t,aA I d h->a1 (dw g) d s.heap d h->bz I j (((b.map (·.2)).zip us).foldl (λe a=>bD e a.1 a.2) e) g d h->m () {s with heap:=h,toks:=t})->Pq (Py I.r I.q) V (assignInOrder c vs) m k s:=by intro b;induction b with
 |nil=>
  intro c us vs j e g d s m k u n v o p q l w;rcases c with _|⟨_,_⟩
  .rcases us with _|⟨_,_⟩
   .rcases vs with _|⟨_,_⟩;·exact PH (w s.heap s.toks p (a1.WZ _ _ _) q)
    .exact l.elim
   .injection o
  .injection n
 |cons a b A=>
  intro c us vs j e g d s m k u n v o p q l w;rcases c with _|⟨f,c⟩;·injection n
  .rcases us with _|⟨N,us⟩;·injection o
   .rcases vs with _|⟨r,vs⟩;·exact l.elim
    .show Pq _ _ (_>>=_) _ _ _;exact Pu (P7 (v 0 a f rfl rfl (q.XE p (u a (QS ..)) l.1 λh t B z C=>A (us:=us) (s:={s with heap:=h,toks:=t}) (λx D=>u x (PY _ D)) (Th n) (λi x E F y=>v (i+1) x E F y) (Th o) B C (l.2.WU p q.X4 z) λG H K M y=>w G H K (z.WF M) y)))
theorem ql:∀{f:List Nat}{c:List Po}{xs:List Pr},kR B f c=O xs->xs.length=f.length/\c.length=f.length/\(∀b∈xs.zip f,ms B b.1 b.2)/\∃e:List PD,e.length=xs.length/\c=(xs.zip e).map (λb=>R9 b.1 b.2)
|[],c,xs,d=>by cases c with
 |nil=>cases d;exact⟨rfl,rfl,λb g=>absurd g P0,[],rfl,rfl⟩
 |cons _ _=>exact aU d
|k::f,c,xs,d=>by cases c with
 |nil=>exact aU d
 |cons h c=>
  obtain⟨i,n,d⟩:=Rr.mp d;by_cases j:kE B i k=L
  .obtain⟨m,o,rfl⟩:=Q2.mp ((if_pos j).symm.trans d);obtain⟨p,q,r,e,a,s⟩:=ql o;refine IK (y:=λh=>_/\(h::c).length=_/\_/\∃e:List PD,e.length=(i::m).length/\h::c=((i::m).zip e).map (λb=>R9 b.1 b.2)) n λt=>⟨congrArg (·+1) p,congrArg (·+1) q,λb g=>?_,t::e,congrArg (·+1) a,congrArg _ s⟩;rcases PM.mp g with l|l;·subst l;exact pG j
   .exact r b l
  .exact nomatch (if_neg j).symm.trans d
theorem vj(xs:List Pr)(a:List PD)(c:PI):assignEach ((xs.zip a).map (λb=>R9 b.1 b.2)) c=(xs.zip a).map λb=>(J,QB (.Name b.1 b.2) c):=by induction xs generalizing a with
 |nil=>rfl
 |cons e xs d=>
  rcases a with _|⟨b,a⟩;·rfl
  .simp only[Qn,Qj];erw[<-d a];rfl
theorem Nw{c:al}(a:cA (.Y5 j) o N=O c)(k:∀vs,j.length=vs.length->o=.h vs->c=(j.zip vs).foldl (λN d=>bD N d.1 d.2) N->z):z:=by
 rcases o with _|_|_|_|vs|⟨_,_⟩|_;·exact aU a
 .exact aU a
 .exact aU a
 .exact aU a
 .by_cases b:j.length=vs.length;·exact k vs b rfl (PS ((if_pos b).symm.trans a)).symm
  .exact nomatch (if_neg b).symm.trans a
 .exact aU a
 .exact aU a
theorem tf(G:V.handled=U){t:List Po}{xs:List Pr}{u:al}{H:PD}{v:Unit->Pn->Prop}(K:kR B j t=O xs)(M:cA (.Y5 j) o N=O u)(w:aA I b s.heap)(P:bz I B N x b s.heap)(r:ay s.heap o n)(R:∀c S,aA I b c->a1 (dw x) b s.heap b c->bz I B u x b c->v () {s with heap:=c,toks:=S}):Pq (Py I.r I.q) V (QB (.Tuple t l H) x n) v g s:=by
 obtain⟨e,aq,T,W,y,rfl⟩:=ql K;refine Nw M λz A X h=>?_;subst X h
 ··have r:ay s.heap (.h z) n:=r;refine h1 r λar as au d Y av C=>?_;obtain rfl:=d;have Z:=e1 C;have ac:(xs.zip W).length=xs.length:=by erw[Tq,y,Uc];rfl
   refine wpAny_assign_Tuple G ⟨_,Y,rfl,_,rfl⟩ ?_ ?_ λc ad=>?_;·erw[vj,Pt,ac,e,A,Z];rfl
   .erw[vj];rewrite[List.findIdx?_eq_none_iff];intro D m;refine az (P'.mp m) λa ae d=>?_;obtain rfl:=d;rfl
   .have k:∀p q,s.heap.get? p=O q->c.get? p=O q:=λp q a=>ad p q (λaf=>by rw[af,e9]at a;injection a) a;have ag:=w.W' k;have ah:=P.WU w (a1.W' k);erw[vj,QX];refine yO (b:=xs.zip j) (us:=z) (s:={s with heap:=c}) T (by simp[e,y]) (λi D f m E o s Q ai=>?_) (by erw[Tq,e,Uc,A];rfl) ag ah (C.WR k) λaj am an ao h=>?_;·rw[QT]at E;refine az (Q2.mp E) λa F d=>?_;obtain rfl:=d;rw[List.getElem?_zip_eq_some]at m F;have:D.1=a.1:=PS (m.1.symm.trans F.1);show Pq _ _ (QB (.Name a.1 a.2) x o) _ _ _;erw[<-this];exact S9 ai
    .have ap:(xs.zip j).map (·.2)=j:=by rw[VE];exact aQ bX fP rfl e
     rw[ap]at h;exact R aj am an (((a1.W' k).Xm λae a=>a.elim).WF ao) h
theorem Fn(p:V.handled=U){f:ej}{h:al}{d:Unit->Pn->Prop}(a:l4 B f q=L)(c:cA f o N=O h)(i:aA I b s.heap)(j:bz I B N x b s.heap)(l:ay s.heap o n)(m:∀e r,aA I b e->a1 (dw x) b s.heap b e->bz I B h x b e->d () {s with heap:=e,toks:=r}):Pq (Py I.r I.q) V (QB q x n) d g s:=by induction f with
 |z k=>refine eS (y:=λq=>Pq (Py I.r I.q) V (QB q x n) d g s) a λt u a=>?_;have c:O (bD N k o)=O h:=c;injection c with c;subst c;exact S9 (j.XE i (pG a) l m)
 |Y5 w=>refine hP (y:=λq=>Pq (Py I.r I.q) V (QB q x n) d g s) a λy t u a=>?_;obtain⟨xs,v⟩:=RG.mp a;exact tf p v c i j l m
theorem I5{b:ej}(c:l4 B b q=L):hW q:=by induction b with
 |z k=>exact eS (y:=hW) c λd a e=>.u? d a
 |Y5 h=>exact hP (y:=hW) c λf g a e=>.h f g a
end
section
set_option backward.match.sparseCases true in
def Af(d:Qp)(a vs:List Po):Option Bool:=if !(a.length==2||a.length==3)||vs.length !=a.length then O J else if vs.any (λe=>!hB e)then O J else let f:=(a.head?.map (·.pos.line)).getD 0;let b:=a.filterMap λ|.Name c g=>if d.names.lookup c==O .local&&g.line==f then O c else U|_=>U;if b.length !=a.length||b.eraseDups.length !=b.length then O J else if vs.all (foldedForSure 8)then O J else if vs.all (constantsAlone 8)then U else O L
noncomputable def qe:List Nat->Bool|[]=>L|b::a=>!a.contains b&&qe a
noncomputable def CD:gS->Bool|.D=>L|_=>J
noncomputable def Lb(a:Po):Bool:=PX a.ctorIdx 16
noncomputable def l6(a:Po):Bool:=PX a.ctorIdx 25
noncomputable def u5:cC->Bool|.Xe=>L|_=>J
theorem LS{a:Option cC}(b:d0 u5 a=L):a=O .Xe:=hQ (e:=λa=>a=O .Xe) b λc b=>by induction c with|Xe=>rfl|_=>exact c4 b
noncomputable def ie(a:Nat)(b:PF)(f:b.ctorIdx=a->Bool):Bool:=if c:b.ctorIdx=a then f c else J
theorem iY{b:PF}{f:b.ctorIdx=l->Bool}(c:ie l b f=L)(k:∀a,f a=L->z):z:=by
 by_cases a:b.ctorIdx=l;·exact k a ((dif_pos a).symm.trans c)
 .exact absurd ((dif_neg a).symm.trans c) Qf
def tD(b:Option Po->Bool)(a:PF):Bool:=ie 3 a λc=>Stmt.Return.elim (motive_2:=λ_=>Bool) a c λd e=>b d
theorem Ga{d:Option Po->Bool}{a:PF}{e:PF->Prop}(b:tD d a=L)(k:∀c f,d c=L->e (.Return c f)):e a:=iY b λg _=>Stmt.Return.elim (motive_2:=λa=>tD d a=L->e a) a g (λc f b=>k c f b) b
def kH(b:List Po->Po->Bool)(a:PF):Bool:=ie 5 a λc=>Stmt.Assign.elim (motive_2:=λ_=>Bool) a c λd e f=>b d e
theorem nn{e:List Po->Po->Bool}{a:PF}{f:PF->Prop}(b:kH e a=L)(k:∀c d g,e c d=L->f (.Assign c d g)):f a:=iY b λh _=>Stmt.Assign.elim (motive_2:=λa=>kH e a=L->f a) a h (λc d g b=>k c d g b) b
def pM(b:Po->Sh->Po->Bool)(a:PF):Bool:=ie 7 a λc=>Stmt.AugAssign.elim (motive_2:=λ_=>Bool) a c λd e f g=>b d e f
theorem y3{f:Po->Sh->Po->Bool}{a:PF}{g:PF->Prop}(b:pM f a=L)(k:∀c d e h,f c d e=L->g (.AugAssign c d e h)):g a:=iY b λi _=>Stmt.AugAssign.elim (motive_2:=λa=>pM f a=L->g a) a i (λc d e h b=>k c d e h b) b
def tH(b:Po->Po->List PF->List PF->Bool)(a:PF):Bool:=ie 9 a λc=>Stmt.For.elim (motive_2:=λ_=>Bool) a c λd e f g h=>b d e f g
theorem tG{g:Po->Po->List PF->List PF->Bool}{a:PF}{h:PF->Prop}(b:tH g a=L)(k:∀c d e f i,g c d e f=L->h (.For c d e f i)):h a:=iY b λj _=>Stmt.For.elim (motive_2:=λa=>tH g a=L->h a) a j (λc d e f i b=>k c d e f i b) b
def tC(b:Po->List PF->List PF->Bool)(a:PF):Bool:=ie 11 a λc=>Stmt.While.elim (motive_2:=λ_=>Bool) a c λd e f g=>b d e f
theorem F'{f:Po->List PF->List PF->Bool}{a:PF}{g:PF->Prop}(b:tC f a=L)(k:∀c d e h,f c d e=L->g (.While c d e h)):g a:=iY b λi _=>Stmt.While.elim (motive_2:=λa=>tC f a=L->g a) a i (λc d e h b=>k c d e h b) b
def tF(b:Po->List PF->List PF->Bool)(a:PF):Bool:=ie 12 a λc=>Stmt.If.elim (motive_2:=λ_=>Bool) a c λd e f g=>b d e f
theorem Gd{f:Po->List PF->List PF->Bool}{a:PF}{g:PF->Prop}(b:tF f a=L)(k:∀c d e h,f c d e=L->g (.If c d e h)):g a:=iY b λi _=>Stmt.If.elim (motive_2:=λa=>tF f a=L->g a) a i (λc d e h b=>k c d e h b) b
def tI(b:Po->Bool)(a:PF):Bool:=ie 24 a λc=>Stmt.Expr.elim (motive_2:=λ_=>Bool) a c λd e=>b d
theorem Ge{d:Po->Bool}{a:PF}{e:PF->Prop}(b:tI d a=L)(k:∀c f,d c=L->e (.Expr c f)):e a:=iY b λg _=>Stmt.Expr.elim (motive_2:=λa=>tI d a=L->e a) a g (λc f b=>k c f b) b
def y2(a:PF):Bool:=ie 26 a λ_=>L
theorem Gg{a:PF}{b:PF->Prop}(c:y2 a=L)(k:∀d,b (.Break d)):b a:=iY c λe _=>Stmt.Break.elim (motive_2:=b) a e k
def y1(a:PF):Bool:=ie 27 a λ_=>L
theorem Gf{a:PF}{b:PF->Prop}(c:y1 a=L)(k:∀d,b (.Continue d)):b a:=iY c λe _=>Stmt.Continue.elim (motive_2:=b) a e k
section
variable(C:Pr->Option cC)(A:Nat->Option Pr)
mutual
noncomputable def Ba(a:bw):gS->PF->Bool
|.s k c,b=>kH (λj d=>ev (λe=>gk (λg=>kE a g k&&bc C A a c d) e) j) b
|.ZC m c,b=>kH (λj d=>ev (λe=>j1 (λus=>(kR a m us).isSome&&(!l6 d&&bc C A a c d)) e) j) b
|.Y0 m y,b=>kH (λj d=>ev (λe=>j1 (λus=>j1 (λvs=>((kR a m us).isSome&&(qe m&&Ps (m.length<4)))&&((Af a.Z us vs).isSome&&gH C A a y vs)) d) e) j) b
|.A h q c,b=>kH (λj d=>ev (λe=>j5 (λg n _=>mp A q n&&(bc C A a c d&&bc C A a h g)) e) j) b
|.Zh h i c,b=>kH (λj d=>ev (λe=>mc (λg x=>AO x&&(bc C A a c d&&(bc C A a h g&&bc C A a i x))) e) j) b
|.Zc k r c,b=>pM (λl h d=>gk (λg=>Ps (h=e3 r)&&(kE a g k&&bc C A a c d)) l) b
|.Z_ h q r c,b=>pM (λl z d=>j5 (λg n _=>(Ps (z=e3 r)&&mp A q n)&&(bc C A a h g&&bc C A a c d)) l) b
|.Y c,b=>tI (λd=>Lb d&&bc C A a c d) b
|.l t l f,b=>tF (λu o p=>bc C A a t u&&(i6 a l o&&i6 a f p)) b
|.Za t v,b=>tC (λu o p=>p.isEmpty&&(bc C A a t u&&i6 a v o)) b
|.R l s v,b=>tH (λe w o p=>(p.isEmpty&&l4 a l e)&&((match s with
 |.X c=>bc C A a c w
 |.Xe c=>l6 e&&k6 (λB xs=>ev (λg=>d0 u5 (fD C a B)&&(hB g&&bc C A a c g)) xs) w
 |.Xu c=>l6 e&&mg (λf xs D E=>D.isEmpty&&(xs.isEmpty&&j5 (λh n F=>(n==("items":Pr)&&F.endLine==E.line)&&(nx h&&bc C A a c h)) f)) w)&&i6 a v o)) b
|.p c,b=>tD (λd=>qk C A a c d) b
|.YA,b=>y2 b
|.Yz,b=>y1 b
|.D,_=>L
noncomputable def i6(a:bw):aI->List PF->Bool|.e,xs=>xs.isEmpty|.c s G,xs=>i_ (λb H=>Ba a s b&&(CD s||i6 a G H)) xs
end
end
section
noncomputable def OD(b:Pv):bb->Rb->Prop|.WL,f=>f=.next|.YA,f=>f=.brk|.Yz,f=>f=.cont|.p c,f=>∃a,f=.ret a/\ay b c a
abbrev bp(I:aB)(g:bw)(c:PI)(h:ab)(s:Pn)(Q:bb->al->ab->Prop)(i:Rb->Pn->Prop):Prop:=∀d f e b a j,aA I b a->a1 (dw c) h s.heap b a->bz I g e c b a->OD a d f->Q d e b->i f {s with heap:=a,toks:=j}
theorem bp.W4{t1:Nat}{Q:bb->al->ab->Prop}{a:Rb->Pn->Prop}(c:bp I B x b s Q a)(d:a1 (dw x) b s.heap T m):bp I B x T {s with heap:=m,toks:=t1} Q a:=λe f g h i j k l n o p=>c e f g h i j k (d.WF l) n o p
theorem a1.WT{a:Pv}(c:a1 ct b m T a):a1 H b m T a:=c.Xm λ_ d=>d.elim
abbrev cu(I:aB)(V:PT)(a:PI)(b:Rb->Pn->Prop)(c:Pl->Pn->Prop)(s:Pn)(d:PF):Prop:=Pq (Py I.r I.q) V (exec d a) b c s
abbrev eV(I:aB)(V:PT)(p:as)(d:gS):Prop:=∀{e:PF}{b:bw}{f:al}{c:PI}{a:ab}{s:Pn}{Q:bb->al->ab->Prop}{g:Rb->Pn->Prop}{h:Pl->Pn->Prop},Ba I.Q I.P b d e=L->aA I a s.heap->bz I b f c a s.heap->eH p d f a Q->bp I b c a s Q g->Pq (Py I.r I.q) V (exec e c) g h s
abbrev h2(I:aB)(V:PT)(p:as)(d:aI):Prop:=∀{xs:List PF}{b:bw}{e:al}{c:PI}{a:ab}{s:Pn}{Q:bb->al->ab->Prop}{f:Rb->Pn->Prop}{g:Pl->Pn->Prop},i6 I.Q I.P b d xs=L->aA I a s.heap->bz I b e c a s.heap->bo p d e a Q->bp I b c a s Q f->Pq (Py I.r I.q) V (Se xs c) f g s
theorem IF:h2 I V p .e:=λ{xs h a i b s Q j k} c d e f g=>by obtain rfl:=Qk.mp c;exact TV (g .WL .next a b s.heap s.toks d (a1.WZ _ _ _) e rfl f)
theorem La{a:gS}(b:CD a=L):a=.D:=by cases a<;>first|rfl|exact c4 b
set_option smartUnfolding false in
theorem MR{t:gS}{k:aI}(v:eV I V p t)(w:h2 I V p k):h2 I V p (.c t k):=λ{xs H K x M s Q y z} c A B u d=>g_ (e:=λxs=>Pq (Py I.r I.q) V (Se xs x) y z s) c λa b c=>gP (ar c) (λC=>by obtain rfl:=La C;exact Pz u) λD=>by refine wpAny_execs_cons (v (Q:=λl e g=>match l with|.WL=>bo p k e g Q|.YA=>Q .YA e g|.Yz=>Q .Yz e g|.p m=>Q (.p m) e g) (ax c) A B u λl f n o q r h i j a b=>?_);induction l with
 |WL=>obtain rfl:=a;exact w D h j b (d.W4 i)
 |YA=>obtain rfl:=a;exact d .YA _ n o q r h i j rfl b
 |Yz=>obtain rfl:=a;exact d .Yz _ n o q r h i j rfl b
 |p m=>refine az a λE F G=>?_;obtain rfl:=F;exact d (.p m) _ n o q r h i j ⟨E,rfl,G⟩ b
theorem Mp:eV I V p .D:=λ{b c d e f s Q g h} i j k a l=>Pz a
theorem Np:eV I V p .YA:=λ{k l a b c s Q d e} f g h i j=>Gg (b:=cu I V b d e s) f λm=>wpAny_Break (j .YA .brk a c s.heap s.toks g (a1.WZ _ _ _) h rfl i)
theorem MQ:eV I V p .Yz:=λ{k l a b c s Q d e} f g h i j=>Gf (b:=cu I V b d e s) f λm=>wpAny_Continue (j .Yz .cont a c s.heap s.toks g (a1.WZ _ _ _) h rfl i)
theorem Gp(n:bW I V p a){g:gr}:eV I V p (.p g):=λ{B C d h o s Q i j} b e f k l=>Ga (e:=cu I V h i j s) b λc q b=>by
 rcases g with _|r;·obtain rfl:=RH.mp b;exact wpAny_Return_none (l (.p .WK) _ d o s.heap s.toks e (a1.WZ _ _ _) f ⟨_,rfl,rfl⟩ k)
 .exact hQ (e:=λc=>cu I V h i j s (.Return c q)) b λD b=>wpAny_Return_some ((bi n r).1 (Q:=λc t=>Q (.p c) d t) b e f k λu c v w x y m z A=>l (.p u) _ d v w x y m.WT (f.WU e m) ⟨_,rfl,z⟩ A)
theorem KS(k:bW I V p a){g f:aI}(l:h2 I V p g)(m:h2 I V p f):eV I V p (.l r g f):=λ{x y n o q s Q t u} b d e v h=>Gd (g:=cu I V o t u s) b λz A B C b=>by
 refine wpAny_If ((bi k r).2 (ax b) d e (j6 (au p r n q) v) λw D E F i c j=>?_);cases w;·simp only[Sa,if_false];exact m (ar (ar b)) i (e.WU d c) j (h.W4 c.WT)
 .simp only[if_true];exact l (ax (ar b)) i (e.WU d c) j (h.W4 c.WT)
end
end
section
noncomputable def ua(a:Po):Bool:=!(PX a.ctorIdx 8)&&(!(PX a.ctorIdx 9)&&!(PX a.ctorIdx 10))
abbrev dU(a:Po):Prop:=ua a=L
theorem I6{l:Pr->Option cC}{m:Nat->Option Pr}(c:bc l m B r q=L):r=.D\/(∃d e g a,r=.W1 d e g a)\/ua q=L:=by cases r with
 |D=>exact .inl rfl
 |W1 d e g j=>exact .inr (.inl ⟨d,e,g,j,rfl⟩)
 |f o=>exact .inr (.inr (gP c (λh=>me (y:=dU) h λb b b b=>rfl) λh=>gP h (λh=>eS (y:=dU) h λb b b=>rfl) λh=>j0 (y:=dU) h λb b b b=>rfl))
 |d k=>exact .inr (.inr (eS (y:=dU) c λb b b=>rfl))
 |m p d e=>exact .inr (.inr (q3 (y:=dU) c λb b b b b=>rfl))
 |M d=>exact .inr (.inr (j0 (y:=dU) c λb b b b=>rfl))
 |V d e=>exact .inr (.inr (j3 (y:=dU) c λb b b b=>rfl))
 |YF d e=>exact .inr (.inr (j3 (y:=dU) c λb b b b=>rfl))
 |l d e g=>exact .inr (.inr (q0 (y:=dU) c λb b b b b=>rfl))
 |j g d e=>exact .inr (.inr (hS (y:=dU) c λb b b b b=>rfl))
 |Y7 g s d e j=>exact .inr (.inr (hS (y:=dU) c λb b b b b=>rfl))
 |Zn d=>exact .inr (.inr (hS (y:=dU) c λb b b b b=>rfl))
 |Zy d=>exact .inr (.inr (hS (y:=dU) c λb b b b b=>rfl))
 |h n=>exact .inr (.inr (hP (y:=dU) c λb b b b=>rfl))
 |x n=>exact .inr (.inr (qZ (y:=dU) c λb b b=>rfl))
 |ZH=>exact .inr (.inr (q1 (y:=dU) c λb b b b=>rfl))
 |k f i=>exact .inr (.inr (fn (y:=dU) c λb b b b b=>rfl))
 |WH f i=>exact .inr (.inr (fn (y:=dU) c λb b b b b=>rfl))
 |o f i=>exact .inr (.inr (fn (y:=dU) c λb b b b b=>rfl))
 |YU f i=>exact .inr (.inr (fn (y:=dU) c λb b b b b=>rfl))
 |n d e=>exact .inr (.inr (j4 (y:=dU) c λb b b b=>rfl))
 |N d e g=>exact .inr (.inr (mf (y:=dU) c λb b b b b=>rfl))
 |y d e=>exact .inr (.inr (gO (y:=dU) c λb b b b=>rfl))
 |Yv d e g=>exact .inr (.inr (gO (y:=dU) c λb b b b=>rfl))
 |ZW d=>exact .inr (.inr (gO (y:=dU) c λb b b b=>rfl))
theorem Fu{a:Option Po}(b:ua q=L):Ro q a l x=PN J:=by cases q<;>first|exact c4 b|rfl
theorem Eu(l:bW I V p a){d e:PD}{Q:bb->al->ab->Prop}{f:Rb->Pn->Prop}(m:ms B M k)(n:bc I.Q I.P B r q=L)(h:aA I b s.heap)(i:bz I B N x b s.heap)(o:au p r N b λq c=>Q .WL (bD N k q) c)(t:bp I B x b s Q f)(u:Ro q (O (.Name M d)) e.line x=PN J):Pq (Py I.r I.q) V (exec (.Assign [.Name M d] q e) x) f g s:=by exact wpAny_Assign_Name ((bi l r).1 n h i o λG H c v t1 w j y z=>(i.WL (t1:=t1) h j).XE (s:={s with heap:=v,toks:=t1}) w m y λA C D E F=>t .WL _ _ c A C D (j.WT.WF E) F rfl z) u
theorem NL(d:bW I V p a):eV I V p (.s k r):=λ{N P R f S s Q m n} c o q i t=>nn (f:=cu I V f m n s) c λv e j c=>g9 (e:=λv=>cu I V f m n s (.Assign v e j)) c λw c=>eS (y:=λw=>cu I V f m n s (.Assign [w] e j)) c λx y c=>by
 have u:=pG (ax c);have g:=ar c;rcases I6 g with rfl|⟨T,h,z,A,rfl⟩|B;·exact Pz i
 .have l:∃h,Ro e (O (.Name x y)) j.line f=PN h:=vm (y:=λe=>∃h,Ro e (O (.Name x y)) j.line f=PN h) g λb b b b b b b b b b b=>⟨_,rfl⟩;obtain⟨C,l⟩:=l;rcases C with _|_;·exact Eu d u g o q i t l
  .exact Ms d (bi d h).1 (bi d z).2 (bi d A).1 g l u o q i λe D E F G H K M=>t .WL _ _ D E F G H K rfl M
 .exact Eu d u g o q i t (Fu B)
theorem yR{us:List Po}{a:PD}:swapsWithSole [.Tuple us k a] q l x=PN J:=by show Ro q (O (.Tuple us k a)) l x=PN J;cases q<;>rfl
theorem Ff(l:bW I V p a):eV I V p (.ZC j r):=λ{P R v d S s Q g h} b m n w x=>nn (f:=cu I V d g h s) b λo c q b=>g9 (e:=λo=>cu I V d g h s (.Assign o c q)) b λt b=>hP (y:=λt=>cu I V d g h s (.Assign [t] c q)) b λus k y b=>by
 obtain⟨xs,z⟩:=RG.mp (ax b);have A:=ax (ar b);refine T0 ((bi l r).1 (Q:=λc e=>aP (cA (.Y5 j) c v) λf=>Q .WL f e) (ar (ar b)) m n w λT B e C t1 D u E i=>?_) yR ?_;·refine cm (c:=λf=>Q .WL f e) i λf F i=>?_;show Pq _ _ (QB (.Tuple us k y) d B) _ _ _;exact tf (s:={s with heap:=C,toks:=t1}) l.Zj.Zo z F D (n.WL (t1:=t1) m u) E λG H K M N=>x .WL _ _ e G H K (u.WT.WF M) N rfl i
 .cases c<;>first|rfl|exact c4 A
theorem F3(f:bW I V p a){u:aL}:eV I V p (.A r l u):=λ{Z aa g d ab s Q i j} b k m E F=>nn (f:=cu I V d i j s) b λv c n b=>g9 (e:=λv=>cu I V d i j s (.Assign v c n)) b λw b=>j4 (y:=λw=>cu I V d i j s (.Assign [w] c n)) b λx y z b=>by
 refine T0 ((bi f u).1 (Q:=λc A=>au p r g A λo h=>fS p o l c h λe=>Q .WL g e) (ax (ar b)) k m E λo G A ac t1 B q H K=>?_) ?_ ?_;·show Pq _ _ (QB (.Attribute x y z) d G) _ _ _;erw[arm_assign_Attribute];exact Pu (P7 ((bi f r).1 (Q:=λC h=>fS p C l o h λe=>Q .WL g e) (ar (ar b)) B (m.WL (t1:=t1) k q) K λC ad h M N P t R S=>Pu (Qw (Pu (P7 (yV (s:={s with heap:=M,toks:=N}) f.WP f.YY P R (H.WU B es t) (rl (ax b)) S λe T W X D Y=>S7 (F .WL _ g e T W X (q.WF (t.WF D)).WT (m.WU k (q.WF (t.WF D))) rfl Y)))))))
 .show Ro c (O (.Attribute x y z)) n.line d=PN J;cases c<;>rfl
 .cases c<;>rfl
theorem F1(j:bW I V p a){i y:aL}:eV I V p (.Zh r i y):=λ{af ag c g ah s Q u v} b k l K M=>nn (f:=cu I V g u v s) b λz d w b=>g9 (e:=λz=>cu I V g u v s (.Assign z d w)) b λA b=>gO (y:=λA=>cu I V g u v s (.Assign [A] d w)) b λB C D b=>by
 refine T0 ((bi j y).1 (Q:=λd E=>au p r c E λm n=>au p i c n λh f=>hv m h d f λe=>Q .WL c e) (ax (ar b)) k l K λm N E ai t1 F o P R=>?_) ?_ ?_;·show Pq _ _ (QB (.Subscript B C D) g N) _ _ _;erw[arm_assign_Subscript];exact Pu (P7 ((bi j r).1 (Q:=λx n=>au p i c n λh f=>hv x h m f λe=>Q .WL c e) (ax (ar (ar b))) F (l.WL (t1:=t1) k o) R λx aj n al am G q S T=>Pu (P7 ((bi j i).1 (Q:=λh f=>hv x h m f λe=>Q .WL c e) (ar (ar (ar b))) G (l.WU k (o.WF q)) T λan ao f W X Y t Z aa=>Pu (Qw (Pu (P7 (F0 (s:={s with heap:=W,toks:=X}) j.WP Y (S.WU G es t) Z (P.WU F es (q.WF t)) aa λe ab ac ad H ae=>S7 (M .WL _ c e ab ac ad (o.WF (q.WF (t.WF H))).WT (l.WU k (o.WF (q.WF (t.WF H)))) rfl ae)))))))))
 .show Ro d (O (.Subscript B C D)) w.line g=PN J;cases d<;>rfl
 .cases d<;>rfl
theorem CN{d:dT}{f:Sh}{h:aa}{a:Pl}{e:Pl->Pn->Prop}(p:f=e3 d)(j:aA I b s.heap)(k:ay s.heap o n)(l:ay s.heap h a)(c:hK d o h b Q)(m:aS I b s Q g):Pq (Py I.r I.q) V (T3 f n a) g e s:=by
 subst p;rcases d with _|_|_|_|_|_;·exact gJ (h:=λn a=>Q (.a (n+a)) b) (c:=λn a=>Pq _ V (T3 (e3 .WM) n a) g e s) c k l λi q r t c=>PySem.P.iadd_int (aS.WX j m d_ c)
 .exact gJ (h:=λn a=>Q (.a (n-a)) b) (c:=λn a=>Pq _ V (T3 (e3 .WV) n a) g e s) c k l λi q r t c=>PySem.P.isub_int (aS.WX j m d_ c)
 .exact Pz c
 .exact Pz c
 .exact Pz c
 .exact Pz c
theorem NI(w:bW I V p a){i:dT}:eV I V p (.Zc k i r):=λ{Z aa j l x s Q m n} b c e f y=>y3 (g:=cu I V l m n s) b λo z d A b=>eS (y:=λo=>cu I V l m n s (.AugAssign o z d A)) b λab ac b=>by have g:=pG (ax (ar b));refine cm (c:=λq=>au p r j x λd t=>hK i q d t λc h=>Q .WL (bD j k c) h) f λq B f=>wpAny_AugAssign_Name (e.X7 g.k? g.Y1 B λad C=>(bi w r).1 (ar (ar b)) c e f λd ae t D t1 E u F G=>CN (s:={s with heap:=D,toks:=t1}) (dZ (ax b)) E (C.WU c es u) F G λaf ag h H K M N P R=>?_);have v:=u.WF N;exact(e.WU c v).XE (s:={s with heap:=H,toks:=K}) M g P λS T W X Y=>y .WL _ _ h S T W (v.WT.WF X) Y rfl R
theorem NJ(c:bW I V p a){e:aL}{m:dT}:eV I V p (.Z_ r l m e):=λ{ao ap f n aq s Q o q} b d g G H=>y3 (g:=cu I V n o q s) b λt K h M b=>j4 (y:=λt=>cu I V n o q s (.AugAssign t K h M)) b λas av aw b=>by have u:=rl (ar (ax b));refine wpAny_AugAssign_AttributeAny ((bi c r).1 (Q:=λv w=>dB p v l w λN x=>au p e f x λh y=>hK m N h y λd z=>fS p v l d z λi=>Q .WL f i) (ax (ar b)) d g G λay az w P t1 A B C R=>Es (s:={s with heap:=P,toks:=t1}) c.WP c.E? A C u R λaA aB x S T D j W X=>(bi c e).1 (s:={s with heap:=S,toks:=T}) (ar (ar b)) D (g.WU d (B.WF j)) X λaG aH y Y Z aa k ab ac=>CN (s:={s with heap:=Y,toks:=Z}) (dZ (ax (ax b))) aa (W.WU D es k) ab ac λaI aJ z ad ae af E ag ah=>yV (s:={s with heap:=ad,toks:=ae}) c.WP c.YY af (C.WU A es (j.WF (k.WF E))) ag u ah λi ai aj al am an=>?_);have F:=B.WF (j.WF (k.WF (E.WF am)));exact H .WL _ f i ai aj al F.WT (g.WU d F) rfl an
theorem Mr(i:bW I V p a):eV I V p (.Y r):=λ{u v e j w s Q k l} b f c m n=>Ge (e:=cu I V j k l s) b λg x b=>by
 refine wpAny_Expr_any ((bi i r).1 (Q:=λy d=>Q .WL e d) (ar b) f c m λg z d o t1 q h A t=>n .WL _ e d o t1 q h.WT (c.WU f h) rfl t) ?_ ?_;·unfold interactive;erw[c.Z,c.Y1];rfl
 .cases g<;>first|rfl|exact c4 (ax b)
end
section
theorem E8{m:List PF}{i:RE->Pn->Prop}(g:Nat->(Pn->Prop)->Prop)(o:∀c (j:Pn->Prop) (k:Pl->Pn->Prop) (l:Bool->Pn->Prop) (h:Rb->Pn->Prop),(∀e s,e<c->(∀b,g e b->b s)->j s)->(∀s,Pq (Py I.r I.q) V (Se m x) h k s->l L s)->(∀s,Pq (Py I.r I.q) V (Se [] x) (λf s=>i (.ok f) s) k s->l J s)->(∀s,j s->h .next s)->(∀s,j s->h .cont s)->(∀s,i (.ok .next) s->h .brk s)->(∀n s,i (.ok (.ret n)) s->h (.ret n) s)->g c λs=>Pq (Py I.r I.q) V (Rp q x (PW q x)) l k s)(c:Nat)(a:∀b,g c b->b s):Rq (Py I.r I.q) V (.whileLoop q m [] x) i s:=codeAny_whileLoop (λc s=>∀b,g c b->b s) (λc d p=>p _ (o c (λs=>∃e,e<c/\∀b,g e b->b s) _ _ _ (λe d r a=>⟨e,r,a⟩) (λd a=>a) (λd a=>a) (λd a=>a) (λd a=>a) (λd a=>a) (λd d a=>a))) c a
theorem E7(P:bW I V p a){l:aI}(R:h2 I V p l):eV I V p (.Za r l):=λ{h S c w b s Q T F} i W X x y=>F' (g:=cu I V w T F s) i λas av aw ay i=>by
 obtain rfl:=Qk.mp (ax i);obtain⟨d,x⟩:=x;refine wpAny_While (E8 (λd Y=>∀j e g z,aA I e g->a1 (dw w) b s.heap e g->bz I S j w e g->iS (λc b Q=>au p r c b Q) (λc b Q=>bo p l c b Q) d j e Q->Y {s with heap:=g,toks:=z}) ?_ d λZ k=>k c b s.heap s.toks W (a1.WZ _ _ _) X x);intro d aa F aB aG ab ac ad ae af ag ah j e g z A G B H;rcases d with _|d;·exact H.elim
 .refine(bi P r).2 (s:={s with heap:=g,toks:=z}) (ax (ar i)) A B (j6 (au p r j e) H) λai aj K t1 M m n=>?_;rcases ai with _|_;·exact ad _ (TV (y .WL .next j aj K t1 M (G.WF m.WT) (B.WU A m) rfl n))
  .refine ac _ (R (s:={s with heap:=K,toks:=t1}) (ar (ar i)) M (B.WU A m) n λal f o q t u C am D h v=>?_);have E:=G.WF (m.WT.WF am);have N:iS (λc b Q=>au p r c b Q) (λc b Q=>bo p l c b Q) d o q Q->aa {s with heap:=t,toks:=u}:=λn=>ab d _ (Nat.lt_succ_self d) λZ k=>k o q t u C E D n;induction al with
   |WL=>obtain rfl:=h;exact ae _ (N v)
   |Yz=>obtain rfl:=h;exact af _ (N v)
   |YA=>obtain rfl:=h;exact ag _ (y .WL .next o q t u C E D rfl v)
   |p an=>refine az h λao ap aq=>?_;obtain rfl:=ap;exact ah _ _ (y (.p an) _ o q t u C E D ⟨ao,rfl,aq⟩ v)
theorem L2{o:List PF}{k:RE->Pn->Prop}(h:Nat->(Pn->Prop)->Prop)(t:∀d (l:Pn->Prop) (i:Pl->Pn->Prop) m (p:Pl->Pn->Prop) (r:Pn->Prop) (j:Rb->Pn->Prop),(∀g s,g<d->(∀c,h g c->c s)->l s)->(∀s,Pq (Py I.r I.q) V (Se [] x) (λf s=>k (.ok f) s) i s->m U s)->(∀e s,Pq (Py I.r I.q) V (SG q n e) (λb s=>p e s) i s->m (O e) s)->(∀e s,Pq (Py I.r I.q) V (QB q x e) (λb s=>r s) i s->p e s)->(∀s,Pq (Py I.r I.q) V (Se o x) j i s->r s)->(∀s,l s->j .next s)->(∀s,l s->j .cont s)->(∀s,k (.ok .next) s->j .brk s)->(∀e s,k (.ok (.ret e)) s->j (.ret e) s)->h d λs=>Pq (Py I.r I.q) V (Rc n) m i s)(d:Nat)(a:∀c,h d c->c s):Rq (Py I.r I.q) V (.forLoop q n o [] x) k s:=codeAny_forLoop_any (λd s=>∀c,h d c->c s) (λd b u=>u _ (t d (λs=>∃g,g<d/\∀c,h g c->c s) _ _ _ _ _ (λg b v a=>⟨g,v,a⟩) (λb a=>a) (λb b a=>a) (λb b a=>a) (λb a=>a) (λb a=>a) (λb a=>a) (λb a=>a) (λb b a=>a))) d a
theorem u7(a5:bW I V p a){c:aI}(R:h2 I V p c){E:ej}{aL:List PF}{ac:Nat->Pv->Prop}{z:dh}{Q:bb->al->ab->Prop}{aM:Rb->Pn->Prop}{aR:RE->Pn->Prop}(as:∀f aS,aM f aS->aR (.ok f) aS)(a6:l4 B E q=L)(a7:i6 I.Q I.P B c aL=L)(M:dX I V q H n z w ac)(ad:aA I b s.heap)(aT:bz I B N x b s.heap)(S:∀c d,s.heap.get? c=O d->m.get? c=O d)(T:∀c,H c->s.heap.get? c=U)(aU:ac 0 m)(a8:b_ (λN b Q=>bo p c N b Q) E z w N b Q)(au:bp I B x b s Q aM):Rq (Py I.r I.q) V (.forLoop q n aL [] x) aR {s with heap:=m,toks:=l}:=by
 have a9:aA I b m:=ad.W' S;refine L2 (λaV a'=>∀i A j o ae,aV=w.length-i->i<=w.length->aA I j o->a1 (λc=>H c\/dw x c) b m j o->ac i o->bz I B A x j o->b_ (λN b Q=>bo p c N b Q) E z (w.drop i) A j Q->a' {s with heap:=o,toks:=ae}) ?_ w.length λF k=>k 0 N b m l rfl (QD _) a9 (a1.WZ _ _ _) aU (aT.WU ad (a1.W' S)) a8;intro aV ba bc bP bd bQ bR be bf bg bh bi bj bk bl bm i A j o ae bn bq af av aw aW r;have W:∀c,H c->¬cI j c/\I.YQ.get? c=U:=λc e=>by
  have R:=T c e;refine⟨λf=>?_,?_⟩
  .rcases av.WG c f with t|t;·exact ad.Xx R t
   .refine az (M.WT 0 m aU c e) λd ag F=>?_;rw[ag]at t;injection t
  .rcases h:I.YQ.get? c with _|d;·rfl
   .rw[ad.WQ c d h]at R;injection R
 have ah:∀c,dw x c->¬H c:=λc e h=>by obtain⟨_,_,d,ag,_⟩:=aT.Xb c e;rw[T c h]at ag;injection ag
 have aX:gn H o:=λc e=>M.WT i o aw c e;have ax:∀{C u},a1 (λc=>H c\/dw x c) b m C u->a1 (dw x) b s.heap C u:=λP=>⟨λc d g ay X=>P.WQ c d (S c d g) ay λe=>e.elim (λh=>by rw[T c h]at g;injection g) X,(λc f=>by
  rcases P.WG c f with t|t;·exact .inl t
  .right;rcases h:s.heap.get? c with _|d;·rfl
   .rw[S c d h]at t;injection t),λc d g=>P.Zs c d (S c d g)⟩;by_cases Y:i<w.length
 .have br:w.drop i=w[i]::w.drop (i+1):=Sr Y;rw[br]at r;obtain⟨bs,r⟩:z.WP j/\aP (cA E w[i] A) λai=>bo p c ai j λZ G K=>gD Z (b_ (λN b Q=>bo p c N b Q) E z (w.drop (i+1)) G K Q) (Q .WL G K) (λv=>Q (.p v) G K):=r;refine cm (c:=λai=>bo p c ai j λZ G K=>gD Z (b_ (λN b Q=>bo p c N b Q) E z (w.drop (i+1)) G K Q) (Q .WL G K) (λv=>Q (.p v) G K)) r λai bt r=>?_
  .refine Qo (M.Z6 (Q:=λv bu=>bd v bu) (s:={s with heap:=o,toks:=ae}) (g:=bc) aw af bs (P8 Y) W λv D t1 aB aY y=>bh _ _ ?_) (λbv aj aZ=>?_) λF F e=>e
   .skip;obtain⟨am,aG⟩:=af.XA (H:=H) (λc e=>⟨aX c e,W c e⟩) y;have bx:a1 (λc=>H c\/dw x c) j o j D:=⟨λc d g F X=>y c d (λh=>X (.inl h)) g,λc f=>.inl f,λc d g=>by
     by_cases h:H c;·exact az (M.WT (i+1) D aY c h) λbB bC F=>⟨bB,bC⟩
     .exact⟨d,y c d h g⟩⟩;have an:bz I B A x j D:=aW.XW (λc d e g=>y c d (ah c e) g) aG;refine Fn (s:={s with heap:=D,toks:=t1}) a5.Zj.Zo a6 bt am an aB λbD bE bF a0 bG=>bi _ (R (s:={s with heap:=bD,toks:=bE}) a7 bF bG r λZ f ao C u ap aH P aJ aq ar=>?_);have aK:a1 (λc=>H c\/dw x c) b m C u:=av.WF (bx.WF ((a0.WF P).Xm λF e=>.inr e));have a2:=a0.WF P;have bS:∀c,dw x c->¬H c:=ah;have bH:ac (i+1) u:=M.ZK _ _ _ aY (λc d e g=>a2.WQ c d g (W c e).1 λh=>ah c h e) λbT d g bI bJ=>qv am an.X4 a2 g bI bJ;have a3:b_ (λN b Q=>bo p c N b Q) E z (w.drop (i+1)) ao C Q->ba {s with heap:=u,toks:=ap}:=λe=>be (w.length-(i+1)) _ (by erw[bn];exact aQ bA jl rfl Y) λF k=>k (i+1) ao C u ap rfl Y aH aK bH aJ e;induction Z with
    |WL=>obtain rfl:=aq;exact bj _ (a3 ar)
    |Yz=>obtain rfl:=aq;exact bk _ (a3 ar)
    |YA=>obtain rfl:=aq;exact bl _ (as _ _ (au .WL .next ao C u ap aH (ax aK) aJ rfl ar))
    |p bK=>refine az aq λv bL aB=>?_;obtain rfl:=bL;exact bm _ _ (as _ _ (au (.p bK) _ ao C u ap aH (ax aK) aJ ⟨v,rfl,aB⟩ ar))
   .rcases bv with _|v;·exact aZ.elim
    .exact bg _ _ aZ
 .have bM:i=w.length:=(cp a_ f4 bX rfl bq Y);subst bM;rw[Ux]at r;have r:z.WP j/\Q .WL A j:=r;refine M.Z9 (s:={s with heap:=o,toks:=ae}) aw af r.1 W λD t1 y=>?_;obtain⟨am,aG⟩:=af.XA (H:=H) (λc e=>⟨aX c e,W c e⟩) y;have an:bz I B A x j D:=aW.XW (λc d e g=>y c d (ah c e) g) aG;have aj:=ax av;have bN:a1 (dw x) b s.heap j D:=by refine⟨λc d g ay X=>y c d (λh=>by rw[T c h]at g;injection g) (aj.WQ c d g ay X),aj.WG,λc d g=>?_⟩;obtain⟨a4,bO⟩:=aj.Zs c d g;exact⟨a4,y c a4 (λh=>by rw[T c h]at g;injection g) bO⟩
  exact bf _ (TV (as _ _ (au .WL .next A j D t1 am bN an rfl r.2)))
theorem LY(d:bW I V p a){f:aI}(z:h2 I V p f){j:ej}:eV I V p (.R j (.X r) f):=λ{P A g B k s Q l C} b m n e D=>tG (h:=cu I V B l C s) b λR E S T c b=>by
 obtain rfl:=Qk.mp (ax (ax b));have o:=ar (ax b);have q:bc I.Q I.P A r E=L:=ax (ar b);by_cases t:r=.D;·subst t;exact Pz e
 refine TY ((bi d r).1 (Q:=λu h=>aP (f_ u h) λc=>b_ (λg k Q=>bo p f g k Q) j c.1 c.2 g h Q) q m n e λW u h v t1 w x F i=>cm i λc G i=>?_) (tv q t);obtain⟨X,Y⟩:=c;exact uh (s:={s with heap:=v,toks:=t1}) d.WP d.Zj.Zo w (I5 o) F G λZ aa ab ac H y K M N ad=>u7 d z (s:={s with heap:=v,toks:=t1}) (aM:=l) (λy y e=>e) o (ar (ar b)) H w (n.WL (t1:=t1) m x) M N K i (D.W4 x.WT)
theorem CA(a:l6 q=L)(k:∀xs b c,y (.Tuple xs b c)):y q:=Expr.Tuple.elim (motive_1:=y) q (Q3 a) k
def Di(p:as)(d:aI)(e:ej)(a:al)(Q:bb->al->ab->Prop)(f:aa)(b:ab):Prop:=gA f λc=>aP (b c) λg=>ea g λxs=>b_ (λa h Q=>bo p d a h Q) e (.x c xs) (gj 0 xs) a b Q
noncomputable def HI(a:aa->ab->Prop)(vs:List aa)(b:ab):Prop:=g5 vs λc=>a c b
theorem L1(j:bW I V p a){g:aI}(T:h2 I V p g){h:ej}:eV I V p (.R h (.Xe r) g):=λ{G w b m n s Q k o} c x l y W=>tG (h:=cu I V m k o s) c λq t z X A c=>by
 obtain rfl:=Qk.mp (ax (ax c));have B:=ar (ax c);have Y:l6 q=L:=ax (ax (ar c));have d:k6 (λC xs=>ev (λD=>d0 u5 (fD I.Q w C)&&(hB D&&bc I.Q I.P w r D)) xs) t=L:=ar (ax (ar c));have Z:=ar (ar c);revert B;refine CA (y:=λq=>l4 w h q=L->cu I V m k o s (.For q t z [] A)) Y λH K M B=>fn (y:=λt=>cu I V m k o s (.For (.Tuple H K M) t z [] A)) d λC aa xs ab d=>g9 (e:=λxs=>cu I V m k o s (.For (.Tuple H K M) (.Call (.Name C aa) xs [] ab) z [] A)) d λD d=>TY ?_ (λN=>rfl);erw[T7];refine Pu (jX j (LS (ax d)) x l λal ac=>?_);obtain rfl:=ac;have ad:gU I V p (.c r .e):=Dw (bi j r).1 ud;refine qV j ad (j:=[]) (jU λe l=>by injection l) (Qv.mpr ⟨ax (ar d),Qv.mpr ⟨ar (ar d),rfl⟩⟩) x l (Q:=HI (Di p g h b Q)) y λus vs u i t1 P R ae f=>hz (e:=λv=>Di p g h b Q v u) (f:=λvs=>Pq _ V (Qb (.type "enumerate") ([]++vs)) _ _ _) f ae λv E f F=>?_
 .skip;refine pQ (a:=λe=>aP (u e) λG=>ea G λxs=>b_ (λb n Q=>bo p g b n Q) h (.x e xs) (gj 0 xs) b u Q) (b:=λv=>ay i v E->_) f (λe f F=>?_) F;obtain rfl:=F;refine Bd (b:=λxs=>b_ (λb n Q=>bo p g b n Q) h (.x e xs) (gj 0 xs) b u Q) f λaf ag f=>cn (P.WE ag) λam an ah ao ap=>?_;show Pq _ _ (Qb (.type "enumerate") [.ref e]) _ _ _;refine call_enumerate_list ah.isList λaq S ai as aj=>wpAny_pyIter_enum S (u7 j T (s:={s with heap:=i,toks:=t1}) (l:=t1) (aM:=k) (λN N y=>y) B Z (dX.Xe j.Zj.Zo (i.objs.size+1) i.objs.size e (SP _) af) P (l.WL (t1:=t1) x R) aj ?_ ⟨⟨_,S⟩,ai⟩ f (W.W4 R.WT));rintro au (rfl|rfl)
  .rcases E:i.get? (i.objs.size+1)with _|X;·rfl
   .exact absurd (QV E) (RI.mpr (SU _))
  .exact e9 _
def KQ(p:as)(e:aI)(f:ej)(a:al)(Q:bb->al->ab->Prop)(g:aa)(b:ab):Prop:=gA g λc=>aP (b c) λh=>n0 h λi d=>b_ (λa j Q=>bo p e a j Q) f (.ZV c i d) (io d) a b Q
theorem LZ(l:bW I V p a){e:aI}(al:h2 I V p e){m:ej}:eV I V p (.R m (.Xu r) e):=λ{S T g n u s Q o v} h A d B am=>tG (h:=cu I V n o v s) h λw x C i D h=>by
 obtain rfl:=Qk.mp (ax (ax h));have E:=ar (ax h);have an:l6 w=L:=ax (ax (ar h));have b:mg (λf xs W q=>W.isEmpty&&(xs.isEmpty&&j5 (λi X G=>(X==("items":Pr)&&G.endLine==q.line)&&(nx i&&bc I.Q I.P T r i)) f)) x=L:=ar (ax (ar h));have ao:=ar (ar h);revert E;refine CA (y:=λw=>l4 T m w=L->cu I V n o v s (.For w x C [] D)) an λY Z aa E=>mf (y:=λx=>cu I V n o v s (.For (.Tuple Y Z aa) x C [] D)) b λf xs W q b=>?_;obtain rfl:=Qk.mp (ax b);obtain rfl:=Qk.mp (ax (ar b));refine j4 (y:=λf=>cu I V n o v s (.For (.Tuple Y Z aa) (.Call f [] [] q) C [] D)) (ar (ar b)) λi X G b=>?_;obtain rfl:=P5 (ax (ax b));have ap:=ar (ax b);refine TY ?_ (λH=>rfl);erw[arm_eval_Call,vM (ax (ar b))];refine Pu ((bi l r).1 (Q:=KQ p e m g Q) (ar (ar b)) A d B λab aq y ac t1 ad ae K t=>Pu (Qw (pQ (a:=λc=>aP (y c) λS=>n0 S λk j=>b_ (λg u Q=>bo p e g u Q) m (.ZV c k j) (io j) g y Q) (b:=λab=>ay ac ab aq->_) t (λc t K=>?_) K)));obtain rfl:=K;refine Ds (d:=λk j=>b_ (λg u Q=>bo p e g u Q) m (.ZV c k j) (io j) g y Q) t λk j M t=>dY (ad.Xv M) λaJ af aK aM=>?_;have as:methodCallPos L i n G q=PN q:=if_pos ap;refine cn (id af) λau aQ av aw H=>?_;unfold methodCall;refine Pu (P7 (SH (s:={s with heap:=ac,toks:=t1}) af.dictOf.typeIs Wk Wj F.type_dict_items (λe d=>by injection d with d;subst d;exact⟨au,av,aw.2.1⟩) (Pu (Sz as (qV l ud (c:=.e) (j:=[.ref c]) (jU λc d=>by injection d) rfl ad (d.WL (t1:=t1) A ae) (Q:=λus ag=>us=[]/\ag=y) ⟨rfl,rfl⟩ λus vs ag z ah N az aA aB=>?_)))));obtain⟨rfl,rfl⟩:=aB;have aG:vs=[]:=by cases vs with|nil=>rfl|cons _ _=>exact aA.elim
 subst aG;refine dY (N.Xv M) λai P aR aH=>?_;show Pq _ _ (Qb (.builtin "dict.items") [.ref c]) _ _ _;refine T6 Wj P.dictOf.typeIs F.entry_dict_items (F.args_dict_items_1 _) (meets_dict_items _ _ (N.Xw l.WP M)) ⟨⟨ai,P.dictOf⟩,wpAny_pyIter_items (kvs:=ai) (ep:=k) (knd:=QA I.r I.q) ⟨_,Qu _ rfl,rfl,rfl⟩ (P.push _) ?_⟩;dsimp only;have aj:=ae.WF az;refine u7 l al (s:={s with heap:=z,toks:=ah}) (aM:=o) (λH H B=>B) E ao (dX.Xu l.Zj.Zo (z.push {cls:=.type "dict_items",data:=.fields #[.ref c]}).objs.size c k j) N (d.WL (t1:=ah) A aj) (λe i R=>cY _ _ _ (cY _ _ _ R)) ?_ ⟨_,_,by erw[aH.Xd];exact Qu _ rfl⟩ t (am.W4 aj.WT);rintro aS rfl;rcases R:z.get? (z.push {cls:=.type "dict_items",data:=.fields #[.ref c]}).objs.size with _|i;·rfl
 .have:=QV R;rw[UJ]at this;exact absurd this (RI.mpr (SU _))
end
section
set_option backward.match.sparseCases true
section
theorem II{xs:List Pr}{d:List PD}{g:Pr->PD->Bool}(h:d.length=xs.length)(e:((xs.zip d).map (λa=>R9 a.1 a.2)|>.filterMap λ|.Name c f=>if g c f then O c else U|_=>U).length=xs.length):((xs.zip d).map (λa=>R9 a.1 a.2)|>.filterMap λ|.Name c f=>if g c f then O c else U|_=>U)=xs:=by induction xs generalizing d with
 |nil=>rfl
 |cons i xs k=>
  rcases d with _|⟨a,d⟩;·simp at h
  .rw[Qn,Qj]at e⊢;by_cases j:g i a=L;·rw[VV (b:=i) (by exact if_pos j)]at e⊢;erw[k (by simpa using h) (by simpa using e)];rfl
   .rw[List.filterMap_cons_none (by exact if_neg j)]at e;have:=List.length_filterMap_le (λ|Expr.Name c f=>if g c f then O c else U|_=>U) ((xs.zip d).map (λa=>R9 a.1 a.2));rw[Pt,Tq]at this;simp only[PL]at e h;exact(b8 iN o9 .K rfl e this).elim
theorem Gk{c:Type}{d e h b f g i:Bool}{l:QC (Option c)}{j k:c}(m:A=J)(n:e=h)(a:(if d then O J else if h then O J else if b then O J else if f then O J else if g then U else O L)=O i)(o:b=J->j=k):(if(d||A)=L then PN U else if e=L then PN U else if b=L then PN U else if f=L then PN U else if g=L then l else PN (O j))=(PN (if i then O k else U):QC (Option c)):=by
 subst m n;cases d
 .cases e
  .cases b
   .cases f
    .cases g;·injection a with a;subst a;exact congrArg (λp=>PN (O p)) (o rfl)
     .exact aU a
    .injection a with a;subst a;rfl
   .injection a with a;subst a;rfl
  .injection a with a;subst a;rfl
 .injection a with a;subst a;rfl
theorem Fv{us vs:List Po}{xs:List Pr}{g h:PD}(c:bz I B N x b m)(i:kR B j us=O xs)(d:Af B.Z us vs=O A):swappedStores [.Tuple us k g] (.Tuple vs l h) x=PN (if A then O xs else U):=by
 have n:x.blockKind=.function:=by unfold Env.blockKind;erw[c.Z,c.Y1];rfl
 have o:(vs.any λ(a:Po)=>match a with|.Starred ..=>L|_=>J)=vs.any λa=>!hB a:=by congr 1;funext a;cases a<;>rfl
 obtain⟨q,r,s,p,e,rfl⟩:=ql i;rw[<-c.Z]at d;refine Gk (by erw[n];rfl) o d λf=>II (xs:=xs) (d:=p) e ?_;rw[UX,bne_eq_false_iff_eq,Pt,Tq,e,Uc]at f;exact f.1
theorem L'(d:Nat)(e:aa):∀(c:List Nat)(us:List aa)(a:al),c.contains d=J->(c.zip us).foldl (λa b=>bD a b.1 b.2) (bD a d e)=bD ((c.zip us).foldl (λa b=>bD a b.1 b.2) a) d e:=by intro c;induction c with
 |nil=>exactλ_ _ _=>rfl
 |cons k c h=>
  intro us a f;rcases us with _|⟨g,us⟩;·rfl
  .rw[List.contains_cons,UX]at f;exact(congrArg ((c.zip us).foldl λa b=>bD a b.1 b.2) (yU a d k e g (ne_of_beq_false f.1))).trans (h us (bD a k g) f.2)
theorem L_:∀{a:List Nat}{us:List aa}{b:al},qe a=L->us.length=a.length->((a.reverse).zip us.reverse).foldl (λb c=>bD b c.1 c.2) b=(a.zip us).foldl (λb c=>bD b c.1 c.2) b:=by intro a;induction a with
 |nil=>intro us b _ _;rfl
 |cons f a g=>
  intro us b h d;rcases us with _|⟨i,us⟩;·injection d
  .have e:(!a.contains f&&qe a)=L:=h;rw[Qc]at e;erw[Ra,Ra,List.zip_append (by erw[Sn,Sn];exact(Th d).symm),Uq,g e.2 (Th d)];exact(L' f i a us b ((TK _).mp e.1)).symm
theorem G_(D:bW I V p a){T:di}:eV I V p (.Y0 j T):=λ{aR aS v l aT s Q w x} b E y F W=>nn (f:=cu I V l w x s) b λX q G b=>g9 (e:=λX=>cu I V l w x s (.Assign X q G)) b λY b=>hP (y:=λY=>cu I V l w x s (.Assign [Y] q G)) b λus k c b=>hP (y:=λq=>cu I V l w x s (.Assign [.Tuple us k c] q G)) b λvs aU aV b=>by
 have ad:=ax (ar (ax b));have Z:=dZ (ar (ar (ax b)));obtain⟨xs,H⟩:=RG.mp (ax (ax b));obtain⟨h,ae⟩:=RG.mp (ax (ar b));delta cu;erw[exec_Assign_arm];refine Pu (Qw (Pu (Sz yR ?_)));simp only[Sa,if_false];refine Pu (TX (gi D T (Q:=λvs m=>aP (cA (.Y5 j) (.h vs) v) λr=>Q .WL r m) (ar (ar b)) E y F λt d m n t1 af ah K z=>cm (c:=λr=>Q .WL r m) z λr e z=>?_))
 .have o:j.length=t.length:=by
   unfold cA at e;dsimp only at e;by_cases g:j.length=t.length;·exact g
   .rw[if_neg g]at e;injection e
  have M:=K.Xd;have N:d.toArray.size<=PV:=by erw[RZ,Qd];exact em bX (a8 av cj) ot (ai ap jv) rfl M Z o
  refine⟨by erw[Qd];exact em (a8 ag cj) ou bX (ai av jv) rfl Z M o,?_⟩;have aa:=af.W' (cY (m:=n) {cls:=.type "tuple",data:=.seq d.toArray});have P:=ah.WF (a1.W' (cY (m:=n) {cls:=.type "tuple",data:=.seq d.toArray}));have aj:=y.WU E P;have al:ay (n.push {cls:=.type "tuple",data:=.seq d.toArray}) (.h t) (.ref n.objs.size):=h' (l:=0) (Qu _ rfl) N (by simpa using K.WR (cY _));refine Pu (Sz (Fv (A:=h) y H ae) ?_);rcases h with _|_;·simp only[Sa,if_false];unfold assignStores;show Pq _ _ (assignAll _ [QB (.Tuple us k c) l]>>=λaW=>PN Flow.next) _ _ _;refine Pu ?_;show Pq _ _ (QB (.Tuple us k c) l _) _ _ _;exact tf (s:={s with heap:=n.push {cls:=.type "tuple",data:=.seq d.toArray},toks:=t1}) D.Zj.Zo H e aa aj al λA am an B ao=>PH (W .WL _ _ m A am an (P.WT.WF B) ao rfl z)
  .simp only[if_true];unfold assignStores;obtain⟨u,aX,aq,aY,aZ,rfl⟩:=ql H;have as:xs.length=d.toArray.size:=by erw[RZ];exact f1 bX lm ou (a9 ag bj) rfl u M o
   refine Pu (TP (Pu ?_));erw[as];refine wpAny_unpackItems_tuple D.Zj.Zo ⟨_,Qu _ rfl,rfl,_,rfl⟩ λA au=>Pu ?_;have R:∀h C,(n.push {cls:=.type "tuple",data:=.seq d.toArray}).get? h=O C->A.get? h=O C:=λh C g=>au h C (λaw=>by rw[aw,e9]at g;injection g) g;have B:=P.WF (a1.W' (b:=m) R);have aA:r=(j.zip t).foldl (λv c=>bD v c.1 c.2) v:=by unfold cA at e;dsimp only at e;rw[if_pos o]at e;exact(PS e).symm
   refine yO (b:=(xs.zip j).reverse) (us:=t.reverse) (s:={s with heap:=A,toks:=t1}) (λc S=>aq c (Tn.mp S)) (by simp[u]) (λi c f S ab q s Q F=>?_) (by simp[u];exact aQ bX mD rfl o) (aa.W' R) (y.WU E B) ?_ λaB aG aH aI ac=>PH ?_
   .rw[QT]at ab;refine az (Q2.mp ab) λaJ aK aL=>?_;obtain rfl:=aL;have N:(xs.zip j).reverse.map (·.1)=xs.reverse:=by erw[R0];rw[List.map_fst_zip];exact aQ bX a_ rfl u
    have:c.1=aJ:=by
     have g:((xs.zip j).reverse.map (·.1))[i]?=O c.1:=by erw[QT,S];rfl
     rw[N,aK]at g;exact(PS g).symm
    erw[<-this];exact wpAny_bindName F
   .have:d.toArray.toList.reverse=d.reverse:=by simp
    erw[this];exact((K.WR (cY _)).WR R).XJ
   .have aM:(xs.zip j).reverse.map (·.2)=j.reverse:=by erw[R0];rw[VE];exact aQ bX fP rfl u
    rw[aM,L_ ad o.symm,<-aA]at ac;exact W .WL _ _ m aB aG aH (B.WT.WF aI) ac rfl z
mutual
theorem F_(b:bW I V p a):∀h:gS,eV I V p h|.s k c=>NL b|.ZC j c=>Ff b|.Y0 j q=>G_ b|.A g l c=>F3 b|.Zh g i c=>F1 b|.Zc k m c=>NI b|.Z_ g l m c=>NJ b|.Y c=>Mr b|.l n e f=>KS b (j7 b e) (j7 b f)|.Za n d=>E7 b (j7 b d)|.R e (.X c) d=>LY b (j7 b d)|.R e (.Xe c) d=>L1 b (j7 b d)|.R e (.Xu c) d=>LZ b (j7 b d)|.p c=>Gp b|.YA=>Np|.Yz=>MQ|.D=>Mp
theorem j7(b:bW I V p a):∀d:aI,h2 I V p d|.e=>IF|.c s o=>MR (F_ b s) (j7 b o)
end
end
end
section
section
variable{A:RF}{B:PE}
noncomputable def jc(a:List (Pr×Pl))(b:Pr×Pl):List (Pr×Pl):=if(a.lookup b.1).isNone then a++[(b.1,b.2)]else a
theorem xG{a:Type}{b:Q4}{d:Decidable z}{e c:QC a}{Q:a->Pn->Prop}(f:¬z)(k:Pq b V c Q g s):Pq b V (@ite _ z d e c) Q g s:=by erw[if_neg f];exact k
theorem Ja{f:Pr×Pl->List (Pr×Pl)->QC (ForInStep (List (Pr×Pl)))}(e:∀d c,f d c=PN (.yield (jc c d))):∀(a b:List (Pr×Pl)),forIn a b f=(PN (a.foldl jc b):QC _):=by intro a;induction a with
 |nil=>intro b;rfl
 |cons h c g=>intro b;erw[Up,e,pure_bind];exact g _
theorem Nz{k:Pr}{a:List Arg}{l:List (Option Po)}{m:List Po}{o:FuncBody}{p:Qp}{q:List (Pr×Pw)}{r u v w x:Pl}{y:Option Pw}{z:Pw}{c:List Pr}{e h:List Pl}{Q:List (Pr×Pl)->Pn->Prop}(C:a.map (·.arg)=c)(D:∀{Q:Option (Array Pl)->Pn->Prop},(∀b,(b.getD #[]).toList=h->Q b s)->Pq (Py A B) V (Sd n) Q g s)(E:e.length<=c.length)(F:h.length<=c.length)(G:((c.take (c.length-h.length)).filter λd=>((c.zip e).lookup d).isNone)=[])(H:Q (c.filterMap λd=>((((c.drop (c.length-h.length)).zip h).foldl jc (c.zip e)).lookup d).map (d,·)) s):Pq (Py A B) V (bindArgs ⟨M,k,⟨[],a,U,[],l,U,m⟩,o,p,t,q,n,r,u,v,y,w,x,z⟩ ⟨e,[]⟩) Q g s:=by
 refine Pu (PH (Pu (D λb I=>?_)));subst I C;have j:(b.getD #[]).toList.drop ((b.getD #[]).toList.length-(a.map (·.arg)).length)=(b.getD #[]).toList:=by erw[Ua F];rfl
 refine xG (λf=>absurd E (Nat.not_le_of_gt (of_decide_eq_true (Qv.mp f).1))) (xG (λf=>?_) ?_);·have f:(!(((a.map (·.arg)).take ((a.map (·.arg)).length-((b.getD #[]).toList.drop ((b.getD #[]).toList.length-(a.map (·.arg)).length)).length)).filter λd=>(((a.map (·.arg)).zip e).lookup d).isNone).isEmpty)=L:=f;rw[j,G]at f;exact nomatch f
 refine Pu (Sz (Ja (λK N=>?_) _ _) (PH ?_))
 .unfold jc;by_cases i:(N.lookup K.1).isNone=L;·erw[if_pos i];exact if_pos i
  .erw[if_neg i];exact if_neg i
 show Q (((a.map Arg.arg)++[]).filterMap λd=>(((((a.map Arg.arg).drop ((a.map Arg.arg).length-((b.getD #[]).toList.drop ((b.getD #[]).toList.length-(a.map Arg.arg).length)).length)).zip ((b.getD #[]).toList.drop ((b.getD #[]).toList.length-(a.map Arg.arg).length))).foldl jc ((a.map Arg.arg).zip e)).lookup d).map (d,·)) s;erw[j,P3];exact H
theorem NM{a:Arguments}(b:a.posonlyargs=[])(c:a.vararg=U)(d:a.kwonlyargs=[])(e:a.kwarg=U):a=⟨[],a.args,U,[],a.kw_defaults,U,a.defaults⟩:=by obtain⟨f,g,h,i,j,k,l⟩:=a;subst b c d e;rfl
theorem Ml{a:Q8}{b:Arguments}(c:a.params=b):a={a with params:=b}:=by subst c;rfl
theorem Ny{b:Q8}{a:List Pr}{d c:List Pl}{Q:List (Pr×Pl)->Pn->Prop}(h:b.params.posonlyargs=[])(i:b.params.args.map (·.arg)=a)(j:b.params.vararg=U)(k:b.params.kwonlyargs=[])(l:b.params.kwarg=U)(m:∀{Q:Option (Array Pl)->Pn->Prop},(∀f,(f.getD #[]).toList=c->Q f s)->Pq (Py A B) V (Sd b.defaults) Q g s)(n:d.length<=a.length)(o:c.length<=a.length)(p:((a.take (a.length-c.length)).filter λe=>((a.zip d).lookup e).isNone)=[])(q:Q (a.filterMap λe=>((((a.drop (a.length-c.length)).zip c).foldl jc (a.zip d)).lookup e).map (e,·)) s):Pq (Py A B) V (bindArgs b ⟨d,[]⟩) Q g s:=by erw[Ml (NM h j k l)];exact Nz i m n o p q
theorem nb:∀{b:List Pr}{e:List Pl}{i:Nat}(d:b.Nodup)(a:i<b.length),(b.zip e).lookup b[i]=e[i]?|[],_,_,_,a=>by simp at a|c::xs,[],i,_,_=>by simp|c::xs,f::vs,0,_,_=>by erw[Qn,Qr];simp|c::xs,f::vs,i+1,d,a=>by erw[Qn,Qr];have g:(c::xs)[i+1]=xs[i]'(by simpa using a):=rfl;have:(xs[i]'(by simpa using a))≠c:=λh=>(RK.mp d).1 (h▸Rk _);erw[g,beq_false_of_ne this];exact nb (RK.mp d).2 (by simpa using a)
theorem pw:∀{c:List Pr}{d:List Pl}{a:Pr},a∉c->(c.zip d).lookup a=U|[],_,_,_=>by simp|_::_,[],_,_=>by simp|e::f,g::vs,a,b=>by erw[Qn,Qr];simp only[PM,not_or]at b;erw[beq_false_of_ne b.1];exact pw b.2
theorem EB(a:Pr):∀(d b:List (Pr×Pl)),(d.foldl jc b).lookup a=(b.lookup a).or (d.lookup a)
|[],b=>by simp
|(c,e)::g,b=>by
 erw[QJ];rewrite[EB a g];have h:(jc b (c,e)).lookup a=(b.lookup a).or (if a==c then O e else U):=by
  unfold jc;split;·rename_i f;erw[List.lookup_append,Qr,List.lookup_nil];cases B:a==c<;>rfl
  .rename_i f;cases B:a==c with|false=>simp|true=>obtain rfl:=P5 B;cases i:b.lookup a with|none=>simp[i]at f|some j=>rfl
 erw[h,Qr];cases b.lookup a<;>cases a==c<;>simp
theorem Dg:∀{c:List Pr}{d:List Pl}{f:Pr->Option Pl},c.length=d.length->(∀(i:Nat)(e:i<c.length)(g:i<d.length),f c[i]=O d[i])->c.filterMap (λh=>(f h).map (h,·))=c.zip d
|[],[],_,_,_=>rfl
|j::xs,k::vs,f,l,a=>by have m:f j=O k:=a 0 (by simp) (by simp);erw[VV (b:=(j,k)) (by rw[m];rfl),Qn,Dg (by simpa using l) λi e g=>a (i+1) (by simpa using e) (by simpa using g)];rfl
|[],_::_,_,a,_=>by simp at a
|_::_,[],_,a,_=>by simp at a
theorem Nx{e:Q8}{a:List Pr}{c b:List Pl}{Q:List (Pr×Pl)->Pn->Prop}(q:e.params.posonlyargs=[])(f:e.params.args.map (·.arg)=a)(l:e.params.vararg=U)(r:e.params.kwonlyargs=[])(t:e.params.kwarg=U)(u:∀{Q:Option (Array Pl)->Pn->Prop},(∀m,(m.getD #[]).toList=b->Q m s)->Pq (Py A B) V (Sd e.defaults) Q g s)(j:a.Nodup)(n:c.length<=a.length)(o:b.length<=a.length)(h:a.length<=c.length+b.length)(v:Q (a.zip (c++b.drop (b.length-(a.length-c.length)))) s):Pq (Py A B) V (bindArgs e ⟨c,[]⟩) Q g s:=by
 refine Ny q f l r t u n o ?_ ?_;·rewrite[VU];intro y w;obtain⟨i,k,rfl⟩:=List.mem_iff_getElem.mp w;erw[List.getElem_take];rw[Qs]at k;erw[nb j (bO (a8 ag (.w gw ap)) bA rfl k),P8 (dd su (a8 bj (.w pj ag)) (a8 bj ap) rfl h k)];simp
 .rewrite[Dg (d:=c++b.drop (b.length-(a.length-c.length))) (by erw[PC,Qe];exact b8 a_ (ai ap js) (a9 ap ws) rfl n h) λi f l=>?_];·exact v
  .erw[EB,nb j f];by_cases d:i<c.length;·erw[P8 d,List.getElem_append_left d];rfl
   .erw[R1 (aQ f4 fP rfl d),List.getElem_append_right (aQ f4 fP rfl d),VN];show List.lookup a[i] ((a.drop (a.length-b.length)).zip b)=_;have p:i-(a.length-b.length)<(a.drop (a.length-b.length)).length:=by erw[Qe];exact f1 bA o5 (ai ap kr) (a8 (.u ag ph) (.u ap ph)) rfl f d h
    have x:a[i]=(a.drop (a.length-b.length))[i-(a.length-b.length)]:=by erw[VN];congr 1;exact dd f4 sr (a9 ag (.i sK r9)) rfl d h
    erw[x,nb (j.sublist (List.drop_sublist _ _)) p,P8 (by rw[Qe]at p;exact f1 f4 ho sr (a8 r9 bj) rfl d f h)];congr 2;exact Ar.d3 [_,_,_,_] [] f4 ho (ai bj av) sr (a9 r9 (.i (.u bj pg) f5)) rfl d f o h
end
end
structure oi(I:aB)(f:Nat)(P:gW)(F:Q8)(aa:PA)(ac:List PF)(R:List Pr)(ad:List (Pr×Nat))(ab:List Pl):Prop where
 akx:I.YS.lookup (I.Zt f)=O aa
 aiy:aa.data=.func F
 ajz:F.body=.stmts ac
 ajx:F.closure=[]
 ZY:F.globals=I.I?
 ZM:F.builtins=RT
 aiz:codeIn I.YS F.code F.qualname=L
 q?:F.scope.isCoroutine=J
 afz:F.scope.isGenerator=J
 Y1:F.scope.kind=.function
 ady:F.params.posonlyargs=[]
 adx:F.params.args.map (·.arg)=R
 acz:F.params.vararg=U
 acy:F.params.kwonlyargs=[]
 acx:F.params.kwarg=U
 ZQ:R.Nodup
 YN:R.length=P.YN
 W8:P.YN<=P.W8
 afx:∀S∈R,F.scope.names.lookup S=O .local\/F.scope.names.lookup S=O .cell
 k?:∀S k,ad.lookup S=O k->(k<P.YN->R[k]?=O S)/\(P.YN<=k->S∉R)/\k<P.W8
 Z?:P.Zb=[]\/aZ I.YQ P.Zb ab
 ahz:ab.length<=R.length
 ahy:∀{ae:Q4}{af:PT}{ag:Pl->Pn->Prop}{s:Pn}{Q:Option (Array Pl)->Pn->Prop},I.YS.In s.heap->(∀aa,(aa.getD #[]).toList=ab->Q aa s)->Pq ae af (Sd F.defaults) Q ag s
 abx:i6 I.Q I.P ⟨F.scope,ad,P.W8⟩ P.F? ac=L
section
theorem DH{f:Pr->Option Rh}:∀{b:List Pr}{c:List Pl}{d:Pr->Option Pl}{a:Pr},b.Nodup->f a=O .local->bindL f (b.zip c) d a=((b.zip c).lookup a).or (d a)
|[],_,_,_,_,_=>by simp[bindL]
|_::_,[],_,_,_,_=>by simp[bindL]
|g::k,l::c,d,a,h,i=>by erw[Qn];unfold bindL;erw[DH (RK.mp h).2 i,Qr];cases e:a==g with
 |true=>obtain rfl:=P5 e;erw[pw (RK.mp h).1];simp[i]
 |false=>
  have:a≠g:=λj=>by rw[j,beq_self_eq_true]at e;cases e
  split<;>simp[this]
theorem DI{f:Pr->Option Rh}:∀{b:List Pr}{c:List Pl}{d:Pr->Option Pl}{a:Pr},b.Nodup->f a≠O .local->bindC f (b.zip c) d a=((b.zip c).lookup a).or (d a)
|[],_,_,_,_,_=>by simp[bindC]
|_::_,[],_,_,_,_=>by simp[bindC]
|g::k,l::c,d,a,h,i=>by erw[Qn];unfold bindC;erw[DI (RK.mp h).2 i,Qr];cases e:a==g with
 |true=>obtain rfl:=P5 e;erw[pw (RK.mp h).1];simp[i]
 |false=>
  have:a≠g:=λj=>by rw[j,beq_self_eq_true]at e;cases e
  split<;>simp[this]
theorem vx:∀{e:List (Pr×Rh)}{d:Nat}{b:List (Pr×Pw)}{c:Pr},(b.lookup c).isSome=L->((SJ d e b).lookup c).isSome=L
|[],_,_,_,a=>a
|(f,k)::g,d,b,c,a=>by
 unfold SJ;split
 .refine vx ?_;erw[Qr];split;·rfl
  .exact a
 .exact vx a
theorem qU:∀{c:List (Pr×Rh)}{d:Nat}{e:List (Pr×Pw)}{b:Pr},(b,NameKind.cell)∈c->((SJ d c e).lookup b).isSome=L
|[],_,_,_,a=>by simp at a
|(f,k)::g,d,e,b,a=>by
 unfold SJ;rcases PM.mp a with a|a;·cases a;erw[if_pos (by rfl)];refine vx ?_;erw[Qr,beq_self_eq_true];rfl
 .split;·exact qU a
  .exact qU a
theorem CY:∀(b:List aa)(a k:Nat),eB (b.map O++QE a U) k=b[k]?
|[],a,k=>by simp only[Sk,Rs,List.getElem?_nil];induction a generalizing k with|zero=>rfl|succ a c=>cases k with|zero=>rfl|succ k=>exact c k
|_::_,_,0=>rfl
|_::b,a,k+1=>CY b a k
theorem aZ.W0{vs:List Pl}(i:Nat)(b:aZ m xs vs):lh m xs[i]? vs[i]?:=by
 rcases b.Xp.W0 i with a|⟨f,c,d,a,e⟩;·erw[a.1,a.2];rfl
 .erw[d,a];exact⟨c,rfl,e⟩
theorem bz.Yf{e:gW}{j:Q8}{h:PA}{N:List PF}{o:List Pr}{r:List (Pr×Nat)}{P:List Pl}(i:oi I f e j h N o r P){p:Pn}{xs:List Pl}(B:aA I b s.heap)(m:x=newEnv j.scope s.heap.objs.size j.globals (SJ (s.heap.objs.size+1) j.scope.names []) (j.qualname++".<locals>.") (O (I.Zt f)) j.code U j.builtins)(n:InCallC s x.locals (bindL x.kindOf (o.zip xs) λC=>U) x.cells (bindC x.kindOf (o.zip xs) λC=>U) p)(D:aZ p.heap w xs)(t:w.length=e.YN):bz I ⟨j.scope,r,e.W8⟩ (w.map O++QE (e.W8-e.YN) U) x b p.heap:=by
 have E:x.locals=s.heap.objs.size:=by erw[m];rfl
 have T:xs.length=o.length:=by erw[<-D.Xd,t,i.YN];rfl
 have Q:∀d,s.heap.objs.size<=d->s.heap.get? d=U:=λd q=>by
  rcases u:s.heap.get? d with _|h;·rfl
  .exact absurd (QV u) (RI.mpr q)
 have F:∀a k,r.lookup a=O k->lh p.heap (eB (w.map O++QE (e.W8-e.YN) U) k) ((o.zip xs).lookup a):=λa k v=>by
  refine cc (i.k? a k v) λl g V=>?_;erw[CY];by_cases c:k<e.YN
  .have G:=l c;have H:k<o.length:=by erw[i.YN];exact c
   rw[P8 H]at G;obtain rfl:=PS G;erw[nb i.ZQ H];exact D.W0 k
  .erw[pw (g (aQ f4 fP rfl c)),R1 (b8 f4 (a9 av ap) m5 rfl c t)];exact rfl
 have R:∀d,dw x d->s.heap.objs.size<=d/\∃h,p.heap.get? d=O h/\gT h:=λd c=>by
  rcases c with c|⟨a,c⟩;·refine jh n.toInCall.ns λh W X y z C=>?_;erw[c];exact⟨by erw[E];exact P2 _,h,y,.WN z⟩
  .refine az (n.cell _ _ c) λh y z=>?_;have:=n.above _ _ (SE c);rw[E]at this;exact⟨Nat.le_of_lt this,h,y,.Ya z⟩
 refine⟨by erw[m];rfl,i.Y1,by erw[m];exact i.ZY,by erw[m];exact i.ZM,⟨_,n.toInCall.ns,λa k l g=>?_⟩,λa k l g=>?_,λd c=>?_,?_,λa Y K l g=>?_,λa c=>?_⟩
 .have:x.kindOf a=O .local:=by erw[m];exact g
  erw[DH i.ZQ this,Vn];exact F a k l
 .have v:x.kindOf a≠O .local:=by erw[m];intro A;have A:j.scope.names.lookup a=O .local:=A;dsimp only at g;rw[A]at g;cases g
  have S:(x.cells.lookup a).isSome=L:=by erw[m];exact qU (hF g)
  obtain⟨K,M⟩:=RG.mp S;refine fe K _ M (n.cell _ _ M) ?_;erw[DI i.ZQ v,Vn];exact F a k l
 .obtain⟨l,g⟩:=R d c;have q:=Q d l;refine⟨B.Xx q,?_,g⟩;rcases u:I.YQ.get? d with _|h;·rfl
  .rw[B.WQ d h u]at q;injection q
 .erw[PC,Pt,List.length_replicate,t];have:=i.W8;show e.YN+(e.W8-e.YN)=e.W8;exact aQ a_ (a9 (.i ag fg) ap) rfl this
 .exact name_of_addr n.apart (SE l) (SE g)
 .have:=n.above _ _ (SE c);exact absurd this (SS _)
end
variable{Z:Nat}
section
theorem pP{b:Nat}(c:Z<=k)(d:a+k*(l+1)+G<b):a+Z+k*l+G<b:=Nat.lt_of_le_of_lt (Si (PO (QW (Vv a Z (k*l))) (Uf (PO (Si c _) (QW (Ug k (k*l)))) a)) G) d
theorem Dk(E:fp I)(T:∀F,iw F a->bW I F (I.YH.WY (a2 I.YH a)) a)(p:V.handled=U/\V.depth+1+4*a+20<recursionLimit/\V.units+3+40*a+400<cLine){d:gW}{W:Q8}{G:PA}{X:List PF}{m:List Pr}{Y:List (Pr×Nat)}{h:List Pl}(Z:I.YH.Zz f=O d)(e:oi I f d W G X m Y h){xs:List Pl}{H:RE->Pn->Prop}(n:aA I b s.heap)(K:aZ s.heap vs xs)(k:a2 I.YH (a+1) f vs b Q)(M:∀q r i g t,aA I i g->a1 ct b s.heap i g->ay g q r->Q q i->H (.ok (.ret r)) {s with heap:=g,toks:=t}):Rq (Py I.r I.q) V (.call (.ref (I.Zt f)) ⟨xs,[]⟩) H s:=by
 have y:=E.H.keeps n.WQ;have k:aP (I.YH.Zz f) _:=k;rw[Z]at k;refine cm (b:=q5 d vs) k λac j k=>?_
 .have j:(if vs.length<=d.YN/\d.YN<=vs.length+d.Zb.length then O ((vs++d.Zb.drop (d.Zb.length-(d.YN-vs.length))).map O++QE (d.W8-d.YN) U)else U)=O ac:=j;split at j
  .rename_i l;injection j with j;subst j;have u:=K.Xd;have v:=e.YN;have ad:d.Zb=[]\/d.Zb.length=h.length:=e.Z?.imp id aZ.Xd;have ae:aZ s.heap (vs++d.Zb.drop (d.Zb.length-(d.YN-vs.length))) (xs++h.drop (h.length-(m.length-xs.length))):=by
    refine K.W9 ?_;rcases e.Z? with c|c
    .have z:=l.2;rw[c]at z⊢;have:h.length-(m.length-xs.length)=h.length:=by simp at z;exact Ar.dc [_,_,_,_,_] [] bX lm (ai bj ag) (a9 (.u cR pg) cR) rfl u v z
     erw[this,Ux];erw[Uw];exact trivial
    .have:=c.Xd;exact bG (show d.Zb.length-(d.YN-vs.length)=h.length-(m.length-xs.length) by exact Ar.dc [_,_,_,_,_,_] [] bX lm (a9 cR fs) (a9 (.u cR gw) (.u fs (.u ag bj))) rfl v u this) ((c.WR n.WQ).W7 _)
   have af:(vs++d.Zb.drop (d.Zb.length-(d.YN-vs.length))).length=d.YN:=by erw[PC,Qe];exact b8 a_ (ai ap js) (a9 ws ap) rfl l.1 l.2
   refine codeAny_call_function (by have:=p.2.1;omega) (y _ _ e.akx) e.aiy e.q? e.afz e.ajz (codeRec_of y e.aiz) (Nx e.ady e.adx e.acz e.acy e.acx (e.ahy y) e.ZQ (f1 bX lm (ai ag bj) jw rfl u v l.1) e.ahz (by
    rcases ad with c|c;·have:=l.2;rw[c]at this;simp at this;omega
    .exact Ar.d3 [_,_,_,_,_,_] [] bX lm (a9 cR fs) (ai fs jr) (ai cR (.i bj ap)) rfl c u v l.2) ?_);erw[e.ajx];refine wpAny_newFunctionEnv_cells e.Y1 (λo ah=>?_) λA B aw o=>?_
   .have aj:o.1∈m:=(List.of_mem_zip ah).1;rcases e.afx _ aj with c|c;·exact .inl c
    .exact .inr ⟨c,qU (hF c)⟩
   .refine iC o.done λN t1 C w=>?_;obtain rfl:=C;refine⟨(E.aex.keeps n.WQ).keeps w,codeAny_func ?_⟩;have al:=bz.Yf e n B o (ae.WR w) af;have am:aA I b N:=n.W' w;have an:iw (V.deeper A) a:=⟨p.1,p.2.1,p.2.2⟩;have ao:∀x,dw A x->s.heap.get? x=U:=λx c=>by
     rcases aq:s.heap.get? x with _|G;·rfl
     .have D:=QV aq;rcases c with c|⟨ax,c⟩;·rw[c,B]at D;exact absurd D (SS _)
      .have:=o.above _ _ (SE c);have ar:A.locals=s.heap.objs.size:=by erw[B];rfl
       rw[ar]at this;exact absurd (Vr this D) (SS _)
    refine j7 (T _ an) d.F? (s:={s with heap:=N,toks:=t1}) e.abx am al k λas aB aG i g t P au aH R c=>?_;have S:a1 ct b s.heap i g:=a1.W7 w au ao;induction as with
    |WL=>obtain rfl:=R;exact M .WK .none i g t P S rfl c
    |p r=>refine az R λq C av=>?_;obtain rfl:=C;exact M r q i g t P S av c
    |YA=>exact c.elim
    |Yz=>exact c.elim
  .injection j
theorem I1(a:Nat)(b:List Pl):Code.weight (.builtin "type.__call__" ⟨.ref a::b,[]⟩)=1:=by kernel_rfl
theorem I2(a:Nat)(b:List Pl):Code.cUnits (.builtin "type.__call__" ⟨.ref a::b,[]⟩)=1:=by kernel_rfl
structure v8(I:aB):Prop where
 WP:fp I
 A?:rv I
 B?:mA I
 G?:∀R<4,I.P R=O (qj R)
 v?:∀P f,I.Q P=O (.C f)->QG I.YS (.ref (I.Zt f))=L
 x?:∀F S f,I.YH.Zp F S=O f->QG I.YS (.ref (I.Zt f))=L
 y?:∀P F,I.Q P=O (.YJ F)->QG I.YS (.ref (I.YX F))=L
 YJ:∀P F,I.Q P=O (.YJ F)->wh I F
 Zz:∀f C,I.YH.Zz f=O C->∃aa ab ac ad ae af,oi I f C aa ab ac ad ae af
theorem FJ(b:v8 I):∀(j:Nat)(d:PT),iw d j->bW I d (I.YH.WY (a2 I.YH j)) j:=by intro j;induction j with
 |zero=>
  refineλd h=>⟨b.WP,b.A?,b.B?,h,?_,?_,rfl,rfl,rfl,b.G?,b.v?,b.x?,b.y?⟩;·intro o s v Q w f vs xs g p l q;exact(show False from l).elim
  .intro o s v Q w x c vs xs P g p l q;exfalso;have y:o s.heap.objs.size=U:=g.XF (e9 s.heap);have z:s.heap.get? (s.heap.objs.size+1)=U:=by
    rcases e:s.heap.get? (s.heap.objs.size+1)with _|m;·rfl
    .exact absurd (QV e) (RI.mpr (SU _))
   exact l _ _ (g.XF z) y (SP _)
 |succ j R=>
  refineλd h=>⟨b.WP,b.A?,b.B?,h,?_,?_,rfl,rfl,rfl,b.G?,b.v?,b.x?,b.y?⟩
  .intro o s v Q w f vs xs g p l q;have n:a2 I.YH (j+1) f vs o Q:=l;rcases e:I.YH.Zz f with _|A;·have n:aP (I.YH.Zz f) _:=n;rw[e]at n;exact n.elim
   .exact EO (b.Zz f A e) λS m T V W X B=>wpAny_call (Dk b.WP R ⟨h.Zo,pP (Z:=1) (k:=4) (Pp rfl) h.aax,pP (Z:=3) (k:=40) (Pp rfl) h.J?⟩ e B g p n λC D E F G H K Y i=>q C D E F G H K Y i)
  .intro o s v Q w x c vs xs P g p l q;have u:=b.YJ x c P;have M:=b.WP.H.keeps g.WQ;refine wpAny_call ?_;obtain⟨a,Z,aa,ab,ac⟩:=s;refine make_core (makes_of M u.aey) (looks_findIn M u.X?.1) (λad=>bind_fn M ad u.X?.2) (.inl rfl) ?_;have ae:(a.push Tb).objs.size=a.objs.size+1:=UJ ..;have k:∀N m,a.get? N=O m->((a.push Tb).push (RC (I.YX c) a.objs.size)).get? N=O m:=λN m r=>cY _ _ _ (cY _ _ _ r);have z:a.get? (a.objs.size+1)=U:=by
    rcases e:a.get? (a.objs.size+1)with _|m;·rfl
    .exact absurd (QV e) (RI.mpr (SU _))
   have af:((a.push Tb).push (RC (I.YX c) a.objs.size)).get? (a.objs.size+1)=O (RC (I.YX c) a.objs.size):=by erw[<-ae];exact Qu _ rfl
   have ag:((a.push Tb).push (RC (I.YX c) a.objs.size)).get? a.objs.size=O (QZ [] 0):=cY _ _ _ (Qu _ rfl);obtain⟨H,K,y,ah⟩:=g.Yu (a:=c) k z (e9 a) (SP _) ⟨af,⟨[],0,ag,λr ai=>by simp at ai,rfl,λaj x r=>by simp[bS,Qz,findBy],λaj D r=>by simp[bS]at r⟩,u⟩;have n:=l (a.objs.size+1) a.objs.size y ah (SP _);have t:a2 I.YH (j+1) (I.YH.Zv c) (.b (a.objs.size+1)::vs) (am o (a.objs.size+1) (.WO c a.objs.size [])) (λg al=>nv g (Q (.b (a.objs.size+1)) al)):=n;rcases e:I.YH.Zz (I.YH.Zv c)with _|A;·have t:aP (I.YH.Zz (I.YH.Zv c)) _:=t;rw[e]at t;exact t.elim
   .refine EO (b.Zz _ A e) λS m T V W X B=>?_;have an:(d.under (.builtin "type.__call__" ⟨.ref (I.YX c)::xs,[]⟩)).depth=d.depth+1:=by show d.depth+Code.weight _=_;erw[I1];rfl
    have ao:(d.under (.builtin "type.__call__" ⟨.ref (I.YX c)::xs,[]⟩)).units=d.units+1:=by show d.units+Code.cUnits _=_;erw[I2];rfl
    refine Dk b.WP R (V:=d.under (.builtin "type.__call__" ⟨.ref (I.YX c)::xs,[]⟩)) ⟨h.Zo,by erw[an];exact pP (Z:=2) (k:=4) (Pp rfl) h.aax,by erw[ao];exact pP (Z:=4) (k:=40) (Pp rfl) h.J?⟩ e B (s:=⟨_,Z,aa,ab,ac⟩) H (vs:=.b (a.objs.size+1)::vs) (xs:=.ref (a.objs.size+1)::xs) ⟨rfl,p.WR k⟩ t λC D E F G ap aq ar i=>?_;rcases C with _|_|_|_|_|⟨_,_⟩|_;·obtain rfl:=ar;exact⟨rfl,q (.b (a.objs.size+1)) _ E F G ap (K.WF aq) rfl i⟩
    .exact i.elim
    .exact i.elim
    .exact i.elim
    .exact i.elim
    .exact i.elim
    .exact i.elim
end
theorem JK:typeLookup (.type "list") "keys"=PN U:=by erw[typeLookup_type,Ve];kernel_rfl
theorem JL{j:RF}{l:PE}{xs:Array Pl}{Q:Option Pl->Pn->Prop}(b:P4 s.heap t xs k)(m:V.handled=U)(n:∀a c,(∀d e,s.heap.get? d=O e->a.get? d=O e)->Q U {s with heap:=a,toks:=c}):Pq (Py j l) V (getAttr? (.ref t) "keys") Q g s:=by
 obtain⟨o,p,q,c,r⟩:=s;have f:∀h,(⟨o,p,q,h,r⟩:Pn).TypeIs (.ref t) "list":=λu=>⟨_,b,rfl⟩;have v:=sub_AttributeError;have w:=UO.lookup;have x:=UO.bind (.ref t);have y:=am_list_getattr_none;unfold getAttr? getAttrBy? getAttrBy;repeat
  any_goals
   first
   |assumption
   |exact f _
   |
    with_reducible show Pq _ _ (Qb (Value.builtin "list.__getattribute__") _ _) _ _ _
    refine RS UO (f _) am_entry_list_getattribute (F.args_list_getattribute_2 _ _) (meets_getattribute_miss_list t xs k #[] "keys" _ JK (by decide) (by size_fits)) ⟨b,m,λa h z i=>?_⟩
   |wp_step
 refine on i.there λA B C=>?_;show Pq _ _ (Vc _ _ _ _ _ _ _) _ _ _;unfold Vc;repeat any_goals wp_step
 exact n _ _ i.keeps
theorem Dj:entryFor table "dict.update.loop"=O Builtin.«dict.update.loop»:=entryFor_of_tree (by kernel_rfl)
section
theorem G'{k:Int}{b:aa}(a:t9 o=O (k,b)):o=.h [.a k,b]:=by cases o with
 |h vs=>cases vs with
  |nil=>exact aU a
  |cons c d=>
   rcases c with _|_|i|_|_|⟨_,_⟩|_;·exact aU a
   .exact aU a
   .rcases d with _|⟨f,e⟩;·exact aU a
    .rcases e with _|⟨_,_⟩;·cases a;rfl
     .exact aU a
   .exact aU a
   .exact aU a
   .exact aU a
   .exact aU a
 |_=>exact aU a
theorem Fb{e:aa}{d:List Pl}(a:aZ m [o,e] d):∃b c,d=[b,c]/\ay m o b/\ay m e c:=by
 rcases d with _|⟨b,_|⟨c,_|⟨_,_⟩⟩⟩;·exact Pz a
 .exact Pz a.2
 .exact⟨b,c,rfl,a.1,a.2.1⟩
 .exact Pz a.2.2
theorem MJ(ar:V.handled=U){g B:Pw}{ag:RE->Pn->Prop}:∀(xs:List aa)(i:Nat)(q m:List (Int×aa))(h:List (Int×Pl))(s:Pn),P4 s.heap B D a->s.heap.IsListIter g B i->s.heap.DictOf (QA I.r I.q) t h->c0 s.heap m h->aZ s.heap xs (D.toList.drop i)->l2 b xs=O q->h.length+xs.length<=PV->g≠t->B≠t->B≠g->i+xs.length=D.size->(∀l M r,l.DictOf (QA I.r I.q) t r->c0 l (i5 m q) r->r.length<=PV->(∀c d,c≠t->c≠g->s.heap.get? c=O d->l.get? c=O d)->ag (.ok (.ret .none)) {s with heap:=l,toks:=M})->Rq (Py I.r I.q) V (.builtin "dict.update.loop" ⟨[.ref t,.ref g,rawInt i,.none],[]⟩) ag s:=by intro xs;induction xs with
 |nil=>
  intro i q m h s C u E N v n w x P Q o R;injection n with n;subst n;refine codeAny_builtin Dj ?_;show Pq _ _ (Rc (.ref g)>>=_) _ _ s;refine Pu (U2 ar u C.isList (by rw[Sy];simp at o;exact aQ bX fP rfl o) λl ah=>?_);show Pq _ _ (Builtin.Dict.addKeywords t []>>=_) _ _ _;refine Pu (PH (PH (d7 (id E) λd y z S W=>?_)));have p:∀c d,c≠g->s.heap.get? c=O d->l.get? c=O d:=λc d f e=>ah c d f e;have as:c0 l m h:=by exact az (lk.WT u) λau X Y=>N.W6 λF ai c=>c.Xh (ij (H:=λj=>j=g) (i4 X (fw Y (by decide) (by decide))) λj d f e=>ah j d f e)
  exact R l s.toks h ⟨d,y,z,p _ _ (PB x) S,W⟩ as (by simp at w;exact w) λc d Z f e=>p c d f e
 |cons c xs av=>
  intro i q m h s C u E N v n w x P Q o R;have aj:i<D.size:=by simp at o;exact bO lx ho rfl o
  have aw:D.toList.drop i=D[i]::D.toList.drop (i+1):=by erw[Sr (by simpa using aj)];rfl
  rw[aw]at v;obtain⟨ax,v⟩:=v;refine az (Rr.mp (show(t9 c).bind _=O q from n)) λay z n=>?_;refine az (Q2.mp n) λy aA ac=>?_;obtain rfl:=ac;obtain⟨k,F⟩:=ay;obtain rfl:=G' z
  .skip;refine h1 ax λa3 a4 a5 aB aG a6 aH=>az (lk.WT u) λau X Y=>codeAny_builtin Dj ?_;show Pq _ _ (Rc (.ref g)>>=_) _ _ s;refine Pu (U1 u C.isList (WA aj) λG aI aJ=>?_);have ad:∀c d,c≠g->s.heap.get? c=O d->G.get? c=O d:=λc d f e=>(aJ.2 c f).trans e;have al:go s.heap G:=ij (H:=λj=>j=g) (i4 X (fw Y (by decide) (by decide))) λj d f e=>ad j d f e;have am:=al _ _ aG (.inl rfl) (.inl ⟨_,_,rfl⟩);erw[aB];dsimp only;refine Pu (P7 (Pu (wpAny_tryCatch ?_)));unfold Builtin.Dict.pairItems;refine Pu (S6 (T:="tuple") ⟨_,am,rfl⟩ ?_);erw[if_pos (by decide)];refine Pu (TO am rfl (PH ?_));refine cn (Fb aH) λai ae aK ac aL=>?_;obtain⟨aM,aP⟩:=ac;subst aP;simp only[Option.getD_some,aK];have an:G.DictOf (QA I.r I.q) t h:=by exact d7 E λd y z S W=>oh d y z (ad _ _ (PB x) S) W
   refine P7 (wpAny_dictSet_pairs (knd:=QA I.r I.q) (hsz:=PO (Tk _ _) w) (RR _ _ k aM) an λA aR af=>PH ⟨by kernel_rfl,?_⟩);have ao:∀c d,c≠t->c≠g->s.heap.get? c=O d->A.get? c=O d:=λc d H K e=>(af.2 c H).trans (ad c d K e);refine h1 an λa7 Z Z aS aT a8 Z=>?_;have aU:go G A:=ij (H:=λj=>j=t) (i4 aS (fw aT.1 (by decide) (by decide))) λj d f e=>(af.2 j f).trans e;have p:go s.heap A:=λap d e aq f=>aU ap d (al ap d e aq f) aq f;have aV:c0 A (c2 m k F) (Sc h k ae):=zY (N.W6 λF ai c=>c.Xh p) (aL.Xh p) (Dq E);have aW:=yP h k ae;have aX:((i:Int)+1)=((i+1:Nat):Int):=(b5 ki rfl);erw[aX];exact av (i+1) y (c2 m k F) (Sc h k ae) {s with heap:=A,toks:=s.toks+1} (ao _ _ P Q C) (aI.at λd e=>(af.2 _ x).trans e) aR aV (v.Xh p) aA (PO (Si aW _) (PO (QW (Vu _ 1 _)) w)) x P Q (by simp at o;exact bO lx mJ rfl o) λl M r aY a0 a1 a2=>R l M r aY a0 a1 λc d H K e=>a2 c d H K (ao c d H K e)
theorem MN(z:∀{i:ab} {s:Pn} {a:Pw} {xs:List aa},aA I i s.heap->i a=O (.WE xs)->a≠s.heap.objs.size):mA I:=by
 intro i s A Y Q Z a xs B m g n C D E;refine cn (g.WE n) λp q G H r=>?_;refine callType_codes (Q₁:=λt u=>t=.ref s.heap.objs.size/\u={s with heap:=s.heap.push {cls:=.type "dict",data:=.dict #[]}}) F.kt_called_dict (F.kt_typeCall_dict_1 _) F.entry_dict_init (kt_code_dict_new _ ⟨rfl,rfl⟩) ?_;rintro t u ⟨rfl,rfl⟩;have j:(s.heap.push {cls:=.type "dict",data:=.dict #[]}).DictOf (QA I.r I.q) s.heap.objs.size []:=Heap.DictOf.new s.heap;have h:P4 (s.heap.push {cls:=.type "dict",data:=.dict #[]}) a p q:=cY _ _ _ G;refine⟨j.typeIs,F.args_dict_init_2 _ _,?_⟩;unfold Builtin.«dict.__init__»;refine Pu ?_;unfold Builtin.Dict.selfAndRest;refine Pu (wpAny_notOrdered_dict j.typeIs ?_);show Pq _ _ (PN (s.heap.objs.size,[Value.ref a])) _ _ _;refine PH ?_;show Pq _ _ (Builtin.Dict.updateFrom "dict.__init__" s.heap.objs.size (.ref a) [] .none) _ _ _;unfold Builtin.Dict.updateFrom;refine Pu (S6 (T:="list") ⟨_,h,rfl⟩ ?_);erw[if_pos (by decide)];refine Pu (JL h m λe K c=>?_);simp only[Option.isNone_none,if_true];refine Pu (TP (Pu (U3 (IsL.isList (c _ _ h)) ?_)));have v:∀f b,s.heap.get? f=O b->(e.push {cls:=.type "list_iterator",data:=.fields #[.ref a,.int 0 0]}).get? f=O b:=λf b d=>cY _ _ _ (c _ _ (cY _ _ _ d));have M:(e.push {cls:=.type "list_iterator",data:=.fields #[.ref a,.int 0 0]}).DictOf (QA I.r I.q) s.heap.objs.size []:=by exact d7 j λb w x k g=>oh b w x (cY _ _ _ (c _ _ k)) g
 have N:e.objs.size≠s.heap.objs.size:=by refine d7 j λb w x k ac=>?_;have:=QV (c _ _ k);exact Nat.ne_of_gt this
 have P:a≠e.objs.size:=Ub (QV (c _ _ h));have y:=e1 r;show Pq _ _ (PN (Fin.again _)) _ _ _;refine PH ⟨by kernel_rfl,?_⟩;refine MJ (I:=I) (V:=A.in1) m (b:=i) (t:=s.heap.objs.size) (g:=e.objs.size) (B:=a) (D:=p) (a:=q) xs 0 B [] [] {s with heap:=e.push {cls:=.type "list_iterator",data:=.fields #[.ref a,.int 0 0]},toks:=K} (cY _ _ _ (c _ _ h)) ⟨_,Qu _ rfl,rfl,rfl⟩ M .e (by erw[Uv];exact r.WR v) C (PO (QW ((Tg _).trans y.symm)) H) N (z g n) P (aQ bX (a9 (.i aX ap) ag) rfl y) λad ae af R S V W=>?_;refine⟨rfl,aS.XT g E V S (λf b d=>W f b (λl=>by rw[l,e9]at d;injection d) (λl=>?_) (v f b d)) (e9 _) R D⟩;rw[l]at d;have:=QV d;have X:=QV (c _ _ (Qu s.heap (o:={cls:=.type "dict",data:=.dict #[]}) rfl));exact absurd (Vr this X) (SS _)
theorem MM:mA I:=MN λa b=>by exact iC (a.WE b) λd e c f=>Ub (QV c)
end
section
open PySem
noncomputable def vl(a:Nat):Pr:=⟨(Nat.rec (motive:=λ_=>Nat->List Nat) (λ_=>[]) (λ_ b a=>cond (PX a 0) [] ((a%78+45)::b (a/78))) 40 a).toArray⟩
def aM(a:Nat)(b:cC):Pr×cC:=(vl a,b)
def af(a k:Nat):Pr×Nat:=(vl a,k)
def bf(a:Nat):Pr:=vl a
def to:List (Pr×cC):=[aM 998052203542584 (.C 0),aM 473627669295241699968 (.C 1),aM 45335701989896191495104 (.C 2),aM 547898842388009577792 (.C 3),aM 12835744497480 (.C 6),aM 589595536409003466240 (.C 7),aM 590950558352846621568 (.C 8),aM 45336242833310835034176 (.C 9),aM 3280142415419496448996800 (.C 10),aM 7683160879159451931 (.C 11),aM 77862501095387169 (.C 15),aM 46137332228040239873601 (.C 16),aM 6061187496533995776 (.C 17),aM 599305519388465996160 (.C 18),aM 499491261295128280128 (.C 28),aM 284445927018969051467731135 (.C 29),aM 76352073632841919 (.C 30),aM 284448477766373409744754879 (.C 31),aM 29828979 (.C 32),aM 2107806231 (.C 34),aM 14830411955491 (.C 35),aM 547888131011189797519 (.C 36),aM 7558532027692456898 (.C 37),aM 401145 (.C 38),aM 42843622497842706214800 (.C 39),aM 1016247575063502 (.C 40),aM 7677923129359482072 (.C 41),aM 45337634939774065327509 (.C 42),aM 1535874722554648400662680526800 (.C 43),aM 38819037918242748103778 (.C 44),aM 13028811347356 (.C 45),aM 1016247577994908 (.C 46),aM 590546323718645484126 (.C 47),aM 597921665861094673250 (.C 53),aM 5955776110524433655 (.C 54),aM 466814 (.C 55),aM 12587671490376 (.C 58),aM 3595377845946646595322846 (.C 59),aM 3341803545091079671718208 (.C 60),aM 1347775292701730 (.C 61),aM 7683159921394372959 (.C 62),aM 87436605162143300 (.C 69),aM 1332435744197348 (.C 70),aM 77827387282067876 (.C 71),aM 97222922317951844 (.C 72),aM 98434911922848356 (.C 73),aM 3592883846200347996782756 (.C 74),aM 591182127998103385508 (.C 75),aM 6819987249233265092 (.C 76),aM 7579326514205524388 (.C 77),aM 1263527553556292 (.C 78),aM 42735274218872805508196 (.C 79),aM 7669562648784361700 (.C 80),aM 454335 (.C 81),aM 27017900 (.YJ 0),aM 34093825 (.YJ 1),aM 33065080 (.YJ 2),aM 999421157981407 (.YJ 3),aM 26963857 (.YJ 4),aM 31270074 (.YJ 5),aM 32164898 (.YJ 6),aM 17322516058727 (.YJ 7),aM 26056391 (.YJ 8),aM 29846108 (.YJ 9),aM 996893144102108 (.YJ 10),aM 26525346 (.YJ 11),aM 13445338926668 (.YJ 12),aM 7558531904247750067 (.YJ 13),aM 1244429115893375 (.YJ 14),aM 3987409018753563812 (.f (.a 2147483647)),aM 45642635988503300 (.f (.a 1073741823)),aM 90258119985 (.f (.a 0)),aM 1162368661 (.f (.a 3)),aM 329096670242814632219 (.f (.a 3)),aM 4219188079852896341 (.f (.a 0)),aM 25669540277577351223025 (.f (.a 1)),aM 329096670239929434523 (.f (.a 2)),aM 48452706470066456 (.f (.a 128)),aM 7982016593178 (.f (.a 128)),aM 11038279 (.f (.a 255)),aM 7579259375828881986 (.f (.a 256)),aM 320207343876574591196 (.f (.a 64)),aM 4115040849768946844 (.f (.a 255)),aM 33679612665806204 (.f (.a 134217727)),aM 24261306059031629417733 (.f (.h [(.a 0),(.a 0),(.a 0),(.a 0),(.a 0),(.a 0)])),aM 8665317386419 (.f (.E (Q' "abcdefghjklmnopqrstuvwxyz"))),aM 24976172822372518585838 (.f (.h [(.a 0),(.a 196608),(.a 98304),(.a 65536),(.a 262144),(.a 655360),(.a 65536)])),aM 15887226 (.f (.a 5)),aM 45869193555286945 (.f (.a 0)),aM 7539315180104 (.f (.a 3)),aM 675894154883318 (.f (.a 1)),aM 675894154883341 (.f (.a 3)),aM 1234908437 (.f (.a 0)),aM 54055668613403217 (.f (.a 5)),aM 862931817 (.f (.a 100)),aM 20614257 (.f (.a 2)),aM 11581009 (.f (.a 4)),aM 8893402172015 (.f (.a 60)),aM 10673543 (.f (.a 8)),aM 113980980466 (.f (.a 10)),aM 114025532810 (.f (.a 11)),aM 7039978119680 (.f (.a 13)),aM 1455210238 (.f (.a 14)),aM 17682232 (.f (.a 0)),aM 430022977957279 (.f (.a 1)),aM 11635052 (.f (.a 6)),aM 10022539391783 (.f (.a 7)),aM 14463260 (.f (.a 9)),aM 13051772 (.f (.a 12)),aM 20614271 (.f (.a 3)),aM 52686943382660916 (.f (.h [(.a 0),(.a 1),(.a 2),(.a 3),(.a 5),(.a 6),(.a 7),(.a 11)])),aM 1423330544 (.f (.a 20)),aM 36209065533531097 (.f (.h [(.a 5),(.a 13),(.a 6),(.a 7),(.a 10),(.a 11),(.a 9)])),aM 1730584544684505185034636443119 (.f (.a 63)),aM 96548713597 (.f (.a 1048576)),aM 319356450648892326259 (.f (.a 14)),aM 547892119529855728002 (.f (.a 0)),aM 260003301107135508113075695 (.f (.a 63)),aM 691427343346374 (.f (.a 1)),aM 399891 (.o .WJ),aM 460420 (.o .ZF),aM 400204 (.o .ZJ),aM 430066 (.o .Z'),aM 395062 (.o .Zr),aM 437094 (.o .a),aM 2103153227 (.o .W2),aM 34123815 (.o .WE),aM 34026463 (.o .WN),aM 2100766737 (.o .WW),aM 30303521 (.Zx .g),aM 425404 (.Zx .E),aM 6059799427127283768 .YU,aM 77985471844880006 .Xe]
def FN:List (List (Pr×Nat)):=[[af 2107398301 0,af 455427 1,af 28356179 2],[af 2107398301 0],[af 2107398301 0],[af 2107398301 0],[af 27437194 0,af 2217920870 1,af 13445338926700 2,af 3536201952626004546847084 3,af 181439687044 4,af 45335922469573224403972 5],[af 27437194 0],[af 2107398301 0],[af 2618102050 0,af 27048130 1],[af 2624119032 0,af 36465532 1,af 26914734 2,af 455433 3,af 34118206 4,af 34123509 5],[af 2624119032 0,af 26914734 1,af 423909 2,af 2622325283 3],[af 14565489482065 0,af 2622324026 1,af 2624119032 2,af 1350674205606233 3,af 36465532 4,af 2098790293 5,af 455433 6,af 2655080130 7,af 32164930 8,af 80622123575415609 9,af 5292 10,af 34123509 11],[af 14565489482065 0,af 32164930 1,af 80622123575415609 2,af 5292 3,af 34123509 4],[af 27437194 0,af 201313420841 1,af 26968409 2,af 27048130 3,af 204496269967 4,af 2624119032 5,af 14565489482065 6,af 2622324026 7,af 1350674205606233 8],[af 27437194 0,af 26914734 1],[af 27437194 0,af 26914734 1,af 455433 2],[af 201313420841 0,af 34044411 1,af 2067117213 2],[af 201313420841 0,af 33674073 1,af 204496269967 2,af 14565489482065 3,af 2622324026 4,af 1350674205606233 5,af 2624119032 6,af 455433 7],[af 26914734 0],[af 2621771550 0,af 26914745 1],[af 27437194 0,af 34093857 1,af 26914734 2],[af 27437194 0,af 34093857 1,af 26914734 2,af 2625171031 3,af 34044411 4,af 2656425165 5],[af 27437194 0,af 2217920870 1,af 207201161915 2,af 2217993547 3,af 27048130 4],[af 27437194 0,af 2217920870 1,af 34118206 2],[af 27437194 0,af 27017932 1,af 34118206 2,af 201314295687 3],[af 27437194 0,af 2107398301 1],[af 27437194 0,af 346153 1,af 34124287 2,af 164040152860 3],[af 27437194 0,af 204535141739 1],[af 27437194 0,af 2437608792 1,af 2217920870 2],[af 2217993547 0],[af 26914745 0,af 2217993547 1,af 26500562 2,af 33613702 3,af 2618102050 4],[af 26914745 0,af 2217993547 1,af 26500562 2,af 2618102050 3],[af 2621771550 0,af 2217993547 1],[af 34093857 0,af 34044411 1,af 2656425165 2,af 2098790293 3,af 14565489482065 4,af 2178089374 5,af 32164930 6,af 80622123575415609 7,af 5292 8,af 34123509 9],[af 27437194 0,af 34093857 1,af 2617968654 2,af 1260155803809611 3,af 26932130 4],[af 26525378 0,af 26914734 1,af 2625171031 2,af 12771927693624 3],[af 26525378 0],[af 26525378 0,af 5292 1,af 26914734 2,af 455429 3,af 7666787910384777782 4,af 598225886605039228598 5,af 2625171031 6,af 2432934887 7,af 26913652 8,af 31271363 9],[af 34093857 0,af 2617968654 1,af 77757757296441051 2,af 26932130 3,af 26525378 4,af 2623195216 5,af 34044411 6,af 2656425165 7,af 26488871 8],[af 34093857 0,af 2617968654 1,af 77757757296441051 2,af 6065105069123363085 3,af 26914734 4,af 2067117213 5,af 2098814395 6,af 1260155803809611 7],[af 26914745 0],[af 26914745 0],[af 26914745 0,af 34093857 1],[af 2621771550 0,af 2098790293 1,af 2581069203 2,af 91603012120906254 3,af 34100032 4,af 26914745 5,af 2617968654 6,af 201322004115 7],[af 2621771550 0,af 339746 1,af 26914745 2],[af 2621771550 0,af 2098790293 1,af 2581069203 2,af 91603012120906254 3,af 2434809053 4,af 34093857 5,af 15965294053395 6,af 339746 7,af 26999920 8],[af 26914745 0],[af 2617968665 0],[af 2617968665 0,af 26421159 1,af 2360743469 2],[af 27437194 0,af 2621771550 1,af 2434809053 2,af 339746 3,af 2661712149 4,af 34123191 5,af 26421159 6,af 2360743469 7,af 26914745 8],[af 27437194 0,af 2621771550 1,af 34044411 2,af 2656425165 3,af 2617968665 4,af 26421159 5,af 2360743469 6],[af 27437194 0,af 26421155 1,af 2098790293 2,af 2659358106 3],[af 27437194 0,af 30265943 1,af 2098790293 2,af 2434809053 3,af 2659358106 4,af 34100032 5],[af 27437194 0,af 204200996053 1,af 189767589239 2,af 2067117213 3,af 26975575 4,af 2098790293 5,af 26421155 6,af 30265943 7,af 2434809053 8,af 161229405377 9,af 339746 10],[af 13445338926700 0,af 2621771550 1,af 2434809053 2],[af 2621771550 0,af 1244429115893407 1,af 2581069203 2,af 91603012120906254 3,af 34044411 4,af 2656425165 5,af 2067117213 6,af 2098790293 7,af 16207816573632 8,af 26914745 9,af 26525378 10,af 204761490871 11,af 13445338926700 12,af 207095793204 13],[af 190138158045 0,af 2803043862 1],[af 27437194 0,af 2105994376 1],[af 27437194 0,af 26914734 1],[af 15965294053395 0,af 201322004115 1],[af 15965294053395 0,af 2434809053 1,af 339746 2],[af 15965294053395 0,af 204759105463 1,af 201322004115 2,af 2656899703 3],[af 15965294053395 0,af 2067117213 1,af 201322004115 2],[af 2107398301 0],[af 27437194 0],[af 27437194 0,af 15965294053395 1,af 2106858304 2,af 201322004115 3],[af 27437194 0,af 15965294053395 1,af 204759105463 2,af 455433 3,af 2106858304 4,af 201322004115 5,af 34100032 6],[af 27437194 0,af 15965294053395 1,af 204200996053 2,af 2098790293 3],[af 27437194 0,af 15965294053395 1,af 2620900060 2,af 2067117213 3,af 2434809053 4,af 2106858304 5,af 201322004115 6,af 34100032 7,af 2656899703 8],[af 27437194 0,af 15965294053395 1,af 34044411 2,af 2656425165 3,af 26525378 4,af 2661712149 5,af 34123191 6,af 34105250 7,af 15965285470121 8],[af 207498286078 0,af 62 1],[af 30284490 0],[af 461501 0,af 36465532 1,af 2656899703 2,af 2067019631 3],[af 461501 0,af 2434809053 1,af 2067117213 2,af 36465532 3,af 31271363 4,af 466514 5,af 5292 6,af 34123509 7],[af 461501 0,af 14565489482065 1,af 204763340800 2,af 26914734 3,af 26932130 4,af 33674073 5],[af 461501 0,af 26999920 1,af 2067117213 2,af 31271363 3,af 15965294053395 4,af 466514 5,af 15965285470121 6],[af 1244429115893407 0,af 34105250 1,af 15965294053395 2,af 34044411 3,af 2656425165 4,af 1242841315113828 5,af 26525378 6,af 2618065546 7,af 2620900060 8,af 2067117213 9,af 62 10,af 34123493 11,af 30796329 12,af 15965285470121 13,af 2434809053 14,af 411742 15],[af 26914734 0],[af 26914745 0],[af 34093857 0,af 2617968654 1,af 1242841315113828 2,af 2617968665 3,af 33674073 4,af 204537014813 5,af 26914745 6,af 2067117213 7,af 26975575 8,af 34100032 9,af 2060850142 10,af 161229405377 11,af 345840 12,af 2580978336 13,af 26968414 14,af 2434809053 15,af 2661608415 16,af 2102635366 17,af 339746 18],[af 466514 0],[af 461501 0,af 36466163 1,af 34093857 2,af 1244429115893407 3,af 2103066491 4,af 34105250 5,af 15965294053395 6,af 15965285470121 7,af 34044411 8,af 2656425165 9,af 91603012120906254 10,af 2625171031 11,af 31271363 12,af 33685154 13,af 26525378 14,af 2060850142 15,af 161229405377 16,af 34123191 17,af 2621771550 18,af 160901526158 19,af 16207816573632 20,af 62 21,af 2617968665 22,af 466514 23,af 2617968654 24,af 216124182201 25,af 466504 26,af 1242841315113828 27,af 164267475113 28,af 204683274963 29,af 2067117213 30],[af 207498286078 0,af 36466163 1,af 62 2]]
def Ex:List Pr:=[bf 161227556698,bf 412843,bf 161227581662,bf 436390,bf 2217920870,bf 13445338926700,bf 3536201952626004546847084,bf 181439687044,bf 45335922469573224403972,bf 201313420841,bf 26968409,bf 27048130,bf 189842110591,bf 2320904640,bf 204496269967,bf 2624119032,bf 14565489482065,bf 2622324026,bf 1350674205606233,bf 7683160879152339650,bf 580807512981124654583,bf 95464745727664474,bf 26500562,bf 34093857,bf 26914734,bf 2625171031,bf 34044411,bf 2656425165,bf 207201161915,bf 2217993547,bf 34118206,bf 27017932,bf 201314295687,bf 2107398301,bf 346153,bf 34124287,bf 164040152860,bf 204535141739,bf 2437608792,bf 204763340800,bf 13251498140474,bf 455429,bf 26932130,bf 2067117213,bf 1260155803816319,bf 98327726266448543,bf 1033616668920168,bf 429995,bf 2581069203,bf 2661712149,bf 34123191,bf 2617968654,bf 7558582221218819757,bf 2617968665,bf 204537014813,bf 464102629235643053734,bf 36308797712790211939174,bf 204761490871,bf 590202426595960881686,bf 2105994376,bf 2620876347,bf 15965285470121,bf 204209064064,bf 7571054945041091066,bf 1016247063953152,bf 590955935732539281118,bf 338962,bf 3339886311236844499092898]
noncomputable def M7:List Nat:=[256,409,477,497,518,539,561,582,603,624,645,698,843,892,994]
noncomputable def Mf:List Nat:=[125,132,139,146,203,210,277,284,298,305,312,319,336,343,378,420,430,453,460,474,494,515,536,558,579,600,621,642,656,663,669,675,683,695,709,716,723,730,738,746,753,760,767,774,779,786,791,798,812,819,826,833,840,852,857,868,882,889,903,910,917,924,931,945,952,959,971,985,991,1005,1012,1019,1026,1033,1038,1043,1050,1057,1062,1069,1074,1081]
end
section
set_option tactic.hygienic true
noncomputable def lS(a:Pr):Option cC:=to.lookup a
def hV(a:Nat):Option Pr:=gb Ex a
def fa(a:Nat):Nat:=(gb M7 a).getD 0
def du(f:Nat):Nat:=(gb Mf f).getD 0
noncomputable def nh(a:Pl):Option String:=match a with|.builtin b=>O b|_=>U
theorem tj{a:String}(b:nh n=O a):n=.builtin a:=by cases n<;>first|exact aU b|exact congrArg _ (PS b)
noncomputable def ng(a:Pl):Option String:=match a with|.type b=>O b|_=>U
theorem tg{a:String}(b:ng n=O a):n=.type a:=by cases n<;>first|exact aU b|exact congrArg _ (PS b)
def tB(b c:Pl):Bool:=match nh c with|some a=>nh b==O a|none=>match ng c with|some a=>ng b==O a|none=>J
theorem F8{b:Pl}(a:tB n b=L):n=b:=by
 unfold tB at a;rcases c:nh b with _|e
 .rw[c]at a;rcases d:ng b with _|e;·rw[d]at a;injection a
  .rw[d]at a;exact(tg (P5 a)).trans (tg d).symm
 .rw[c]at a;exact(tj (P5 a)).trans (tj c).symm
def qC(a:Option Pl)(b:Pl):Bool:=match a with|some c=>tB c b|none=>J
theorem CG{a:Option Pl}(b:qC a n=L):a=O n:=by cases a with
 |none=>injection b
 |some c=>exact congrArg O (F8 b)
noncomputable def pC(a:Pl):Bool:=match a with|.none=>L|_=>J
theorem ti(a:pC n=L):n=.none:=by cases n<;>first|rfl|exact QY a
noncomputable def x2(a:Pl):Option Bool:=match a with|.bool b=>O b|_=>U
theorem x1(a:x2 n=O A):n=.bool A:=by cases n<;>first|exact aU a|exact congrArg _ (PS a)
noncomputable def x0(a:Pl):Option Int:=match a with|.int b _=>O b|_=>U
theorem xZ(a:x0 n=O d):∃b,n=.int d b:=by cases n<;>first|exact aU a|injection a with a;subst a;exact⟨_,rfl⟩
noncomputable def xY(a:Pl):Option Pr:=match a with|.str b _=>O b|_=>U
theorem xX(a:xY n=O M):∃b,n=.str M b:=by cases n<;>first|exact aU a|injection a with a;subst a;exact⟨_,rfl⟩
noncomputable def kA(a:Pl):Option Pw:=match a with|.ref b=>O b|_=>U
theorem th(a:kA n=O t):n=.ref t:=by cases n<;>first|exact aU a|exact congrArg _ (PS a)
noncomputable def mq{c b:Type}(f:c->b->Bool)(e:List c):List b->Bool:=@QH c (λd=>List b->Bool) (λa=>a.isEmpty) (λg d h a=>@QH b (λd=>Bool) J (λi a d=>f g i&&h a) a) e
theorem EA{h g:Type}{f:h->g->Bool}{b:List h}:∀{a:List g},mq f b a=L->bq (λc d=>f c d=L) b a:=@QH h (λb=>∀{a:List g},mq f b a=L->bq (λc d=>f c d=L) b a) (λ{a} e=>by obtain rfl:=Qk.mp e;exact trivial) (λc b i {a}=>@QH g (λa=>mq f (c::b) a=L->bq (λc d=>f c d=L) (c::b) a) (λe=>QY e) (λd a j e=>⟨ax e,i (ar e)⟩) a) b
def rj(c:aa)(b:Pl):Bool:=match c with|.WK=>pC b|.g a=>x2 b==O a|.a a=>x0 b==O a|.E a=>xY b==O a|_=>J
def x8(a:PA)(vs:List aa):Bool:=match a.data with|.seq b _=>qC (O a.cls) (.type "tuple")&&(a.dict.isNone&&(a.slots.toList.isEmpty&&(Ps (b.size<=1000)&&mq rj vs b.toList)))|_=>J
def pR(a:Qa)(vs:List aa)(b:Pw):Bool:=match a.lookup b with|some c=>x8 c vs|none=>J
def pA(c:Qa)(a:aa)(b:Pl):Bool:=match a with
|.h vs=>(match kA b with|some d=>pR c vs d|none=>J)
|_=>rj a b
def xT(a:Qa):List aa->List Pl->Bool:=mq (pA a)
theorem NK(a:rj o n=L):ay m o n:=by cases o with|WK=>exact ti a|g b=>exact x1 (P5 a)|a b=>exact xZ (P5 a)|E b=>exact xX (P5 a)|_=>injection a
theorem td{c:Qa}(k:c.In m)(a:pA c o n=L):ay m o n:=by cases o with
 |h vs=>
  have a:(match kA n with|some b=>pR c vs b|none=>J)=L:=a;rcases d:kA n with _|b;·rw[d]at a;injection a
  .rw[d]at a;obtain rfl:=th d;have a:pR c vs b=L:=a;unfold pR at a;rcases e:c.lookup b with _|⟨h,i,j,f⟩;·rw[e]at a;injection a
   .rw[e]at a;have a:x8 ⟨h,i,j,f⟩ vs=L:=a;cases j with
    |seq g r=>have a:(qC (O h) (.type "tuple")&&(i.isNone&&(f.toList.isEmpty&&(Ps (g.size<=1000)&&mq rj vs g.toList))))=L:=a;obtain rfl:=PS (CG (ax a));obtain rfl:=RH.mp (ax (ar a));have l:f=#[]:=Array.toList_eq_nil_iff.mp (Qk.mp (ax (ar (ar a))));subst l;have p:g.size<=1000:=of_decide_eq_true (ax (ar (ar (ar a))));exact h' (k _ _ e) (by rw[Qd];exact a7 dP jA rfl p) (.Xt ((EA (ar (ar (ar (ar a))))).WR λq q=>NK))
    |_=>injection a
 |WK=>exact ti a
 |g b=>exact x1 (P5 a)
 |a b=>exact xZ (P5 a)
 |E b=>exact xX (P5 a)
 |_=>injection a
theorem Fd{a:Qa}(b:a.In m){us:List Pl}(c:xT a vs us=L):aZ m vs us:=.Xt ((EA c).WR λd d=>td b)
def ip(a:Option (Option Pl))(b:Nat):Bool:=match a with|some (O c)=>kA c==O b|_=>J
theorem nI{b:Option (Option Pl)}(c:ip b a=L):b=O (O (.ref a)):=by
 rcases b with _|_|d;·injection c
 .injection c
 .rw[th (P5 c)]
def uY(a:Option (Option Pl))(b:String):Bool:=match a with|some (O c)=>nh c==O b|_=>J
theorem CF{a:Option (Option Pl)}{c:String}(b:uY a c=L):a=O (O (.builtin c)):=by
 rcases a with _|_|d;·injection b
 .injection b
 .rw[tj (P5 b)]
noncomputable def nJ{a:Type}(b:Option (Option a)):Bool:=match b with|some U=>L|_=>J
theorem qA{c:Type}{a:Option (Option c)}(b:nJ a=L):a=O U:=by
 rcases a with _|_|d;·injection b
 .rfl
 .injection b
def uX(a:Option Pl):Bool:=match a with|some b=>ng b==O "function"|none=>J
theorem CC{a:Option Pl}(b:uX a=L):a=O (.type "function"):=by cases a with
 |none=>injection b
 |some c=>rw[tg (P5 b)]
def k_(b:Qa)(c:Pw)(a:Pr)(d:Pl):Bool:=nJ (QO b c a)&&(qC (Sg a) d&&a !="__name__")
noncomputable def v1(f:Pr->Bool)(a:Option Pr):Bool:=match a with|some b=>f b|none=>L
noncomputable def tc(f:Pl->Bool)(a:Option (Option Pl)):Bool:=match a with|some (O b)=>f b|_=>J
theorem xV{f:Pl->Bool}{b:Option (Option Pl)}(c:tc f b=L):∃a,b=O (O a)/\f a=L:=by
 rcases b with _|_|a;·exact QY c
 .exact QY c
 .exact⟨a,rfl,c⟩
def CV(a:Qa)(b:Pw)(c:Pr):cC->Bool|.C f=>ip (QO a b c) (du f)&&QG a (.ref (du f))|.YJ d=>ip (QO a b c) (fa d)&&QG a (.ref (fa d))|.f e=>tc (pA a e) (QO a b c)|.o g=>k_ a b c (lZ g)|.Zx .g=>k_ a b c (.type "bool")|.Zx .E=>k_ a b c (.type "str")|.Zx _=>J|.YU=>k_ a b c (.builtin "isinstance")|.Xe=>k_ a b c (.type "enumerate")
def qE(b:Qa)(c:Pw):Bool:=to.all λa=>CV b c a.1 a.2
noncomputable def ny:List Pr->Bool|[]=>L|b::a=>!a.contains b&&ny a
theorem ub:∀{b:List Pr},ny b=L->b.Nodup|[],_=>VA|c::d,a=>by simp only[ny,Qc,TK,List.contains_eq_mem,decide_eq_false_iff_not]at a;exact RK.mpr ⟨a.1,ub a.2⟩
noncomputable def ty(a:Data):Option (Array Pl×Nat):=match a with|.seq b c=>O (b,c)|_=>U
theorem F5{c:Data}{b:Array Pl×Nat}(a:ty c=O b):c=.seq b.1 b.2:=by
 unfold ty at a;split at a;·injection a with a;subst a;rfl
 .injection a
def nV(b:Qa)(a:Pl):Option (List Pl):=match kA a with
|some c=>(match b.lookup c with
 |some d=>(ty d.data).map λe=>e.1.toList
 |none=>U)
|none=>if pC a then O []else U
def vc(d:Qa)(h:Pw)(b:gW)(e:List (Pr×Nat))(a:Q8)(i:List PF)(f:List Pl):Bool:=(a.closure.isEmpty&&(a.globals==h&&a.builtins==RT))&&((codeIn d a.code a.qualname&&(!a.scope.isCoroutine&&!a.scope.isGenerator))&&((a.scope.kind==.function&&(a.params.posonlyargs.isEmpty&&(a.params.vararg.isNone&&(a.params.kwonlyargs.isEmpty&&a.params.kwarg.isNone))))&&((ny (a.params.args.map (·.arg))&&(PX (a.params.args.map (·.arg)).length b.YN&&Nat.ble b.YN b.W8))&&(((a.params.args.map (·.arg)).all (λg=>a.scope.names.lookup g==O .local||a.scope.names.lookup g==O .cell)&&e.all (λc=>RY c.2 b.W8&&(if RY c.2 b.YN then(a.params.args.map (·.arg))[c.2]?==O c.1 else !(a.params.args.map (·.arg)).contains c.1)))&&(((b.Zb.isEmpty||xT d b.Zb f)&&Nat.ble f.length (a.params.args.map (·.arg)).length)&&i6 lS hV ⟨a.scope,e,b.W8⟩ b.F? i)))))
def qJ(b:Qa)(c:Pw)(d:gW)(e:List (Pr×Nat))(a:Q8):Bool:=match a.body with|.stmts f=>kP (vc b c d e a f) (nV b a.defaults)|_=>J
theorem Md{c:Qa}{d:gW}{e:List (Pr×Nat)}{a:Q8}(b:qJ c t d e a=L):∃f,a.body=.stmts f/\kP (vc c t d e a f) (nV c a.defaults)=L:=by unfold qJ at b;generalize a.body=g at b⊢;cases g<;>first|exact QY b|exact⟨_,rfl,b⟩
def va(a:Qa)(b:Pw)(c:gW)(d:List (Pr×Nat))(e:PA):Bool:=match e.data with|.func f=>qJ a b c d f|_=>J
theorem Mb{c:Qa}{d:gW}{e:List (Pr×Nat)}{b:PA}(a:va c t d e b=L):∃f,b.data=.func f/\qJ c t d e f=L:=by unfold va at a;generalize b.data=g at a⊢;cases g<;>first|exact QY a|exact⟨_,rfl,a⟩
def Da(a:Qa)(b:Pw)(f:Nat):Bool:=kP (λc=>kP (λd=>kP (λe=>va a b c d e) (a.lookup (du f))) (gb FN f)) (gb nR f)
end
section
set_option tactic.hygienic true
def jE(D:RF)(E:PE)(B:Qa)(m C:Pv):aB:=⟨D,E,B,m,fa,du,hV,an,Qx,lS,C⟩
def vr(B:Qa)(a:Nat):Bool:=(makesIn B (fa a)&&(ip (QP B (.ref (fa a)) "__init__") (du (an.Zv a))&&uX (typeIn B (.ref (du (an.Zv a))))))&&((uY (QP B (.ref (fa a)) "__getattribute__") "object.__getattribute__"&&(nJ (QP B (.ref (fa a)) "__getattr__")&&uY (QP B (.ref (fa a)) "__setattr__") "object.__setattr__"))&&((plainOver B (fa a)&&(clsIn B (fa a)).any (·.hasDict))&&(((gb CO a).getD []).all (λe=>v1 (λc=>nJ (QP B (.ref (fa a)) c)) (hV e))&&(vy.all (λb=>!PX b.1.1 a||v1 (λc=>tc (λd=>(nJ (specialIn B d "__get__")&&handedIn d)&&(!copiedNames.contains c&&pA B b.2 d)) (QP B (.ref (fa a)) c)) (hV b.1.2))&&n3.all (λb=>!PX b.1.1 a||v1 (λc=>ip (QP B (.ref (fa a)) c) (du b.2)&&(uX (typeIn B (.ref (du b.2)))&&!an.YY a b.1.2)) (hV b.1.2))))))
noncomputable def uc(B:Qa):Bool:=B.all λa=>match a.2.cls with|.type b=>b !="list"|_=>L
def ui(B:Qa):Bool:=n3.all λa=>QG B (.ref (du a.2))
def qg:Bool:=ny Ex
theorem qo{f:Type}:∀{g:List ((Nat×Nat)×f)}{c d:Nat}{e:f},kT g c d=O e->((c,d),e)∈g
|[],_,_,_,a=>aU a
|h::i,c,d,e,a=>by
 have a:cond _ _ _=_:=a;by_cases b:(PX h.1.1 c&&PX h.1.2 d)=L;·rw[b]at a;rw[Qc]at b;injection a with a;subst a;erw[<-Q3 b.1,<-Q3 b.2];exact QS ..
 .rw[(Bool.not_eq_true _).mp b]at a;exact PY _ (qo a)
theorem p'{c:Type}:∀{d:List c}{a:Nat}{e:c},gb d a=O e->a<d.length|[],_,_,b=>aU b|_::_,0,_,_=>Nat.succ_pos _|_::f,a+1,e,b=>Nat.succ_lt_succ (p' (d:=f) b)
theorem t'{d:Type}:∀{e:List d}{b:Nat}{c:d},gb e b=O c->e[b]?=O c|[],_,_,a=>aU a|_::_,0,_,a=>a|_::f,b+1,c,a=>t' (e:=f) a
theorem NT(k:qg=L)(e:hV a=O M)(f:hV l=O M):a=l:=by
 have g:=ub k;have h:=t' e;have i:=t' f;have c:=p' e;have d:=p' f;rw[P8 c]at h;rw[P8 d]at i;have j:=(PS h).trans (PS i).symm;rcases Nat.lt_trichotomy a l with b|b|b;·exact absurd j (Vz.mp g a l c d b)
 .exact b
 .exact absurd j.symm (Vz.mp g l a d c b)
section
variable{D:RF}{E:PE}{B:Qa}{C:Pv}
theorem M6(k:B.In m)(g:vr B a=L):wh (jE D E B m C) a:=by
 unfold vr at g;simp only[Qc]at g;refine wg g λl n o j p q=>cc l λr s t=>cc n λu v w=>?_;obtain⟨x,y⟩:=o;refine⟨r,⟨nI s,CC t⟩,CF u,qA v,CF w,x,y,λc d b e=>?_,λc d z b h=>?_,λc d f b h=>?_⟩;·have e:an.YY a c=L:=e;refine az (nw e) λK A e=>?_;rw[A]at j;refine az (UA.mp e) λM F G=>?_;obtain rfl:=Q3 G;have:=Qi.mp j _ F;have b:hV c=O d:=b;rw[b]at this;exact qA this
 .have i:=qo (show kT vy a c=O z from h);have:=Qi.mp p _ i;have b:hV c=O d:=b;rw[Vs,b]at this;exact az (xV this) λH I this=>⟨H,I,qA (ax (ax this)),ar (ax this),(TK _).mp (ax (ar this)),td k (ar (ar this))⟩
 .have i:=qo (show kT n3 a c=O f from h);have:=Qi.mp q _ i;have b:hV c=O d:=b;rw[Vs,b]at this;exact⟨nI (ax this),CC (ax (ar this)),(TK _).mp (ar (ar this))⟩
theorem Jb{a:Type}:∀{b:List (Pr×a)}{c:Pr}{d:a},b.lookup c=O d->(c,d)∈b:=hF
theorem n6(a:k_ B t M n=L):QO B t M=O U/\Sg M=O n/\M≠"__name__":=by unfold k_ at a;simp only[Qc,bne_iff_ne]at a;exact⟨qA a.1,CG a.2.1,a.2.2⟩
theorem LC(h:B.In m)(i:qE B Qx=L):rv (jE D E B m C)/\(∀b f,lS b=O (.C f)->QG B (.ref (du f))=L)/\(∀b c,lS b=O (.YJ c)->QG B (.ref (fa c))=L):=by
 have g:∀b e,lS b=O e->CV B Qx b e=L:=λb e d=>Qi.mp i _ (Jb d);refine⟨λb e d=>?_,λb f d=>?_,λb c d=>?_⟩
 .have a:=g b e d;induction e with
  |C f=>have a:(ip (QO B Qx b) (du f)&&QG B (.ref (du f)))=L:=a;simp only[Qc]at a;exact⟨_,rfl,.inl (nI a.1)⟩
  |YJ c=>have a:(ip (QO B Qx b) (fa c)&&QG B (.ref (fa c)))=L:=a;simp only[Qc]at a;exact⟨_,rfl,.inl (nI a.1)⟩
  |f n=>exact az (xV a) λj k a=>⟨j,td h a,.inl k⟩
  |o o=>exact⟨_,rfl,.inr (n6 a)⟩
  |Zx l=>
   rcases l with _|_|_|_|_;·injection a
   .exact⟨_,rfl,.inr (n6 a)⟩
   .exact⟨_,rfl,.inr (n6 a)⟩
   .injection a
   .injection a
  |YU=>exact⟨_,rfl,.inr (n6 a)⟩
  |Xe=>exact⟨_,rfl,.inr (n6 a)⟩
 .have a:(ip (QO B Qx b) (du f)&&QG B (.ref (du f)))=L:=g b _ d;simp only[Qc]at a;exact a.2
 .have a:(ip (QO B Qx b) (fa c)&&QG B (.ref (fa c)))=L:=g b _ d;simp only[Qc]at a;exact a.2
theorem vG(a:(!A)=L):A=J:=by cases A with|false=>rfl|true=>injection a
theorem MH(l:B.In m){e:List Pl}(a:nV B n=O e){h:Q4}{Q:Option (Array Pl)->Pn->Prop}(i:B.In s.heap)(f:∀c,(c.getD #[]).toList=e->Q c s):Pq h V (Sd n) Q g s:=by
 unfold nV at a;rcases d:kA n with _|j
 .rw[d]at a;dsimp only at a;rcases b:pC n with _|_;·rw[b]at a;injection a
  .rw[b]at a;injection a with a;subst a;rw[ti b];exact PH (f U rfl)
 .rw[d]at a;dsimp only at a;rcases b:B.lookup j with _|c;·rw[b]at a;injection a
  .rw[b]at a;obtain⟨o,k,rfl⟩:=Q2.mp a;rw[th d];exact TO (i _ _ b) (F5 k) (f _ rfl)
theorem FM{b:List Pr}(f:(RY k l&&(if RY k a then b[k]?==O M else !b.contains M))=L):(k<a->b[k]?=O M)/\(a<=k->M∉b)/\k<l:=by
 have c:=ar f;refine⟨λd=>?_,λd=>?_,Pp (ax f)⟩;·rw[if_pos (show RY k a=L from Nat.ble_eq_true_of_le d)]at c;exact P5 c
 .rw[if_neg (show¬RY k a=L fromλe=>RI.mpr d (Pp e))]at c;exactλe=>QY ((vG c).symm.trans (List.contains_iff_mem.mpr e))
theorem Mm(n:B.In m){o:gW}{d:PA}{a:Q8}{e:List PF}{p:List (Pr×Nat)}{g:List Pl}(s:B.lookup (du f)=O d)(t:d.data=.func a)(u:a.body=.stmts e)(v:nV B a.defaults=O g)(b:vc B Qx o p a e g=L):oi (jE D E B m C) f o a d e (a.params.args.map (·.arg)) p g:=by have h:=ax b;have i:=ax (ar b);have c:=ax (ar (ar b));have j:=ax (ar (ar (ar b)));have q:=ax (ar (ar (ar (ar b))));have l:=ar (ar (ar (ar (ar b))));exact⟨s,t,u,Qk.mp (ax h),P5 (ax (ar h)),P5 (ar (ar h)),ax i,vG (ax (ar i)),vG (ar (ar i)),P5 (ax c),Qk.mp (ax (ar c)),rfl,RH.mp (ax (ar (ar c))),Qk.mp (ax (ar (ar (ar c)))),RH.mp (ar (ar (ar (ar c)))),ub (ax j),Q3 (ax (ar j)),Pp (ar (ar j)),λr w=>(UW.mp (Qi.mp (ax q) r w)).imp P5 P5,λr k x=>FM (Qi.mp (ar q) _ (hF x)),(UW.mp (ax (ax l))).imp Qk.mp (Fd n),Pp (ar (ax l)),MH n v,ar l⟩
theorem Me(i:B.In m){h:gW}(j:gb nR f=O h)(a:Da B Qx f=L):∃b c d k e g,oi (jE D E B m C) f h b c d k e g:=by refine az (nw a) λr l a=>?_;obtain rfl:=PS (l.symm.trans j);exact az (nw a) λe s a=>az (nw a) λc n a=>az (Mb a) λb o a=>az (Md a) λd p a=>az (nw a) λg q a=>⟨b,c,d,_,e,g,Mm i n o p q a⟩
end
end
variable{e:List Int}
section
def u'(A:Qa):Bool:=(Qq 82).all (Da A Qx)
def vq(A:Qa):Bool:=(Qq 15).all (vr A)
section
variable{C:RF}{E:PE}{A:Qa}{B:Pv}
theorem Ft(b:lS M=O (.YJ a)):a<15:=by
 have:=hF b;have c:to.all (λd=>match d.2 with|.YJ a=>RY a 15|_=>L)=L:=by decide+kernel
 have:=Qi.mp c _ this;exact Pp this
theorem Mc:nR.length=82:=rfl
theorem NU:∀a<4,hV a=O (qj a):=by
 intro a b;rcases a with _|_|_|_|a;·rfl
 .rfl
 .rfl
 .rfl
 .exact(Nat.not_lt_of_le (Nat.le_add_left 4 a) b).elim
theorem G4(c:A.In m)(h:m.NoLimit)(i:∃e,m.Ns RT e/\∀b:Pr,b≠"__name__"->e b=Sg b)(j:m.get? RQ≠U)(k:qE A Qx=L)(l:u' A=L)(n:vq A=L)(o:ui A=L)(p:qg=L)(q:mA (jE C E A m B)):v8 (jE C E A m B):=by
 obtain⟨r,s,t⟩:=LC (D:=C) (E:=E) c k;refine⟨⟨c,h,i,j,λg x b u v=>NT p u v⟩,r,q,NU,s,λd g f a=>?_,t,λb d a=>?_,λf w a=>?_⟩;·exact Qi.mp o _ (qo (show kT n3 d g=O f from a))
 .exact M6 c (Qi.mp n d (Ri.mpr (Ft a)))
 .have a:gb nR f=O w:=a;exact Me c a (Qi.mp l f (Ri.mpr (by erw[<-Mc];exact p' a)))
noncomputable def iR(a:Pv)(b:Pw):Pv:=a.update b λc=>{c with data:=.freed}
theorem py(a:Pv){b:Pw}(c:b≠t):(iR a t).get? b=a.get? b:=Heap.get?_update_other a _ (PB c)
theorem xH(b:Pv)(a:Pw):(iR b a).get? a=U:=by unfold iR Heap.update Heap.get?;obtain⟨c,d⟩:=b;dsimp only;erw[Array.getElem?_modify,if_pos rfl];cases c[a]?<;>rfl
theorem E5{c:Pv}(f:A.In c)(g:uc A=L)(h:P4 c t D a):A.In (iR c t):=by
 intro d i e;have b:=f d i e;have:d≠t:=by rintro rfl;rw[h]at b;injection b with b;subst b;have:=Qi.mp g _ (hF e);simp at this
 erw[py c this];exact b
theorem xI{c:Pv}{d:Pw}{e:Pr->Option Pl}(g:c.Ns d e)(h:P4 c t D a):(iR c t).Ns d e:=by
 refine jh g λi j k b f l=>?_;have:d≠t:=by rintro rfl;rw[h]at b;injection b with b;subst b;injection f
 exact EH i j k ((py c this).trans b) f l
abbrev iW(a:Nat)(b:List Int):ab:=λc=>if c=a then O (.W5 (b.map .a))else U
theorem FF(x:A.In s.heap)(y:uc A=L)(k:P4 s.heap t D a)(z:D.size<=PV)(B:aZ s.heap (e.map .a) D.toList)(F:s.heap.NoLimit)(G:∃m,s.heap.Ns RT m/\∀j:Pr,j≠"__name__"->m j=Sg j)(H:s.heap.get? RQ≠U)(I:RQ≠t)(K:qE A Qx=L)(q:u' A=L)(M:vq A=L)(N:ui A=L)(P:qg=L)(Q:iw V l)(R:a2 an l 81 [.b t] (iW t e) λn u=>n=.g L/\u t=O (.W5 (e.map .a))):Pq (Py C E) V (Qb (.ref (du 81)) [.ref t]) (λn S=>n=.bool L/\∃o r,S={s with heap:=o,toks:=r}/\∀d h,s.heap.get? d=O h->o.get? d=O h) g s:=by
 have T:v8 (jE C E A (iR s.heap t) s.heap):=G4 (E5 x y k) (az F λW i d=>⟨W,xI i k,d⟩) (az G λm i d=>⟨m,xI i k,d⟩) (by erw[py _ I];exact H) K q M N P MM;have X:=FJ T l V Q;have Y:aA (jE C E A (iR s.heap t) s.heap) (iW t e) s.heap:=by
  refine⟨λd h b=>?_,λi h b=>?_,λi f=>?_,λi v ad w b=>?_⟩
  .by_cases c:d=t;·rw[c]at b;have b:(iR s.heap t).get? t=O h:=b;rw[xH]at b;injection b
   .have b:(iR s.heap t).get? d=O h:=b;rw[py _ c]at b;exact b
  .unfold iW at b;split at b;·rename_i c;subst c;injection b with b;subst b;exact⟨D,a,k,z,B,rfl⟩
   .injection b
  .have:i=t:=by
    rcases f with f|⟨j,v,w,f⟩
    .unfold iW at f;by_cases c:i=t;·exact c
     .rw[if_neg c]at f;exact absurd rfl f
    .unfold iW at f;split at f<;>cases f
   erw[this];exact xH _ _
  .unfold iW at b;split at b<;>cases b
 exact X.q? (f:=81) (vs:=[.b t]) Y ⟨rfl,trivial⟩ R λae n u o r Z aa ab c=>by
  obtain⟨c,ac⟩:=c;subst c;obtain rfl:=ab;refine⟨rfl,o,r,rfl,λd h b=>?_⟩;by_cases E:d=t;·subst E;exact om (Z.Y2 _ _ ac) λp p p p p q=>q.symm.trans b
  .refine aa.WQ d h b (λf=>E ?_) id;rcases f with f|⟨j,v,w,f⟩
   .unfold iW at f;by_cases c:d=t;·exact c
    .rw[if_neg c]at f;exact absurd rfl f
   .unfold iW at f;split at f<;>cases f
end
end
namespace Head
section
set_option maxRecDepth 100000
set_option maxHeartbeats 0
set_option tactic.hygienic true
set_option Elab.async false
noncomputable abbrev ds:RF:=PySem.Challenge.rw_rg0169_01.row.toRowW.prog
def iv:List PF:=behindTheImports ds
noncomputable def aW(i:Nat):PF:=iv.getD i (.Pass ⟨0,0,0,0⟩)
noncomputable def bM(s:PF)(i:Nat):PF:=match s with|.ClassDef _ _ _ a _ _ _ _ _ _ _=>a.getD i s|_=>s
noncomputable def Mn(s:PF)(b:String)(c:Nat)(d:List (String×Nat))(e k f g h:Pl):Q8:=match s with
|.FunctionDef i j l _ _ _ m _ _ _=>{name:=i,qualname:=Q' b,params:=j,body:=.stmts l,scope:=m,globals:=c,closure:=d.map λa=>(Q' a.1,a.2),defaults:=e,kwdefaults:=k,pyModule:=f,code:=g,closureTuple:=h}
|_=>default
noncomputable def ee(a:String)(b c:List Pl)(d:Nat)(e:String)(f:List Pl):ClassData:={name:=Q' a,bases:=b,mro:=c,ns:=d,qualname:=Q' e,subclasses:=f}
noncomputable def aj(s:String)(a:Nat):Pl:=.str (Q' s) a
noncomputable def ac(i:Int)(a:Nat):Pl:=.int i a
noncomputable def aK(xs:List Pl):PA:=⟨.type "tuple",U,.seq ⟨xs⟩ 0,⟨[]⟩⟩
noncomputable def aV(xs:List Pl):PA:=⟨.none,U,.fields ⟨xs⟩,⟨[]⟩⟩
noncomputable def a4(a:String)(xs:List Pl):PA:=⟨.type a,U,.fields ⟨xs⟩,⟨[]⟩⟩
def eg:PA:=a4 "builtin_function_or_method" [.builtin "type.__prepare__",.type "type"]
def ef(a:Nat):PA:=a4 "builtin_function_or_method" [.builtin "object.__init_subclass__",.ref a]
noncomputable def b2(xs:List Sx)(a:Nat):PA:=⟨.type "dict",U,.dict ⟨xs⟩ a,⟨[]⟩⟩
noncomputable def ae(a:Px)(k:String)(b:Nat)(c:Pl):Sx:=⟨RU a (Q' k),.str (Q' k) b,c⟩
noncomputable def c6(a:PA)(c:List (Nat×Sx))(d:List Sx)(e:Nat):PA:=match a with
|⟨f,g,.dict h _,i⟩=>⟨f,g,.dict ⟨c.foldl (λj b=>j.set b.1 b.2) h.toList++d⟩ e,i⟩
|a=>a
noncomputable def cL:BT->List (Nat×PA)->BT|a,[]=>a|a,(i,b)::c=>cL (a.ins i b) c
noncomputable def cN:Life:={}
def c5(b:List Pl)(xs:List (Int×Int×Nat)):List Pl:=b++xs.flatMap λa=>[ac a.1 0,ac a.2.1 0,.ref a.2.2]
def Dv(a:Nat):Pl:=aj "/claim/cut.py" a
def DG(b a c:Nat)(e g:String)(d k:Int)(h i f:Pl):PA:=a4 "code" [aj e a,aj g (a+1),Dv (a+2),ac d 0,ac k 0,ac 0 0,ac 0 0,ac 3 0,.ref b,.bool L,ac 181 0,.ref (b+1),.none,h,i,f,ac c 0,ac d 0,Dv (c+1)]
def qK(s:PF)(a:String)(k:Nat)(b c d:Pl):Q8:=Mn s a k [] b .none c d .none
def IL:Nat->List String->List Pl:=λa b=>b.rec (λ_=>[]) (λc _ d a=>aj c a::d (a+1)) a
abbrev iA:=List (Nat×PA)
def du(a c d:Nat)(s:PF)(e b:String)(f:List String)(g k:Int)(h i:Pl)(j:iA):iA:=(a,aK [])::(a+1,aV [])::(a+2,aK (IL (c+3) f))::(a+3,aK [])::(a+4,⟨.none,U,.func (qK s b 0 .none .none .none),⟨[]⟩⟩)::(a+5,DG a c d e b g k (.ref (a+2)) (.ref (a+3)) (.ref (a+4)))::(a+6,⟨.type "function",U,.func (qK s b 3 h i (.ref (a+5))),⟨[]⟩⟩)::j
def cs(c a:Nat)(s:PF)(d e:String)(b:List String)(f k:Int)(g:Pl)(h:iA):iA:=du c a (a+3+b.length) s d e b f k .none g h
def bT(b c:Nat)(s:PF)(a:String)(d:List String)(e k:Int)(f:Pl)(g:iA):iA:=cs b c s a a d e k f g
def k1(a c d:Nat)(s:PF)(e b:String)(f k:Int)(g h:Pl)(i:iA):iA:=(a,aK [])::(a+1,aV [])::(a+2,⟨.none,U,.func (qK s b 0 .none .none .none),⟨[]⟩⟩)::(a+3,DG a c d e b f k .none .none (.ref (a+2)))::(a+4,⟨.type "function",U,.func (qK s b 3 g h (.ref (a+3))),⟨[]⟩⟩)::i
def jY(c a:Nat)(s:PF)(b:String)(d k:Int)(e:Pl)(f:iA):iA:=k1 c a (a+3) s b b d k .none e f
def kN(xs:List Pl):PA:=⟨.type "type",U,.cls (ee "PageError" [.type "ValueError"] [.ref 39,.type "ValueError",.type "Exception",.type "BaseException",.type "object"] 38 "PageError" xs),⟨[O (.ref 22),U,O (aj "PageError" 196),O (aj "PageError" 204),O (.builtin "ValueError.__new__"),O (.bool L)]⟩⟩
def IU:Pl:=aj "__main__" 164
def IT:Pl:=aj "gluepage.errors" 194
def e7:Pl:=aj "gluepage.scaled" 320
def ez:Pl:=aj "gluepage.fonts" 530
def fV:Pl:=aj "gluepage.nodes" 806
def kQ:Pl:=aj "gluepage.ligkern" 1200
def fy:Pl:=aj "gluepage.hyphlist" 1325
def IS:Pl:=aj "gluepage.commands" 1510
def A2:Pl:=aj "gluepage.horizontal" 1536
def gF:Pl:=aj "gluepage.hyphen" 1575
def gG:Pl:=aj "law_rg0169_01" 1723
noncomputable def gl:Option Pl:=O (.ref 6)
noncomputable def k3:PI:={scope:=ds.main.scope,locals:=mainNs,globals:=mainNs,cells:=[],code:=.ref 13,frame:=O 14}
def hR:Code:=.body iv k3
noncomputable def hy:PD:=⟨0,0,0,0⟩
noncomputable def yW:=PySem.W.Fast.tw10110043849684766642 Td
abbrev cl(c k d:Nat)(s:PE->PG->PZ)(e:PD)(f:PE->PG->PZ)(g:PD)(a:PE):Prop:=(λb=>yW ds a 11 gl 1 d (s a b) (piecesOf ((iv.drop c).take k) k3 hR e [RB hy]))=λb=>O (.next,f a b,hR,g)
def yH(a:Px):BT:=cL .nil<|(0,boot_o_0 a)::(1,boot_o_1 a)::(2,boot_o_2 a)::(3,boot_o_3 a)::(4,boot_o_4 a)::(5,boot_o_5 a)::(6,boot_o_6 a)::(7,boot_o_7 a)::(8,boot_o_8 a)::(9,boot_o_9 a)::(10,boot_o_10 a)::(11,aK [])::(12,aV [])::(13,a4 "code" [aj "<module>" 182,aj "<module>" 183,aj "/claim/cut.py" 184,ac 1 0,ac 0 0,ac 0 0,ac 0 0,ac 0 0,.ref 11,.bool J,ac 181 0,.ref 12,.none,.none,.none,.none,ac 185 0,ac 1 0,aj "/claim/cut.py" 186])::(14,⟨.type "frame",U,.plain,⟨[O (.ref 13),O (.ref 3),O (.ref 3),U,O (aj "__main__" 164),U,O (.ref 0)]⟩⟩)::[]
def no(a:PE)(b:PG):PZ:=⟨yH a.params,15,cN,⟨[]⟩,{},187,b⟩
def AN(a:Px):PA:=b2 [ae a "__name__" 165 (aj "gluepage.errors" 194),ae a "__doc__" 166 .none,ae a "__package__" 167 .none,ae a "__loader__" 168 (.builtin "__main__.__loader__#opaque"),ae a "__spec__" 169 .none,ae a "__annotations__" 170 (.ref 6),ae a "__builtins__" 171 (.ref 4),ae a "__file__" 173 (aj "/claim/cut.py" 172),ae a "__cached__" 174 .none,ae a "_wall" 193 (.ref 21),ae a "PageError" 223 (.ref 39)] 11
def It(a:Px):PA:=b2 [ae a "__module__" 203 (aj "gluepage.errors" 194),ae a "__qualname__" 205 (aj "PageError" 204),ae a "__firstlineno__" 207 (ac 5 206),ae a "__init__" 216 (.ref 36),ae a "__static_attributes__" 218 (.ref 37)] 5
def Ik(a:Px):PA:=b2 [ae a "__module__" 203 (aj "gluepage.errors" 194),ae a "__firstlineno__" 207 (ac 5 206),ae a "__init__" 216 (.ref 36),ae a "__static_attributes__" 218 (.ref 37),ae a "__weakref__" 220 (.ref 40),ae a "__doc__" 221 .none] 3
def BN:List Pl:=c5 [] [(1,0,20),(5,0,27)]
def yG(a:Px):BT:=cL (yH a)<|(3,AN a)::(12,aV BN)::bT 15 187 (aW 0) "_wall" ["k"] 1 1 IU ((22,aK [.type "ValueError"])::(23,eg)::(24,It a)::(25,aK [])::(26,aV [ac 7 0,ac 4 0,.ref 35])::(27,a4 "code" [aj "PageError" 198,aj "PageError" 199,aj "/claim/cut.py" 200,ac 5 0,ac 0 0,ac 0 0,ac 0 0,ac 0 0,.ref 25,.bool J,ac 181 0,.ref 26,.none,.none,.none,.none,ac 201 0,ac 5 0,aj "/claim/cut.py" 202])::(28,⟨.type "frame",U,.plain,⟨[O (.ref 27),O (.ref 3),O (.ref 24),U,O (aj "gluepage.errors" 194),U,O (.ref 0)]⟩⟩)::(29,aK [aj "" 208])::du 30 209 214 (bM (aW 2) 0) "__init__" "PageError.__init__" ["self","reason"] 7 2 (.ref 29) IT ((37,aK [aj "reason" 217])::(38,Ik a)::(39,(kN []))::(40,a4 "getset_descriptor" [aj "__weakref__" 219,.ref 39,.builtin "ExceptionGroup.__weakref__",.none])::(41,a4 "super" [.ref 39,.ref 39,.ref 39])::(42,ef 39)::[]))
def zm(a:PE)(b:PG):PZ:=⟨yG a.params,43,cN,⟨[]⟩,{},224,b⟩
def AE(a:Px):PA:=c6 (AN a) [] [ae a "BadArgument" 239 (.ref 52)] 12
def H'(a:Px):PA:=b2 [ae a "__module__" 231 (aj "gluepage.errors" 194),ae a "__qualname__" 233 (aj "BadArgument" 232),ae a "__firstlineno__" 235 (ac 9 234),ae a "__static_attributes__" 236 (.ref 50)] 4
def H3(a:Px):PA:=b2 [ae a "__module__" 231 (aj "gluepage.errors" 194),ae a "__firstlineno__" 235 (ac 9 234),ae a "__static_attributes__" 236 (.ref 50),ae a "__doc__" 237 .none] 2
def BD:List Pl:=c5 BN [(9,0,48)]
def yv(a:Px):BT:=cL (yG a)<|(3,AE a)::(12,aV BD)::(39,(kN [.ref 52]))::(43,aK [.ref 39])::(44,eg)::(45,H' a)::(46,aK [])::(47,aV [])::(48,a4 "code" [aj "BadArgument" 226,aj "BadArgument" 227,aj "/claim/cut.py" 228,ac 9 0,ac 0 0,ac 0 0,ac 0 0,ac 0 0,.ref 46,.bool J,ac 181 0,.ref 47,.none,.none,.none,.none,ac 229 0,ac 9 0,aj "/claim/cut.py" 230])::(49,⟨.type "frame",U,.plain,⟨[O (.ref 48),O (.ref 3),O (.ref 45),U,O (aj "gluepage.errors" 194),U,O (.ref 0)]⟩⟩)::(50,aK [])::(51,H3 a)::(52,⟨.type "type",U,.cls (ee "BadArgument" [.ref 39] [.ref 52,.ref 39,.type "ValueError",.type "Exception",.type "BaseException",.type "object"] 51 "BadArgument" []),⟨[O (.ref 43),U,O (aj "BadArgument" 224),O (aj "BadArgument" 232),O (.builtin "ValueError.__new__"),O (.bool L)]⟩⟩)::(53,a4 "super" [.ref 52,.ref 52,.ref 52])::(54,ef 52)::[]
def zg(a:PE)(b:PG):PZ:=⟨yv a.params,55,cN,⟨[]⟩,{},240,b⟩
def Ar(a:Px):PA:=c6 (AE a) [] [ae a "Overflow" 255 (.ref 64)] 13
def HQ(a:Px):PA:=b2 [ae a "__module__" 247 (aj "gluepage.errors" 194),ae a "__qualname__" 249 (aj "Overflow" 248),ae a "__firstlineno__" 251 (ac 11 250),ae a "__static_attributes__" 252 (.ref 62)] 4
def HL(a:Px):PA:=b2 [ae a "__module__" 247 (aj "gluepage.errors" 194),ae a "__firstlineno__" 251 (ac 11 250),ae a "__static_attributes__" 252 (.ref 62),ae a "__doc__" 253 .none] 2
def Bs:List Pl:=c5 BD [(11,0,60)]
def yk(a:Px):BT:=cL (yv a)<|(3,Ar a)::(12,aV Bs)::(39,(kN [.ref 52,.ref 64]))::(55,aK [.ref 39])::(56,eg)::(57,HQ a)::(58,aK [])::(59,aV [])::(60,a4 "code" [aj "Overflow" 242,aj "Overflow" 243,aj "/claim/cut.py" 244,ac 11 0,ac 0 0,ac 0 0,ac 0 0,ac 0 0,.ref 58,.bool J,ac 181 0,.ref 59,.none,.none,.none,.none,ac 245 0,ac 11 0,aj "/claim/cut.py" 246])::(61,⟨.type "frame",U,.plain,⟨[O (.ref 60),O (.ref 3),O (.ref 57),U,O (aj "gluepage.errors" 194),U,O (.ref 0)]⟩⟩)::(62,aK [])::(63,HL a)::(64,⟨.type "type",U,.cls (ee "Overflow" [.ref 39] [.ref 64,.ref 39,.type "ValueError",.type "Exception",.type "BaseException",.type "object"] 63 "Overflow" []),⟨[O (.ref 55),U,O (aj "Overflow" 240),O (aj "Overflow" 248),O (.builtin "ValueError.__new__"),O (.bool L)]⟩⟩)::(65,a4 "super" [.ref 64,.ref 64,.ref 64])::(66,ef 64)::[]
def y9(a:PE)(b:PG):PZ:=⟨yk a.params,67,cN,⟨[]⟩,{},256,b⟩
def Aj(a:Px):PA:=c6 (Ar a) [] [ae a "BadFont" 271 (.ref 76)] 14
def Is(a:Px):PA:=b2 [ae a "__module__" 263 (aj "gluepage.errors" 194),ae a "__qualname__" 265 (aj "BadFont" 264),ae a "__firstlineno__" 267 (ac 13 266),ae a "__static_attributes__" 268 (.ref 74)] 4
def Ir(a:Px):PA:=b2 [ae a "__module__" 263 (aj "gluepage.errors" 194),ae a "__firstlineno__" 267 (ac 13 266),ae a "__static_attributes__" 268 (.ref 74),ae a "__doc__" 269 .none] 2
def Bp:List Pl:=c5 Bs [(13,0,72)]
def yh(a:Px):BT:=cL (yk a)<|(3,Aj a)::(12,aV Bp)::(39,(kN [.ref 52,.ref 64,.ref 76]))::(67,aK [.ref 39])::(68,eg)::(69,Is a)::(70,aK [])::(71,aV [])::(72,a4 "code" [aj "BadFont" 258,aj "BadFont" 259,aj "/claim/cut.py" 260,ac 13 0,ac 0 0,ac 0 0,ac 0 0,ac 0 0,.ref 70,.bool J,ac 181 0,.ref 71,.none,.none,.none,.none,ac 261 0,ac 13 0,aj "/claim/cut.py" 262])::(73,⟨.type "frame",U,.plain,⟨[O (.ref 72),O (.ref 3),O (.ref 69),U,O (aj "gluepage.errors" 194),U,O (.ref 0)]⟩⟩)::(74,aK [])::(75,Ir a)::(76,⟨.type "type",U,.cls (ee "BadFont" [.ref 39] [.ref 76,.ref 39,.type "ValueError",.type "Exception",.type "BaseException",.type "object"] 75 "BadFont" []),⟨[O (.ref 67),U,O (aj "BadFont" 256),O (aj "BadFont" 264),O (.builtin "ValueError.__new__"),O (.bool L)]⟩⟩)::(77,a4 "super" [.ref 76,.ref 76,.ref 76])::(78,ef 76)::[]
def y6(a:PE)(b:PG):PZ:=⟨yh a.params,79,cN,⟨[]⟩,{},272,b⟩
def AM(a:Px):PA:=c6 (Aj a) [] [ae a "BadPattern" 287 (.ref 88)] 15
def Iq(a:Px):PA:=b2 [ae a "__module__" 279 (aj "gluepage.errors" 194),ae a "__qualname__" 281 (aj "BadPattern" 280),ae a "__firstlineno__" 283 (ac 15 282),ae a "__static_attributes__" 284 (.ref 86)] 4
def Ip(a:Px):PA:=b2 [ae a "__module__" 279 (aj "gluepage.errors" 194),ae a "__firstlineno__" 283 (ac 15 282),ae a "__static_attributes__" 284 (.ref 86),ae a "__doc__" 285 .none] 2
def Bo:List Pl:=c5 Bp [(15,0,84)]
def yg(a:Px):BT:=cL (yh a)<|(3,AM a)::(12,aV Bo)::(39,(kN [.ref 52,.ref 64,.ref 76,.ref 88]))::(79,aK [.ref 39])::(80,eg)::(81,Iq a)::(82,aK [])::(83,aV [])::(84,a4 "code" [aj "BadPattern" 274,aj "BadPattern" 275,aj "/claim/cut.py" 276,ac 15 0,ac 0 0,ac 0 0,ac 0 0,ac 0 0,.ref 82,.bool J,ac 181 0,.ref 83,.none,.none,.none,.none,ac 277 0,ac 15 0,aj "/claim/cut.py" 278])::(85,⟨.type "frame",U,.plain,⟨[O (.ref 84),O (.ref 3),O (.ref 81),U,O (aj "gluepage.errors" 194),U,O (.ref 0)]⟩⟩)::(86,aK [])::(87,Ip a)::(88,⟨.type "type",U,.cls (ee "BadPattern" [.ref 39] [.ref 88,.ref 39,.type "ValueError",.type "Exception",.type "BaseException",.type "object"] 87 "BadPattern" []),⟨[O (.ref 79),U,O (aj "BadPattern" 272),O (aj "BadPattern" 280),O (.builtin "ValueError.__new__"),O (.bool L)]⟩⟩)::(89,a4 "super" [.ref 88,.ref 88,.ref 88])::(90,ef 88)::[]
def y5(a:PE)(b:PG):PZ:=⟨yg a.params,91,cN,⟨[]⟩,{},288,b⟩
def AL(a:Px):PA:=c6 (AM a) [] [ae a "TooDeep" 303 (.ref 100)] 16
def Io(a:Px):PA:=b2 [ae a "__module__" 295 (aj "gluepage.errors" 194),ae a "__qualname__" 297 (aj "TooDeep" 296),ae a "__firstlineno__" 299 (ac 17 298),ae a "__static_attributes__" 300 (.ref 98)] 4
def Im(a:Px):PA:=b2 [ae a "__module__" 295 (aj "gluepage.errors" 194),ae a "__firstlineno__" 299 (ac 17 298),ae a "__static_attributes__" 300 (.ref 98),ae a "__doc__" 301 .none] 2
def Bn:List Pl:=c5 Bo [(17,0,96)]
def yf(a:Px):BT:=cL (yg a)<|(3,AL a)::(12,aV Bn)::(39,(kN [.ref 52,.ref 64,.ref 76,.ref 88,.ref 100]))::(91,aK [.ref 39])::(92,eg)::(93,Io a)::(94,aK [])::(95,aV [])::(96,a4 "code" [aj "TooDeep" 290,aj "TooDeep" 291,aj "/claim/cut.py" 292,ac 17 0,ac 0 0,ac 0 0,ac 0 0,ac 0 0,.ref 94,.bool J,ac 181 0,.ref 95,.none,.none,.none,.none,ac 293 0,ac 17 0,aj "/claim/cut.py" 294])::(97,⟨.type "frame",U,.plain,⟨[O (.ref 96),O (.ref 3),O (.ref 93),U,O (aj "gluepage.errors" 194),U,O (.ref 0)]⟩⟩)::(98,aK [])::(99,Im a)::(100,⟨.type "type",U,.cls (ee "TooDeep" [.ref 39] [.ref 100,.ref 39,.type "ValueError",.type "Exception",.type "BaseException",.type "object"] 99 "TooDeep" []),⟨[O (.ref 91),U,O (aj "TooDeep" 288),O (aj "TooDeep" 296),O (.builtin "ValueError.__new__"),O (.bool L)]⟩⟩)::(101,a4 "super" [.ref 100,.ref 100,.ref 100])::(102,ef 100)::[]
def tL(a:PE)(b:PG):PZ:=⟨yf a.params,103,cN,⟨[]⟩,{},304,b⟩
def AK(a:Px):PA:=c6 (AL a) [(0,ae a "__name__" 165 (aj "gluepage.scaled" 320))] [ae a "TooMuch" 319 (.ref 112),ae a "UNITY" 323 (ac 65536 322),ae a "MAX_DIMEN" 329 (ac 1073741823 328),ae a "MAX_NUMBER" 335 (ac 2147483647 334),ae a "NORMAL" 340 (ac 0 336),ae a "FIL" 341 (ac 1 337),ae a "FILL" 342 (ac 2 338),ae a "FILLL" 343 (ac 3 339)] 24
def Il(a:Px):PA:=b2 [ae a "__module__" 311 (aj "gluepage.errors" 194),ae a "__qualname__" 313 (aj "TooMuch" 312),ae a "__firstlineno__" 315 (ac 19 314),ae a "__static_attributes__" 316 (.ref 110)] 4
def Ij(a:Px):PA:=b2 [ae a "__module__" 311 (aj "gluepage.errors" 194),ae a "__firstlineno__" 315 (ac 19 314),ae a "__static_attributes__" 316 (.ref 110),ae a "__doc__" 317 .none] 2
def Bm:List Pl:=c5 Bn [(19,0,108)]
def ye(a:Px):BT:=cL (yf a)<|(3,AK a)::(12,aV Bm)::(39,(kN [.ref 52,.ref 64,.ref 76,.ref 88,.ref 100,.ref 112]))::(103,aK [.ref 39])::(104,eg)::(105,Il a)::(106,aK [])::(107,aV [])::(108,a4 "code" [aj "TooMuch" 306,aj "TooMuch" 307,aj "/claim/cut.py" 308,ac 19 0,ac 0 0,ac 0 0,ac 0 0,ac 0 0,.ref 106,.bool J,ac 181 0,.ref 107,.none,.none,.none,.none,ac 309 0,ac 19 0,aj "/claim/cut.py" 310])::(109,⟨.type "frame",U,.plain,⟨[O (.ref 108),O (.ref 3),O (.ref 105),U,O (aj "gluepage.errors" 194),U,O (.ref 0)]⟩⟩)::(110,aK [])::(111,Ij a)::(112,⟨.type "type",U,.cls (ee "TooMuch" [.ref 39] [.ref 112,.ref 39,.type "ValueError",.type "Exception",.type "BaseException",.type "object"] 111 "TooMuch" []),⟨[O (.ref 103),U,O (aj "TooMuch" 304),O (aj "TooMuch" 312),O (.builtin "ValueError.__new__"),O (.bool L)]⟩⟩)::(113,a4 "super" [.ref 112,.ref 112,.ref 112])::(114,ef 112)::(115,aK [ac 0 336,ac 1 337,ac 2 338,ac 3 339])::(116,a4 "tuple_iterator" [.none,ac 4 0])::(117,aK [])::(118,a4 "StopIteration" [.ref 117,.none,.none,.none,.bool J,.none])::[]
def tK(a:PE)(b:PG):PZ:=⟨ye a.params,119,cN,⟨[]⟩,{},344,b⟩
def AJ(a:Px):PA:=c6 (AK a) [] [ae a "is_whole" 352 (.ref 125),ae a "check_whole" 359 (.ref 132),ae a "check_number" 366 (.ref 139),ae a "check_dimen" 373 (.ref 146),ae a "rounded" 381 (.ref 153),ae a "reading" 389 (.ref 160),ae a "decimal_text" 402 (.ref 167),ae a "over" 412 (.ref 174),ae a "over_scaled" 413 (.ref 174),ae a "order_text" 420 (.ref 181),ae a "part_text" 429 (.ref 188)] 35
def Bl:List Pl:=c5 Bm [(26,0,124),(28,0,131),(32,0,138),(36,0,145),(40,0,152),(46,0,159),(48,0,166),(59,0,173),(69,0,180),(71,0,187)]
def yd(a:Px):BT:=cL (ye a)<|(3,AJ a)::(12,aV Bl)::bT 119 344 (aW 14) "is_whole" ["value","low","high"] 26 3 e7 (bT 126 353 (aW 15) "check_whole" ["value"] 28 1 e7 (bT 133 360 (aW 16) "check_number" ["value"] 32 1 e7 (bT 140 367 (aW 17) "check_dimen" ["value"] 36 1 e7 (bT 147 374 (aW 18) "rounded" ["number","by"] 40 2 e7 (bT 154 382 (aW 19) "reading" ["whole","scale"] 46 2 e7 (bT 161 390 (aW 20) "decimal_text" ["value","sign","points","part","scale","near","places"] 48 1 e7 (bT 168 403 (aW 21) "over" ["value","by","quotient","rest"] 59 2 e7 (bT 175 414 (aW 23) "order_text" ["order"] 69 1 e7 (bT 182 421 (aW 24) "part_text" ["value","order","unit"] 71 3 e7 ([]))))))))))
def y4(a:PE)(b:PG):PZ:=⟨yd a.params,189,cN,⟨[]⟩,{},430,b⟩
def AI(a:Px):PA:=c6 (AJ a) [] [ae a "Glue" 529 (.ref 256)] 36
def Ii(a:Px):PA:=b2 [ae a "__module__" 437 (aj "gluepage.scaled" 320),ae a "__qualname__" 439 (aj "Glue" 438),ae a "__firstlineno__" 441 (ac 73 440),ae a "__init__" 458 (.ref 203),ae a "parts" 465 (.ref 210),ae a "same" 473 (.ref 217),ae a "added" 481 (.ref 224),ae a "times" 489 (.ref 231),ae a "over" 499 (.ref 238),ae a "negated" 506 (.ref 245),ae a "text" 516 (.ref 253),ae a "__static_attributes__" 522 (.ref 254)] 12
def Ih(a:Px):PA:=b2 [ae a "__module__" 437 (aj "gluepage.scaled" 320),ae a "__firstlineno__" 441 (ac 73 440),ae a "__init__" 458 (.ref 203),ae a "parts" 465 (.ref 210),ae a "same" 473 (.ref 217),ae a "added" 481 (.ref 224),ae a "times" 489 (.ref 231),ae a "over" 499 (.ref 238),ae a "negated" 506 (.ref 245),ae a "text" 516 (.ref 253),ae a "__static_attributes__" 522 (.ref 254),ae a "__dict__" 524 (.ref 257),ae a "__weakref__" 526 (.ref 258),ae a "__doc__" 527 .none] 4
def Bk:List Pl:=c5 Bl [(73,0,194)]
def yc(a:Px):BT:=cL (yd a)<|(3,AI a)::(12,aV Bk)::(189,aK [])::(190,eg)::(191,Ii a)::(192,aK [])::(193,aV [ac 75 0,ac 4 0,.ref 202,ac 84 0,ac 4 0,.ref 209,ac 87 0,ac 4 0,.ref 216,ac 90 0,ac 4 0,.ref 223,ac 93 0,ac 4 0,.ref 230,ac 96 0,ac 4 0,.ref 237,ac 100 0,ac 4 0,.ref 244,ac 103 0,ac 4 0,.ref 252])::(194,a4 "code" [aj "Glue" 432,aj "Glue" 433,aj "/claim/cut.py" 434,ac 73 0,ac 0 0,ac 0 0,ac 0 0,ac 0 0,.ref 192,.bool J,ac 181 0,.ref 193,.none,.none,.none,.none,ac 435 0,ac 73 0,aj "/claim/cut.py" 436])::(195,⟨.type "frame",U,.plain,⟨[O (.ref 194),O (.ref 3),O (.ref 191),U,O (aj "gluepage.scaled" 320),U,O (.ref 0)]⟩⟩)::(196,aK [ac 0 442,ac 0 443,ac 0 444,ac 0 445,ac 0 446])::du 197 447 456 (bM (aW 25) 0) "__init__" "Glue.__init__" ["self","width","stretch","stretch_order","shrink","shrink_order"] 75 6 (.ref 196) e7 (cs 204 459 (bM (aW 25) 1) "parts" "Glue.parts" ["self"] 84 1 e7 (cs 211 466 (bM (aW 25) 2) "same" "Glue.same" ["self","other"] 87 2 e7 (cs 218 474 (bM (aW 25) 3) "added" "Glue.added" ["self","other"] 90 2 e7 (cs 225 482 (bM (aW 25) 4) "times" "Glue.times" ["self","count"] 93 2 e7 (cs 232 490 (bM (aW 25) 5) "over" "Glue.over" ["self","by","stretch","shrink"] 96 2 e7 (cs 239 500 (bM (aW 25) 6) "negated" "Glue.negated" ["self"] 100 1 e7 ((246,aK [aj "pt" 507])::du 247 508 514 (bM (aW 25) 7) "text" "Glue.text" ["self","unit","found"] 103 2 (.ref 246) e7 ((254,aK [aj "shrink" 517,aj "shrink_order" 518,aj "stretch" 519,aj "stretch_order" 520,aj "width" 521])::(255,Ih a)::(256,⟨.type "type",U,.cls (ee "Glue" [.type "object"] [.ref 256,.type "object"] 255 "Glue" []),⟨[U,U,O (aj "Glue" 430),O (aj "Glue" 438),O (.builtin "object.__new__"),O (.bool L)]⟩⟩)::(257,a4 "getset_descriptor" [aj "__dict__" 523,.ref 256,.builtin "function.__dict__",.builtin "function.__dict__#set"])::(258,a4 "getset_descriptor" [aj "__weakref__" 525,.ref 256,.builtin "ExceptionGroup.__weakref__",.none])::(259,a4 "super" [.ref 256,.ref 256,.ref 256])::(260,ef 256)::[]))))))))
def tJ(a:PE)(b:PG):PZ:=⟨yc a.params,261,cN,⟨[]⟩,{},530,b⟩
def AH(a:Px):PA:=c6 (AI a) [(0,ae a "__name__" 165 (aj "gluepage.fonts" 530))] [ae a "EDGE_fonts" 533 (ac 256 532),ae a "MOST_FONTS" 535 (ac 255 534),ae a "MOST_PARAMS" 537 (ac 64 536),ae a "MOST_SIZE" 543 (ac 134217727 542),ae a "PLAIN_SORT" 548 (ac 0 544),ae a "PROGRAM_SORT" 549 (ac 1 545),ae a "LARGER_SORT" 550 (ac 2 546),ae a "PIECES_SORT" 551 (ac 3 547),ae a "STOP_SKIP" 555 (ac 128 552),ae a "KERN_OP" 556 (ac 128 553),ae a "LEAD" 557 (ac 255 554),ae a "NO_CHARACTER" 564 (.ref 269),ae a "LETTERS" 566 (aj "abcdefghjklmnopqrstuvwxyz" 565),ae a "SMALL_PARAMS" 574 (.ref 270),ae a "is_size" 581 (.ref 277),ae a "check_sizes" 589 (.ref 284),ae a "check_pieces" 599 (.ref 291)] 53
def BM:List Pl:=c5 Bk [(120,0,276),(122,0,283),(126,0,290)]
def yF(a:Px):BT:=cL (yc a)<|(3,AH a)::(12,aV BM)::(261,aK [ac 0 544,ac 1 545,ac 2 546,ac 3 547])::(262,a4 "tuple_iterator" [.none,ac 4 0])::(263,aK [])::(264,a4 "StopIteration" [.ref 263,.none,.none,.none,.bool J,.none])::(265,aK [ac 128 552,ac 128 553,ac 255 554])::(266,a4 "tuple_iterator" [.none,ac 3 0])::(267,aK [])::(268,a4 "StopIteration" [.ref 267,.none,.none,.none,.bool J,.none])::(269,aK [ac 0 558,ac 0 559,ac 0 560,ac 0 561,ac 0 562,ac 0 563])::(270,aK [ac 0 567,ac 196608 568,ac 98304 569,ac 65536 570,ac 262144 571,ac 655360 572,ac 65536 573])::bT 271 575 (aW 36) "is_size" ["value"] 120 1 ez (bT 278 582 (aW 37) "check_sizes" ["sizes","size"] 122 1 ez (bT 285 590 (aW 38) "check_pieces" ["pieces","chars","place","code"] 126 2 ez ([])))
def tQ(a:PE)(b:PG):PZ:=⟨yF a.params,292,cN,⟨[]⟩,{},600,b⟩
def AG(a:Px):PA:=c6 (AH a) [] [ae a "check_chars" 611 (.ref 298),ae a "check_larger" 621 (.ref 305),ae a "check_program" 639 (.ref 312),ae a "left_start" 650 (.ref 319)] 57
def BL:List Pl:=c5 BM [(132,0,297),(144,0,304),(152,0,311),(171,0,318)]
def yE(a:Px):BT:=cL (yF a)<|(3,AG a)::(12,aV BL)::bT 292 600 (aW 39) "check_chars" ["chars","many","code","row","sort","rest"] 132 2 ez (bT 299 612 (aW 40) "check_larger" ["chars","code","far","turns"] 144 1 ez (bT 306 622 (aW 41) "check_program" ["program","kerns","chars","boundary","many","place","row","octet","skip","following","op","rest"] 152 4 ez (bT 313 640 (aW 42) "left_start" ["program","skip","following","op","rest"] 171 1 ez ([]))))
def zl(a:PE)(b:PG):PZ:=⟨yE a.params,320,cN,⟨[]⟩,{},651,b⟩
def AF(a:Px):PA:=c6 (AG a) [] [ae a "Font" 782 (.ref 409)] 58
def Ig(a:Px):PA:=b2 [ae a "__module__" 658 (aj "gluepage.fonts" 530),ae a "__qualname__" 660 (aj "Font" 659),ae a "__firstlineno__" 662 (ac 176 661),ae a "__init__" 677 (.ref 336),ae a "has" 685 (.ref 343),ae a "width" 693 (.ref 350),ae a "height" 701 (.ref 357),ae a "depth" 709 (.ref 364),ae a "italic" 717 (.ref 371),ae a "starts" 726 (.ref 378),ae a "larger" 735 (.ref 385),ae a "pieces" 744 (.ref 392),ae a "param" 752 (.ref 399),ae a "set_param" 761 (.ref 406),ae a "__static_attributes__" 775 (.ref 407)] 15
def If(a:Px):PA:=b2 [ae a "__module__" 658 (aj "gluepage.fonts" 530),ae a "__firstlineno__" 662 (ac 176 661),ae a "__init__" 677 (.ref 336),ae a "has" 685 (.ref 343),ae a "width" 693 (.ref 350),ae a "height" 701 (.ref 357),ae a "depth" 709 (.ref 364),ae a "italic" 717 (.ref 371),ae a "starts" 726 (.ref 378),ae a "larger" 735 (.ref 385),ae a "pieces" 744 (.ref 392),ae a "param" 752 (.ref 399),ae a "set_param" 761 (.ref 406),ae a "__static_attributes__" 775 (.ref 407),ae a "__dict__" 777 (.ref 410),ae a "__weakref__" 779 (.ref 411),ae a "__doc__" 780 .none] 4
def BK:List Pl:=c5 BL [(176,0,325)]
def yD(a:Px):BT:=cL (yE a)<|(3,AF a)::(12,aV BK)::(320,aK [])::(321,eg)::(322,Ig a)::(323,aK [])::(324,aV [ac 178 0,ac 4 0,.ref 335,ac 202 0,ac 4 0,.ref 342,ac 205 0,ac 4 0,.ref 349,ac 208 0,ac 4 0,.ref 356,ac 211 0,ac 4 0,.ref 363,ac 214 0,ac 4 0,.ref 370,ac 217 0,ac 4 0,.ref 377,ac 223 0,ac 4 0,.ref 384,ac 227 0,ac 4 0,.ref 391,ac 231 0,ac 4 0,.ref 398,ac 234 0,ac 4 0,.ref 405])::(325,a4 "code" [aj "Font" 653,aj "Font" 654,aj "/claim/cut.py" 655,ac 176 0,ac 0 0,ac 0 0,ac 0 0,ac 0 0,.ref 323,.bool J,ac 181 0,.ref 324,.none,.none,.none,.none,ac 656 0,ac 176 0,aj "/claim/cut.py" 657])::(326,⟨.type "frame",U,.plain,⟨[O (.ref 325),O (.ref 3),O (.ref 322),U,O (aj "gluepage.fonts" 530),U,O (.ref 0)]⟩⟩)::(327,aK [])::(328,aK [])::(329,aK [.ref 327,.ref 328,ac 256 532])::du 330 663 675 (bM (aW 43) 0) "__init__" "Font.__init__" ["self","number","name","size","params","chars","program","kerns","boundary"] 178 9 (.ref 329) ez (cs 337 678 (bM (aW 43) 1) "has" "Font.has" ["self","code"] 202 2 ez (cs 344 686 (bM (aW 43) 2) "width" "Font.width" ["self","code"] 205 2 ez (cs 351 694 (bM (aW 43) 3) "height" "Font.height" ["self","code"] 208 2 ez (cs 358 702 (bM (aW 43) 4) "depth" "Font.depth" ["self","code"] 211 2 ez (cs 365 710 (bM (aW 43) 5) "italic" "Font.italic" ["self","code"] 214 2 ez (cs 372 718 (bM (aW 43) 6) "starts" "Font.starts" ["self","code","row"] 217 2 ez (cs 379 727 (bM (aW 43) 7) "larger" "Font.larger" ["self","code","row"] 223 2 ez (cs 386 736 (bM (aW 43) 8) "pieces" "Font.pieces" ["self","code","row"] 227 2 ez (cs 393 745 (bM (aW 43) 9) "param" "Font.param" ["self","number"] 231 2 ez (cs 400 753 (bM (aW 43) 10) "set_param" "Font.set_param" ["self","number","value"] 234 3 ez ((407,aK [aj "boundary" 762,aj "chars" 763,aj "check" 764,aj "design" 765,aj "edge_start" 766,aj "hyphen_char" 767,aj "kerns" 768,aj "name" 769,aj "number" 770,aj "params" 771,aj "program" 772,aj "size" 773,aj "skew_char" 774])::(408,If a)::(409,⟨.type "type",U,.cls (ee "Font" [.type "object"] [.ref 409,.type "object"] 408 "Font" []),⟨[U,U,O (aj "Font" 651),O (aj "Font" 659),O (.builtin "object.__new__"),O (.bool L)]⟩⟩)::(410,a4 "getset_descriptor" [aj "__dict__" 776,.ref 409,.builtin "function.__dict__",.builtin "function.__dict__#set"])::(411,a4 "getset_descriptor" [aj "__weakref__" 778,.ref 409,.builtin "ExceptionGroup.__weakref__",.none])::(412,a4 "super" [.ref 409,.ref 409,.ref 409])::(413,ef 409)::[])))))))))))
def tP(a:PE)(b:PG):PZ:=⟨yD a.params,414,cN,⟨[]⟩,{},783,b⟩
def AD(a:Px):PA:=c6 (AF a) [(0,ae a "__name__" 165 (aj "gluepage.nodes" 806))] [ae a "font_name" 791 (.ref 420),ae a "font_of_rows" 805 (.ref 430),ae a "CHAR" 816 (ac 0 808),ae a "LIGATURE" 817 (ac 1 809),ae a "HBOX" 818 (ac 2 810),ae a "VBOX" 819 (ac 3 811),ae a "RULE" 820 (ac 4 812),ae a "KERN" 821 (ac 5 813),ae a "GLUE" 822 (ac 6 814),ae a "PENALTY" 823 (ac 7 815)] 68
def BJ:List Pl:=c5 BK [(236,0,419),(243,0,429)]
def yC(a:Px):BT:=cL (yD a)<|(3,AD a)::(12,aV BJ)::bT 414 783 (aW 44) "font_name" ["number","left","found"] 236 1 ez ((421,aK [])::(422,aK [])::(423,aK [.ref 270,.ref 421,.ref 422,ac 256 532])::du 424 792 803 (aW 45) "font_of_rows" "font_of_rows" ["number","rows","params","program","kerns","boundary","chars","row"] 243 6 (.ref 423) ez ((431,aK [ac 0 808,ac 1 809,ac 2 810,ac 3 811,ac 4 812,ac 5 813,ac 6 814,ac 7 815])::(432,a4 "tuple_iterator" [.none,ac 8 0])::(433,aK [])::(434,a4 "StopIteration" [.ref 433,.none,.none,.none,.bool J,.none])::[]))
def pO(a:PE)(b:PG):PZ:=⟨yC a.params,435,cN,⟨[]⟩,{},824,b⟩
def AC(a:Px):PA:=c6 (AD a) [] [ae a "DISC" 831 (ac 8 824),ae a "MARK" 832 (ac 9 825),ae a "INSERT" 833 (ac 10 826),ae a "ADJUST" 834 (ac 11 827),ae a "MATH" 835 (ac 12 828),ae a "SPECIAL" 836 (ac 13 829),ae a "UNSET" 837 (ac 14 830),ae a "FONT_KERN" 842 (ac 0 838),ae a "EXPLICIT" 843 (ac 1 839),ae a "ACCENT_KERN" 844 (ac 2 840),ae a "MU_KERN" 845 (ac 3 841)] 79
def yB(a:Px):BT:=cL (yC a)<|(3,AC a)::(435,aK [ac 8 824,ac 9 825,ac 10 826,ac 11 827,ac 12 828,ac 13 829,ac 14 830])::(436,a4 "tuple_iterator" [.none,ac 7 0])::(437,aK [])::(438,a4 "StopIteration" [.ref 437,.none,.none,.none,.bool J,.none])::(439,aK [ac 0 838,ac 1 839,ac 2 840,ac 3 841])::(440,a4 "tuple_iterator" [.none,ac 4 0])::(441,aK [])::(442,a4 "StopIteration" [.ref 441,.none,.none,.none,.bool J,.none])::[]
def pN(a:PE)(b:PG):PZ:=⟨yB a.params,443,cN,⟨[]⟩,{},846,b⟩
def AB(a:Px):PA:=c6 (AC a) [] [ae a "PLAIN" 853 (ac 0 846),ae a "ALEADERS" 854 (ac 1 847),ae a "CLEADERS" 855 (ac 2 848),ae a "XLEADERS" 856 (ac 3 849),ae a "MU_SKIP" 857 (ac 4 850),ae a "NONSCRIPT" 858 (ac 5 851),ae a "NAMED" 859 (ac 100 852),ae a "DEEPEST" 861 (ac 60 860),ae a "check_code" 868 (.ref 453),ae a "check_short" 876 (.ref 460)] 89
def BI:List Pl:=c5 BJ [(258,0,452),(262,0,459)]
def yA(a:Px):BT:=cL (yB a)<|(3,AB a)::(12,aV BI)::(443,aK [ac 0 846,ac 1 847,ac 2 848,ac 3 849,ac 4 850,ac 5 851,ac 100 852])::(444,a4 "tuple_iterator" [.none,ac 7 0])::(445,aK [])::(446,a4 "StopIteration" [.ref 445,.none,.none,.none,.bool J,.none])::bT 447 862 (aW 52) "check_code" ["code"] 258 1 fV (bT 454 869 (aW 53) "check_short" ["items","node"] 262 1 fV ([]))
def tO(a:PE)(b:PG):PZ:=⟨yA a.params,461,cN,⟨[]⟩,{},877,b⟩
def AA(a:Px):PA:=c6 (AB a) [] [ae a "Char" 908 (.ref 477)] 90
def Ie(a:Px):PA:=b2 [ae a "__module__" 884 (aj "gluepage.nodes" 806),ae a "__qualname__" 886 (aj "Char" 885),ae a "__firstlineno__" 888 (ac 267 887),ae a "kind" 889 (ac 0 808),ae a "__init__" 898 (.ref 474),ae a "__static_attributes__" 901 (.ref 475)] 6
def Ic(a:Px):PA:=b2 [ae a "__module__" 884 (aj "gluepage.nodes" 806),ae a "__firstlineno__" 888 (ac 267 887),ae a "kind" 889 (ac 0 808),ae a "__init__" 898 (.ref 474),ae a "__static_attributes__" 901 (.ref 475),ae a "__dict__" 903 (.ref 478),ae a "__weakref__" 905 (.ref 479),ae a "__doc__" 906 .none] 4
def BH:List Pl:=c5 BI [(267,0,466)]
def yz(a:Px):BT:=cL (yA a)<|(3,AA a)::(12,aV BH)::(461,aK [])::(462,eg)::(463,Ie a)::(464,aK [])::(465,aV [ac 270 0,ac 4 0,.ref 473])::(466,a4 "code" [aj "Char" 879,aj "Char" 880,aj "/claim/cut.py" 881,ac 267 0,ac 0 0,ac 0 0,ac 0 0,ac 0 0,.ref 464,.bool J,ac 181 0,.ref 465,.none,.none,.none,.none,ac 882 0,ac 267 0,aj "/claim/cut.py" 883])::(467,⟨.type "frame",U,.plain,⟨[O (.ref 466),O (.ref 3),O (.ref 463),U,O (aj "gluepage.nodes" 806),U,O (.ref 0)]⟩⟩)::cs 468 890 (bM (aW 54) 1) "__init__" "Char.__init__" ["self","font","code"] 270 3 fV ((475,aK [aj "code" 899,aj "font" 900])::(476,Ic a)::(477,⟨.type "type",U,.cls (ee "Char" [.type "object"] [.ref 477,.type "object"] 476 "Char" []),⟨[U,U,O (aj "Char" 877),O (aj "Char" 885),O (.builtin "object.__new__"),O (.bool L)]⟩⟩)::(478,a4 "getset_descriptor" [aj "__dict__" 902,.ref 477,.builtin "function.__dict__",.builtin "function.__dict__#set"])::(479,a4 "getset_descriptor" [aj "__weakref__" 904,.ref 477,.builtin "ExceptionGroup.__weakref__",.none])::(480,a4 "super" [.ref 477,.ref 477,.ref 477])::(481,ef 477)::[])
def zk(a:PE)(b:PG):PZ:=⟨yz a.params,482,cN,⟨[]⟩,{},909,b⟩
def Az(a:Px):PA:=c6 (AA a) [] [ae a "Ligature" 940 (.ref 497)] 91
def Ib(a:Px):PA:=b2 [ae a "__module__" 916 (aj "gluepage.nodes" 806),ae a "__qualname__" 918 (aj "Ligature" 917),ae a "__firstlineno__" 920 (ac 273 919),ae a "kind" 921 (ac 1 809),ae a "__init__" 927 (.ref 494),ae a "__static_attributes__" 933 (.ref 495)] 6
def Ia(a:Px):PA:=b2 [ae a "__module__" 916 (aj "gluepage.nodes" 806),ae a "__firstlineno__" 920 (ac 273 919),ae a "kind" 921 (ac 1 809),ae a "__init__" 927 (.ref 494),ae a "__static_attributes__" 933 (.ref 495),ae a "__dict__" 935 (.ref 498),ae a "__weakref__" 937 (.ref 499),ae a "__doc__" 938 .none] 4
def BG:List Pl:=c5 BH [(273,0,487)]
def yy(a:Px):BT:=cL (yz a)<|(3,Az a)::(12,aV BG)::(482,aK [])::(483,eg)::(484,Ib a)::(485,aK [])::(486,aV [ac 276 0,ac 4 0,.ref 493])::(487,a4 "code" [aj "Ligature" 911,aj "Ligature" 912,aj "/claim/cut.py" 913,ac 273 0,ac 0 0,ac 0 0,ac 0 0,ac 0 0,.ref 485,.bool J,ac 181 0,.ref 486,.none,.none,.none,.none,ac 914 0,ac 273 0,aj "/claim/cut.py" 915])::(488,⟨.type "frame",U,.plain,⟨[O (.ref 487),O (.ref 3),O (.ref 484),U,O (aj "gluepage.nodes" 806),U,O (.ref 0)]⟩⟩)::(489,aK [.bool J,.bool J])::k1 490 922 925 (bM (aW 55) 1) "__init__" "Ligature.__init__" 276 6 (.ref 489) fV ((495,aK [aj "code" 928,aj "font" 929,aj "left" 930,aj "parts" 931,aj "right" 932])::(496,Ia a)::(497,⟨.type "type",U,.cls (ee "Ligature" [.type "object"] [.ref 497,.type "object"] 496 "Ligature" []),⟨[U,U,O (aj "Ligature" 909),O (aj "Ligature" 917),O (.builtin "object.__new__"),O (.bool L)]⟩⟩)::(498,a4 "getset_descriptor" [aj "__dict__" 934,.ref 497,.builtin "function.__dict__",.builtin "function.__dict__#set"])::(499,a4 "getset_descriptor" [aj "__weakref__" 936,.ref 497,.builtin "ExceptionGroup.__weakref__",.none])::(500,a4 "super" [.ref 497,.ref 497,.ref 497])::(501,ef 497)::[])
def zj(a:PE)(b:PG):PZ:=⟨yy a.params,502,cN,⟨[]⟩,{},941,b⟩
def Ay(a:Px):PA:=c6 (Az a) [] [ae a "Rule" 975 (.ref 518)] 92
def H_(a:Px):PA:=b2 [ae a "__module__" 948 (aj "gluepage.nodes" 806),ae a "__qualname__" 950 (aj "Rule" 949),ae a "__firstlineno__" 952 (ac 282 951),ae a "kind" 953 (ac 4 812),ae a "__init__" 964 (.ref 515),ae a "__static_attributes__" 968 (.ref 516)] 6
def H9(a:Px):PA:=b2 [ae a "__module__" 948 (aj "gluepage.nodes" 806),ae a "__firstlineno__" 952 (ac 282 951),ae a "kind" 953 (ac 4 812),ae a "__init__" 964 (.ref 515),ae a "__static_attributes__" 968 (.ref 516),ae a "__dict__" 970 (.ref 519),ae a "__weakref__" 972 (.ref 520),ae a "__doc__" 973 .none] 4
def BF:List Pl:=c5 BG [(282,0,507)]
def yx(a:Px):BT:=cL (yy a)<|(3,Ay a)::(12,aV BF)::(502,aK [])::(503,eg)::(504,H_ a)::(505,aK [])::(506,aV [ac 285 0,ac 4 0,.ref 514])::(507,a4 "code" [aj "Rule" 943,aj "Rule" 944,aj "/claim/cut.py" 945,ac 282 0,ac 0 0,ac 0 0,ac 0 0,ac 0 0,.ref 505,.bool J,ac 181 0,.ref 506,.none,.none,.none,.none,ac 946 0,ac 282 0,aj "/claim/cut.py" 947])::(508,⟨.type "frame",U,.plain,⟨[O (.ref 507),O (.ref 3),O (.ref 504),U,O (aj "gluepage.nodes" 806),U,O (.ref 0)]⟩⟩)::cs 509 954 (bM (aW 56) 1) "__init__" "Rule.__init__" ["self","width","height","depth","size"] 285 4 fV ((516,aK [aj "depth" 965,aj "height" 966,aj "width" 967])::(517,H9 a)::(518,⟨.type "type",U,.cls (ee "Rule" [.type "object"] [.ref 518,.type "object"] 517 "Rule" []),⟨[U,U,O (aj "Rule" 941),O (aj "Rule" 949),O (.builtin "object.__new__"),O (.bool L)]⟩⟩)::(519,a4 "getset_descriptor" [aj "__dict__" 969,.ref 518,.builtin "function.__dict__",.builtin "function.__dict__#set"])::(520,a4 "getset_descriptor" [aj "__weakref__" 971,.ref 518,.builtin "ExceptionGroup.__weakref__",.none])::(521,a4 "super" [.ref 518,.ref 518,.ref 518])::(522,ef 518)::[])
def zi(a:PE)(b:PG):PZ:=⟨yx a.params,523,cN,⟨[]⟩,{},976,b⟩
def Ax(a:Px):PA:=c6 (Ay a) [] [ae a "Kern" 1007 (.ref 539)] 93
def H8(a:Px):PA:=b2 [ae a "__module__" 983 (aj "gluepage.nodes" 806),ae a "__qualname__" 985 (aj "Kern" 984),ae a "__firstlineno__" 987 (ac 292 986),ae a "kind" 988 (ac 5 813),ae a "__init__" 997 (.ref 536),ae a "__static_attributes__" 1000 (.ref 537)] 6
def H7(a:Px):PA:=b2 [ae a "__module__" 983 (aj "gluepage.nodes" 806),ae a "__firstlineno__" 987 (ac 292 986),ae a "kind" 988 (ac 5 813),ae a "__init__" 997 (.ref 536),ae a "__static_attributes__" 1000 (.ref 537),ae a "__dict__" 1002 (.ref 540),ae a "__weakref__" 1004 (.ref 541),ae a "__doc__" 1005 .none] 4
def BE:List Pl:=c5 BF [(292,0,528)]
def yw(a:Px):BT:=cL (yx a)<|(3,Ax a)::(12,aV BE)::(523,aK [])::(524,eg)::(525,H8 a)::(526,aK [])::(527,aV [ac 295 0,ac 4 0,.ref 535])::(528,a4 "code" [aj "Kern" 978,aj "Kern" 979,aj "/claim/cut.py" 980,ac 292 0,ac 0 0,ac 0 0,ac 0 0,ac 0 0,.ref 526,.bool J,ac 181 0,.ref 527,.none,.none,.none,.none,ac 981 0,ac 292 0,aj "/claim/cut.py" 982])::(529,⟨.type "frame",U,.plain,⟨[O (.ref 528),O (.ref 3),O (.ref 525),U,O (aj "gluepage.nodes" 806),U,O (.ref 0)]⟩⟩)::cs 530 989 (bM (aW 57) 1) "__init__" "Kern.__init__" ["self","width","sort"] 295 3 fV ((537,aK [aj "sort" 998,aj "width" 999])::(538,H7 a)::(539,⟨.type "type",U,.cls (ee "Kern" [.type "object"] [.ref 539,.type "object"] 538 "Kern" []),⟨[U,U,O (aj "Kern" 976),O (aj "Kern" 984),O (.builtin "object.__new__"),O (.bool L)]⟩⟩)::(540,a4 "getset_descriptor" [aj "__dict__" 1001,.ref 539,.builtin "function.__dict__",.builtin "function.__dict__#set"])::(541,a4 "getset_descriptor" [aj "__weakref__" 1003,.ref 539,.builtin "ExceptionGroup.__weakref__",.none])::(542,a4 "super" [.ref 539,.ref 539,.ref 539])::(543,ef 539)::[])
def zh(a:PE)(b:PG):PZ:=⟨yw a.params,544,cN,⟨[]⟩,{},1008,b⟩
def Aw(a:Px):PA:=c6 (Ax a) [] [ae a "Skip" 1041 (.ref 561)] 94
def H6(a:Px):PA:=b2 [ae a "__module__" 1015 (aj "gluepage.nodes" 806),ae a "__qualname__" 1017 (aj "Skip" 1016),ae a "__firstlineno__" 1019 (ac 300 1018),ae a "kind" 1020 (ac 6 814),ae a "__init__" 1030 (.ref 558),ae a "__static_attributes__" 1034 (.ref 559)] 6
def H5(a:Px):PA:=b2 [ae a "__module__" 1015 (aj "gluepage.nodes" 806),ae a "__firstlineno__" 1019 (ac 300 1018),ae a "kind" 1020 (ac 6 814),ae a "__init__" 1030 (.ref 558),ae a "__static_attributes__" 1034 (.ref 559),ae a "__dict__" 1036 (.ref 562),ae a "__weakref__" 1038 (.ref 563),ae a "__doc__" 1039 .none] 4
def BC:List Pl:=c5 BE [(300,0,549)]
def yu(a:Px):BT:=cL (yw a)<|(3,Aw a)::(12,aV BC)::(544,aK [])::(545,eg)::(546,H6 a)::(547,aK [])::(548,aV [ac 303 0,ac 4 0,.ref 557])::(549,a4 "code" [aj "Skip" 1010,aj "Skip" 1011,aj "/claim/cut.py" 1012,ac 300 0,ac 0 0,ac 0 0,ac 0 0,ac 0 0,.ref 547,.bool J,ac 181 0,.ref 548,.none,.none,.none,.none,ac 1013 0,ac 300 0,aj "/claim/cut.py" 1014])::(550,⟨.type "frame",U,.plain,⟨[O (.ref 549),O (.ref 3),O (.ref 546),U,O (aj "gluepage.nodes" 806),U,O (.ref 0)]⟩⟩)::(551,aK [.none])::du 552 1021 1028 (bM (aW 58) 1) "__init__" "Skip.__init__" ["self","glue","sort","leader"] 303 4 (.ref 551) fV ((559,aK [aj "glue" 1031,aj "leader" 1032,aj "sort" 1033])::(560,H5 a)::(561,⟨.type "type",U,.cls (ee "Skip" [.type "object"] [.ref 561,.type "object"] 560 "Skip" []),⟨[U,U,O (aj "Skip" 1008),O (aj "Skip" 1016),O (.builtin "object.__new__"),O (.bool L)]⟩⟩)::(562,a4 "getset_descriptor" [aj "__dict__" 1035,.ref 561,.builtin "function.__dict__",.builtin "function.__dict__#set"])::(563,a4 "getset_descriptor" [aj "__weakref__" 1037,.ref 561,.builtin "ExceptionGroup.__weakref__",.none])::(564,a4 "super" [.ref 561,.ref 561,.ref 561])::(565,ef 561)::[])
def zf(a:PE)(b:PG):PZ:=⟨yu a.params,566,cN,⟨[]⟩,{},1042,b⟩
def Av(a:Px):PA:=c6 (Aw a) [] [ae a "Penalty" 1071 (.ref 582)] 95
def H4(a:Px):PA:=b2 [ae a "__module__" 1049 (aj "gluepage.nodes" 806),ae a "__qualname__" 1051 (aj "Penalty" 1050),ae a "__firstlineno__" 1053 (ac 313 1052),ae a "kind" 1054 (ac 7 815),ae a "__init__" 1062 (.ref 579),ae a "__static_attributes__" 1064 (.ref 580)] 6
def H2(a:Px):PA:=b2 [ae a "__module__" 1049 (aj "gluepage.nodes" 806),ae a "__firstlineno__" 1053 (ac 313 1052),ae a "kind" 1054 (ac 7 815),ae a "__init__" 1062 (.ref 579),ae a "__static_attributes__" 1064 (.ref 580),ae a "__dict__" 1066 (.ref 583),ae a "__weakref__" 1068 (.ref 584),ae a "__doc__" 1069 .none] 4
def BB:List Pl:=c5 BC [(313,0,571)]
def yt(a:Px):BT:=cL (yu a)<|(3,Av a)::(12,aV BB)::(566,aK [])::(567,eg)::(568,H4 a)::(569,aK [])::(570,aV [ac 316 0,ac 4 0,.ref 578])::(571,a4 "code" [aj "Penalty" 1044,aj "Penalty" 1045,aj "/claim/cut.py" 1046,ac 313 0,ac 0 0,ac 0 0,ac 0 0,ac 0 0,.ref 569,.bool J,ac 181 0,.ref 570,.none,.none,.none,.none,ac 1047 0,ac 313 0,aj "/claim/cut.py" 1048])::(572,⟨.type "frame",U,.plain,⟨[O (.ref 571),O (.ref 3),O (.ref 568),U,O (aj "gluepage.nodes" 806),U,O (.ref 0)]⟩⟩)::cs 573 1055 (bM (aW 59) 1) "__init__" "Penalty.__init__" ["self","value"] 316 2 fV ((580,aK [aj "value" 1063])::(581,H2 a)::(582,⟨.type "type",U,.cls (ee "Penalty" [.type "object"] [.ref 582,.type "object"] 581 "Penalty" []),⟨[U,U,O (aj "Penalty" 1042),O (aj "Penalty" 1050),O (.builtin "object.__new__"),O (.bool L)]⟩⟩)::(583,a4 "getset_descriptor" [aj "__dict__" 1065,.ref 582,.builtin "function.__dict__",.builtin "function.__dict__#set"])::(584,a4 "getset_descriptor" [aj "__weakref__" 1067,.ref 582,.builtin "ExceptionGroup.__weakref__",.none])::(585,a4 "super" [.ref 582,.ref 582,.ref 582])::(586,ef 582)::[])
def ze(a:PE)(b:PG):PZ:=⟨yt a.params,587,cN,⟨[]⟩,{},1072,b⟩
def Au(a:Px):PA:=c6 (Av a) [] [ae a "Disc" 1105 (.ref 603)] 96
def H1(a:Px):PA:=b2 [ae a "__module__" 1079 (aj "gluepage.nodes" 806),ae a "__qualname__" 1081 (aj "Disc" 1080),ae a "__firstlineno__" 1083 (ac 318 1082),ae a "kind" 1084 (ac 8 824),ae a "__init__" 1094 (.ref 600),ae a "__static_attributes__" 1098 (.ref 601)] 6
def H0(a:Px):PA:=b2 [ae a "__module__" 1079 (aj "gluepage.nodes" 806),ae a "__firstlineno__" 1083 (ac 318 1082),ae a "kind" 1084 (ac 8 824),ae a "__init__" 1094 (.ref 600),ae a "__static_attributes__" 1098 (.ref 601),ae a "__dict__" 1100 (.ref 604),ae a "__weakref__" 1102 (.ref 605),ae a "__doc__" 1103 .none] 4
def BA:List Pl:=c5 BB [(318,0,592)]
def ys(a:Px):BT:=cL (yt a)<|(3,Au a)::(12,aV BA)::(587,aK [])::(588,eg)::(589,H1 a)::(590,aK [])::(591,aV [ac 321 0,ac 4 0,.ref 599])::(592,a4 "code" [aj "Disc" 1074,aj "Disc" 1075,aj "/claim/cut.py" 1076,ac 318 0,ac 0 0,ac 0 0,ac 0 0,ac 0 0,.ref 590,.bool J,ac 181 0,.ref 591,.none,.none,.none,.none,ac 1077 0,ac 318 0,aj "/claim/cut.py" 1078])::(593,⟨.type "frame",U,.plain,⟨[O (.ref 592),O (.ref 3),O (.ref 589),U,O (aj "gluepage.nodes" 806),U,O (.ref 0)]⟩⟩)::cs 594 1085 (bM (aW 60) 1) "__init__" "Disc.__init__" ["self","pre","post","middle"] 321 4 fV ((601,aK [aj "middle" 1095,aj "post" 1096,aj "pre" 1097])::(602,H0 a)::(603,⟨.type "type",U,.cls (ee "Disc" [.type "object"] [.ref 603,.type "object"] 602 "Disc" []),⟨[U,U,O (aj "Disc" 1072),O (aj "Disc" 1080),O (.builtin "object.__new__"),O (.bool L)]⟩⟩)::(604,a4 "getset_descriptor" [aj "__dict__" 1099,.ref 603,.builtin "function.__dict__",.builtin "function.__dict__#set"])::(605,a4 "getset_descriptor" [aj "__weakref__" 1101,.ref 603,.builtin "ExceptionGroup.__weakref__",.none])::(606,a4 "super" [.ref 603,.ref 603,.ref 603])::(607,ef 603)::[])
def zd(a:PE)(b:PG):PZ:=⟨ys a.params,608,cN,⟨[]⟩,{},1106,b⟩
def At(a:Px):PA:=c6 (Au a) [] [ae a "Mark" 1135 (.ref 624)] 97
def HZ(a:Px):PA:=b2 [ae a "__module__" 1113 (aj "gluepage.nodes" 806),ae a "__qualname__" 1115 (aj "Mark" 1114),ae a "__firstlineno__" 1117 (ac 325 1116),ae a "kind" 1118 (ac 9 825),ae a "__init__" 1126 (.ref 621),ae a "__static_attributes__" 1128 (.ref 622)] 6
def HY(a:Px):PA:=b2 [ae a "__module__" 1113 (aj "gluepage.nodes" 806),ae a "__firstlineno__" 1117 (ac 325 1116),ae a "kind" 1118 (ac 9 825),ae a "__init__" 1126 (.ref 621),ae a "__static_attributes__" 1128 (.ref 622),ae a "__dict__" 1130 (.ref 625),ae a "__weakref__" 1132 (.ref 626),ae a "__doc__" 1133 .none] 4
def Bz:List Pl:=c5 BA [(325,0,613)]
def yr(a:Px):BT:=cL (ys a)<|(3,At a)::(12,aV Bz)::(608,aK [])::(609,eg)::(610,HZ a)::(611,aK [])::(612,aV [ac 328 0,ac 4 0,.ref 620])::(613,a4 "code" [aj "Mark" 1108,aj "Mark" 1109,aj "/claim/cut.py" 1110,ac 325 0,ac 0 0,ac 0 0,ac 0 0,ac 0 0,.ref 611,.bool J,ac 181 0,.ref 612,.none,.none,.none,.none,ac 1111 0,ac 325 0,aj "/claim/cut.py" 1112])::(614,⟨.type "frame",U,.plain,⟨[O (.ref 613),O (.ref 3),O (.ref 610),U,O (aj "gluepage.nodes" 806),U,O (.ref 0)]⟩⟩)::cs 615 1119 (bM (aW 61) 1) "__init__" "Mark.__init__" ["self","tokens"] 328 2 fV ((622,aK [aj "tokens" 1127])::(623,HY a)::(624,⟨.type "type",U,.cls (ee "Mark" [.type "object"] [.ref 624,.type "object"] 623 "Mark" []),⟨[U,U,O (aj "Mark" 1106),O (aj "Mark" 1114),O (.builtin "object.__new__"),O (.bool L)]⟩⟩)::(625,a4 "getset_descriptor" [aj "__dict__" 1129,.ref 624,.builtin "function.__dict__",.builtin "function.__dict__#set"])::(626,a4 "getset_descriptor" [aj "__weakref__" 1131,.ref 624,.builtin "ExceptionGroup.__weakref__",.none])::(627,a4 "super" [.ref 624,.ref 624,.ref 624])::(628,ef 624)::[])
def zc(a:PE)(b:PG):PZ:=⟨yr a.params,629,cN,⟨[]⟩,{},1136,b⟩
def As(a:Px):PA:=c6 (At a) [(0,ae a "__name__" 165 (aj "gluepage.ligkern" 1200))] [ae a "MathEdge" 1167 (.ref 645),ae a "check_depth" 1174 (.ref 656),ae a "described_rest" 1185 (.ref 663),ae a "described" 1192 (.ref 669),ae a "described_list" 1199 (.ref 675),ae a "KNOWN_OPS" 1210 (.ref 676),ae a "STEPS" 1212 (ac 20 1211)] 104
def HX(a:Px):PA:=b2 [ae a "__module__" 1143 (aj "gluepage.nodes" 806),ae a "__qualname__" 1145 (aj "MathEdge" 1144),ae a "__firstlineno__" 1147 (ac 330 1146),ae a "kind" 1148 (ac 12 828),ae a "__init__" 1157 (.ref 642),ae a "__static_attributes__" 1160 (.ref 643)] 6
def HW(a:Px):PA:=b2 [ae a "__module__" 1143 (aj "gluepage.nodes" 806),ae a "__firstlineno__" 1147 (ac 330 1146),ae a "kind" 1148 (ac 12 828),ae a "__init__" 1157 (.ref 642),ae a "__static_attributes__" 1160 (.ref 643),ae a "__dict__" 1162 (.ref 646),ae a "__weakref__" 1164 (.ref 647),ae a "__doc__" 1165 .none] 4
def By:List Pl:=c5 Bz [(330,0,634),(336,0,655),(339,0,662),(354,0,668),(377,0,674)]
def yq(a:Px):BT:=cL (yr a)<|(3,As a)::(12,aV By)::(629,aK [])::(630,eg)::(631,HX a)::(632,aK [])::(633,aV [ac 333 0,ac 4 0,.ref 641])::(634,a4 "code" [aj "MathEdge" 1138,aj "MathEdge" 1139,aj "/claim/cut.py" 1140,ac 330 0,ac 0 0,ac 0 0,ac 0 0,ac 0 0,.ref 632,.bool J,ac 181 0,.ref 633,.none,.none,.none,.none,ac 1141 0,ac 330 0,aj "/claim/cut.py" 1142])::(635,⟨.type "frame",U,.plain,⟨[O (.ref 634),O (.ref 3),O (.ref 631),U,O (aj "gluepage.nodes" 806),U,O (.ref 0)]⟩⟩)::cs 636 1149 (bM (aW 62) 1) "__init__" "MathEdge.__init__" ["self","is_on","width"] 333 3 fV ((643,aK [aj "is_on" 1158,aj "width" 1159])::(644,HW a)::(645,⟨.type "type",U,.cls (ee "MathEdge" [.type "object"] [.ref 645,.type "object"] 644 "MathEdge" []),⟨[U,U,O (aj "MathEdge" 1136),O (aj "MathEdge" 1144),O (.builtin "object.__new__"),O (.bool L)]⟩⟩)::(646,a4 "getset_descriptor" [aj "__dict__" 1161,.ref 645,.builtin "function.__dict__",.builtin "function.__dict__#set"])::(647,a4 "getset_descriptor" [aj "__weakref__" 1163,.ref 645,.builtin "ExceptionGroup.__weakref__",.none])::(648,a4 "super" [.ref 645,.ref 645,.ref 645])::(649,ef 645)::bT 650 1168 (aW 63) "check_depth" ["depth"] 336 1 fV (bT 657 1175 (aW 64) "described_rest" ["node","depth","kind","sums","sizes"] 339 2 fV ((664,aK [ac 0 1186])::k1 665 1187 1190 (aW 65) "described" "described" 354 2 (.ref 664) fV ((670,aK [ac 0 1193])::k1 671 1194 1197 (aW 66) "described_list" "described_list" 377 2 (.ref 670) fV ((676,aK [ac 0 1202,ac 1 1203,ac 2 1204,ac 3 1205,ac 5 1206,ac 6 1207,ac 7 1208,ac 11 1209])::[])))))
def zb(a:PE)(b:PG):PZ:=⟨yq a.params,677,cN,⟨[]⟩,{},1213,b⟩
def Aq(a:Px):PA:=c6 (As a) [] [ae a "look" 1228 (.ref 683),ae a "Word" 1262 (.ref 698),ae a "leave" 1272 (.ref 709),ae a "pass_on" 1279 (.ref 716),ae a "put_between" 1295 (.ref 723),ae a "word_nodes" 1310 (.ref 730)] 110
def HV(a:Px):PA:=b2 [ae a "__module__" 1236 (aj "gluepage.ligkern" 1200),ae a "__qualname__" 1238 (aj "Word" 1237),ae a "__firstlineno__" 1240 (ac 399 1239),ae a "__init__" 1246 (.ref 695),ae a "__static_attributes__" 1255 (.ref 696)] 5
def HU(a:Px):PA:=b2 [ae a "__module__" 1236 (aj "gluepage.ligkern" 1200),ae a "__firstlineno__" 1240 (ac 399 1239),ae a "__init__" 1246 (.ref 695),ae a "__static_attributes__" 1255 (.ref 696),ae a "__dict__" 1257 (.ref 699),ae a "__weakref__" 1259 (.ref 700),ae a "__doc__" 1260 .none] 4
def Bx:List Pl:=c5 By [(382,0,682),(399,0,689),(410,0,708),(419,0,715),(425,0,722),(445,0,729)]
def yp(a:Px):BT:=cL (yq a)<|(3,Aq a)::(12,aV Bx)::bT 677 1213 (aW 70) "look" ["font","left","right","place","program","going","skip","following","op","rest"] 382 3 kQ ((684,aK [])::(685,eg)::(686,HV a)::(687,aK [])::(688,aV [ac 401 0,ac 4 0,.ref 694])::(689,a4 "code" [aj "Word" 1231,aj "Word" 1232,aj "/claim/cut.py" 1233,ac 399 0,ac 0 0,ac 0 0,ac 0 0,ac 0 0,.ref 687,.bool J,ac 181 0,.ref 688,.none,.none,.none,.none,ac 1234 0,ac 399 0,aj "/claim/cut.py" 1235])::(690,⟨.type "frame",U,.plain,⟨[O (.ref 689),O (.ref 3),O (.ref 686),U,O (aj "gluepage.ligkern" 1200),U,O (.ref 0)]⟩⟩)::k1 691 1241 1244 (bM (aW 71) 0) "__init__" "Word.__init__" 401 5 .none kQ ((696,aK [aj "edge" 1247,aj "font" 1248,aj "found" 1249,aj "hit_left" 1250,aj "hit_right" 1251,aj "is_going" 1252,aj "now" 1253,aj "waiting" 1254])::(697,HU a)::(698,⟨.type "type",U,.cls (ee "Word" [.type "object"] [.ref 698,.type "object"] 697 "Word" []),⟨[U,U,O (aj "Word" 1229),O (aj "Word" 1237),O (.builtin "object.__new__"),O (.bool L)]⟩⟩)::(699,a4 "getset_descriptor" [aj "__dict__" 1256,.ref 698,.builtin "function.__dict__",.builtin "function.__dict__#set"])::(700,a4 "getset_descriptor" [aj "__weakref__" 1258,.ref 698,.builtin "ExceptionGroup.__weakref__",.none])::(701,a4 "super" [.ref 698,.ref 698,.ref 698])::(702,ef 698)::bT 703 1263 (aW 72) "leave" ["word","code","parts","is_made"] 410 1 kQ (bT 710 1273 (aW 73) "pass_on" ["word"] 419 1 kQ (bT 717 1280 (aW 74) "put_between" ["word","op","code","now","keeps_left","keeps_right","parts","taken","made","turn"] 425 3 kQ (bT 724 1296 (aW 75) "word_nodes" ["font","codes","left_edge","edge","word","steps","left","right","told"] 445 4 kQ ([]))))))
def za(a:PE)(b:PG):PZ:=⟨yp a.params,731,cN,⟨[]⟩,{},1311,b⟩
def Ap(a:Px):PA:=c6 (Aq a) [(0,ae a "__name__" 165 (aj "gluepage.hyphlist" 1325))] [ae a "run" 1324 (.ref 738),ae a "LONGEST_hyphlist" 1328 (ac 63 1327),ae a "FOLLOWING" 1329 (.ref 739),ae a "is_font_kern" 1336 (.ref 746),ae a "codes_of" 1343 (.ref 753),ae a "is_of_font" 1351 (.ref 760),ae a "first_letter" 1365 (.ref 767),ae a "is_followed_well" 1374 (.ref 774),ae a "word_stretch" 1380 (.ref 779),ae a "mark_of" 1387 (.ref 786),ae a "marks_of" 1393 (.ref 791),ae a "outer_kerns" 1402 (.ref 798)] 122
def Bw:List Pl:=c5 Bx [(465,0,737),(484,0,745),(486,0,752),(490,0,759),(494,0,766),(504,0,773),(509,0,778),(523,0,785),(531,0,790),(533,0,797)]
def yo(a:Px):BT:=cL (yp a)<|(3,Ap a)::(12,aV Bw)::(731,aK [.bool L,.bool L])::du 732 1311 1322 (aW 76) "run" "run" ["font","codes","left_edge","right_edge","code","found","piece","has_left"] 465 4 (.ref 731) kQ ((739,aK [ac 5 813,ac 13 829,ac 6 814,ac 7 815,ac 10 826,ac 11 827,ac 9 825])::bT 740 1330 (aW 80) "is_font_kern" ["node"] 484 1 fy (bT 747 1337 (aW 81) "codes_of" ["node"] 486 1 fy (bT 754 1344 (aW 82) "is_of_font" ["node","font"] 490 2 fy (bT 761 1352 (aW 83) "first_letter" ["items","place","lower","upper_too","spot","node","codes","letter"] 494 4 fy (bT 768 1366 (aW 84) "is_followed_well" ["items","end","node"] 504 2 fy (jY 775 1375 (aW 85) "word_stretch" 509 4 fy (bT 780 1381 (aW 86) "mark_of" ["node"] 523 1 fy (jY 787 1388 (aW 87) "marks_of" 531 1 fy (bT 792 1394 (aW 88) "outer_kerns" ["nodes","lead","trail"] 533 1 fy ([]))))))))))
def y'(a:PE)(b:PG):PZ:=⟨yo a.params,799,cN,⟨[]⟩,{},1403,b⟩
def Ao(a:Px):PA:=c6 (Ap a) [] [ae a "Stretch" 1497 (.ref 843)] 123
def HT(a:Px):PA:=b2 [ae a "__module__" 1410 (aj "gluepage.hyphlist" 1325),ae a "__qualname__" 1412 (aj "Stretch" 1411),ae a "__firstlineno__" 1414 (ac 540 1413),ae a "__init__" 1429 (.ref 812),ae a "find_edges" 1442 (.ref 819),ae a "alike_ahead" 1452 (.ref 826),ae a "alike_behind" 1464 (.ref 833),ae a "with_breaks" 1481 (.ref 840),ae a "__static_attributes__" 1490 (.ref 841)] 9
def HS(a:Px):PA:=b2 [ae a "__module__" 1410 (aj "gluepage.hyphlist" 1325),ae a "__firstlineno__" 1414 (ac 540 1413),ae a "__init__" 1429 (.ref 812),ae a "find_edges" 1442 (.ref 819),ae a "alike_ahead" 1452 (.ref 826),ae a "alike_behind" 1464 (.ref 833),ae a "with_breaks" 1481 (.ref 840),ae a "__static_attributes__" 1490 (.ref 841),ae a "__dict__" 1492 (.ref 844),ae a "__weakref__" 1494 (.ref 845),ae a "__doc__" 1495 .none] 4
def Bv:List Pl:=c5 Bw [(540,0,804)]
def yn(a:Px):BT:=cL (yo a)<|(3,Ao a)::(12,aV Bv)::(799,aK [])::(800,eg)::(801,HT a)::(802,aK [])::(803,aV [ac 542 0,ac 4 0,.ref 811,ac 563 0,ac 4 0,.ref 818,ac 574 0,ac 4 0,.ref 825,ac 582 0,ac 4 0,.ref 832,ac 592 0,ac 4 0,.ref 839])::(804,a4 "code" [aj "Stretch" 1405,aj "Stretch" 1406,aj "/claim/cut.py" 1407,ac 540 0,ac 0 0,ac 0 0,ac 0 0,ac 0 0,.ref 802,.bool J,ac 181 0,.ref 803,.none,.none,.none,.none,ac 1408 0,ac 540 0,aj "/claim/cut.py" 1409])::(805,⟨.type "frame",U,.plain,⟨[O (.ref 804),O (.ref 3),O (.ref 801),U,O (aj "gluepage.hyphlist" 1325),U,O (.ref 0)]⟩⟩)::cs 806 1415 (bM (aW 89) 0) "__init__" "Stretch.__init__" ["self","items","begin","end","first","last","lead","trail","node"] 542 4 fy (cs 813 1430 (bM (aW 89) 1) "find_edges" "Stretch.find_edges" ["self","items","left","right","nodes","lead","trail"] 563 2 fy (cs 820 1443 (bM (aW 89) 2) "alike_ahead" "Stretch.alike_ahead" ["self","head","place","count"] 574 3 fy (cs 827 1453 (bM (aW 89) 3) "alike_behind" "Stretch.alike_behind" ["self","tail","place","begin","count","spot"] 582 4 fy (cs 834 1465 (bM (aW 89) 4) "with_breaks" "Stretch.with_breaks" ["self","places","hyphen","found","done","place","head","tail","begin","behind","end"] 592 2 fy ((841,aK [aj "begins" 1482,aj "codes" 1483,aj "first" 1484,aj "font" 1485,aj "last" 1486,aj "left" 1487,aj "nodes" 1488,aj "right" 1489])::(842,HS a)::(843,⟨.type "type",U,.cls (ee "Stretch" [.type "object"] [.ref 843,.type "object"] 842 "Stretch" []),⟨[U,U,O (aj "Stretch" 1403),O (aj "Stretch" 1411),O (.builtin "object.__new__"),O (.bool L)]⟩⟩)::(844,a4 "getset_descriptor" [aj "__dict__" 1491,.ref 843,.builtin "function.__dict__",.builtin "function.__dict__#set"])::(845,a4 "getset_descriptor" [aj "__weakref__" 1493,.ref 843,.builtin "ExceptionGroup.__weakref__",.none])::(846,a4 "super" [.ref 843,.ref 843,.ref 843])::(847,ef 843)::[])))))
def tN(a:PE)(b:PG):PZ:=⟨yn a.params,848,cN,⟨[]⟩,{},1498,b⟩
def An(a:Px):PA:=c6 (Ao a) [(0,ae a "__name__" 165 (aj "gluepage.horizontal" 1536))] [ae a "word_offset" 1503 (.ref 852),ae a "hyphenated" 1509 (.ref 857),ae a "REGION" 1515 (ac 1048576 1514),ae a "CATEGORIES" 1522 (ac 13 1516),ae a "LOWER_CODES" 1523 (ac 14 1517),ae a "UPPER_CODES" 1524 (ac 15 1518),ae a "SPACE_FACTORS" 1525 (ac 16 1519),ae a "MATH_CODES" 1526 (ac 17 1520),ae a "DELIMITER_CODES" 1527 (ac 18 1521),ae a "key" 1535 (.ref 868)] 133
def Bu:List Pl:=c5 Bv [(608,0,851),(610,0,856),(632,0,867)]
def ym(a:Px):BT:=cL (yn a)<|(3,An a)::(12,aV Bu)::jY 848 1498 (aW 90) "word_offset" 608 3 fy (jY 853 1504 (aW 91) "hyphenated" 610 6 fy ((858,aK [ac 13 1516,ac 14 1517,ac 15 1518,ac 16 1519,ac 17 1520,ac 18 1521])::(859,a4 "tuple_iterator" [.none,ac 6 0])::(860,aK [])::(861,a4 "StopIteration" [.ref 860,.none,.none,.none,.bool J,.none])::bT 862 1528 (aW 95) "key" ["region","index"] 632 2 IS ([])))
def tM(a:PE)(b:PG):PZ:=⟨ym a.params,869,cN,⟨[]⟩,{},1538,b⟩
def Am(a:Px):PA:=c6 (An a) [(0,ae a "__name__" 165 (aj "gluepage.hyphen" 1575))] [ae a "LowerCodes" 1574 (.ref 892),ae a "LONGEST_hyphen" 1578 (ac 63 1577),ae a "EDGE_hyphen" 1580 (ac 0 1579),ae a "is_word" 1588 (.ref 903),ae a "inner_letters" 1597 (.ref 910),ae a "check_pattern" 1607 (.ref 917)] 139
def HR(a:Px):PA:=b2 [ae a "__module__" 1545 (aj "gluepage.horizontal" 1536),ae a "__qualname__" 1547 (aj "LowerCodes" 1546),ae a "__firstlineno__" 1549 (ac 637 1548),ae a "__init__" 1557 (.ref 882),ae a "lower" 1565 (.ref 889),ae a "__static_attributes__" 1567 (.ref 890)] 6
def HP(a:Px):PA:=b2 [ae a "__module__" 1545 (aj "gluepage.horizontal" 1536),ae a "__firstlineno__" 1549 (ac 637 1548),ae a "__init__" 1557 (.ref 882),ae a "lower" 1565 (.ref 889),ae a "__static_attributes__" 1567 (.ref 890),ae a "__dict__" 1569 (.ref 893),ae a "__weakref__" 1571 (.ref 894),ae a "__doc__" 1572 .none] 4
def Bt:List Pl:=c5 Bu [(637,0,874),(647,0,902),(654,0,909),(661,0,916)]
def yl(a:Px):BT:=cL (ym a)<|(3,Am a)::(12,aV Bt)::(869,aK [])::(870,eg)::(871,HR a)::(872,aK [])::(873,aV [ac 639 0,ac 4 0,.ref 881,ac 642 0,ac 4 0,.ref 888])::(874,a4 "code" [aj "LowerCodes" 1540,aj "LowerCodes" 1541,aj "/claim/cut.py" 1542,ac 637 0,ac 0 0,ac 0 0,ac 0 0,ac 0 0,.ref 872,.bool J,ac 181 0,.ref 873,.none,.none,.none,.none,ac 1543 0,ac 637 0,aj "/claim/cut.py" 1544])::(875,⟨.type "frame",U,.plain,⟨[O (.ref 874),O (.ref 3),O (.ref 871),U,O (aj "gluepage.horizontal" 1536),U,O (.ref 0)]⟩⟩)::cs 876 1550 (bM (aW 97) 0) "__init__" "LowerCodes.__init__" ["self","store"] 639 2 A2 (cs 883 1558 (bM (aW 97) 1) "lower" "LowerCodes.lower" ["self","code"] 642 2 A2 ((890,aK [aj "store" 1566])::(891,HP a)::(892,⟨.type "type",U,.cls (ee "LowerCodes" [.type "object"] [.ref 892,.type "object"] 891 "LowerCodes" []),⟨[U,U,O (aj "LowerCodes" 1538),O (aj "LowerCodes" 1546),O (.builtin "object.__new__"),O (.bool L)]⟩⟩)::(893,a4 "getset_descriptor" [aj "__dict__" 1568,.ref 892,.builtin "function.__dict__",.builtin "function.__dict__#set"])::(894,a4 "getset_descriptor" [aj "__weakref__" 1570,.ref 892,.builtin "ExceptionGroup.__weakref__",.none])::(895,a4 "super" [.ref 892,.ref 892,.ref 892])::(896,ef 892)::bT 897 1581 (aW 101) "is_word" ["letters","letter"] 647 1 gF (bT 904 1589 (aW 102) "inner_letters" ["letters","begin","end"] 654 1 gF (bT 911 1598 (aW 103) "check_pattern" ["letters","digits","letter","digit"] 661 2 gF ([])))))
def y_(a:PE)(b:PG):PZ:=⟨yl a.params,918,cN,⟨[]⟩,{},1608,b⟩
def Al(a:Px):PA:=c6 (Am a) [] [ae a "word_key" 1616 (.ref 924),ae a "least_part" 1623 (.ref 931)] 141
def Br:List Pl:=c5 Bt [(676,0,923),(681,0,930)]
def yj(a:Px):BT:=cL (yl a)<|(3,Al a)::(12,aV Br)::bT 918 1608 (aW 104) "word_key" ["letters","found","letter"] 676 1 gF (bT 925 1617 (aW 105) "least_part" ["value"] 681 1 gF ([]))
def y8(a:PE)(b:PG):PZ:=⟨yj a.params,932,cN,⟨[]⟩,{},1624,b⟩
def Ak(a:Px):PA:=c6 (Al a) [] [ae a "Patterns" 1722 (.ref 994)] 142
def HO(a:Px):PA:=b2 [ae a "__module__" 1631 (aj "gluepage.hyphen" 1575),ae a "__qualname__" 1633 (aj "Patterns" 1632),ae a "__firstlineno__" 1635 (ac 683 1634),ae a "__init__" 1642 (.ref 945),ae a "state_of" 1652 (.ref 952),ae a "add" 1665 (.ref 959),ae a "add_text" 1673 (.ref 966),ae a "add_exception" 1679 (.ref 971),ae a "add_word" 1687 (.ref 978),ae a "gap_numbers" 1702 (.ref 985),ae a "points" 1710 (.ref 991),ae a "__static_attributes__" 1715 (.ref 992)] 12
def HN(a:Px):PA:=b2 [ae a "__module__" 1631 (aj "gluepage.hyphen" 1575),ae a "__firstlineno__" 1635 (ac 683 1634),ae a "__init__" 1642 (.ref 945),ae a "state_of" 1652 (.ref 952),ae a "add" 1665 (.ref 959),ae a "add_text" 1673 (.ref 966),ae a "add_exception" 1679 (.ref 971),ae a "add_word" 1687 (.ref 978),ae a "gap_numbers" 1702 (.ref 985),ae a "points" 1710 (.ref 991),ae a "__static_attributes__" 1715 (.ref 992),ae a "__dict__" 1717 (.ref 995),ae a "__weakref__" 1719 (.ref 996),ae a "__doc__" 1720 .none] 4
def Bq:List Pl:=c5 Br [(683,0,937)]
def yi(a:Px):BT:=cL (yj a)<|(3,Ak a)::(12,aV Bq)::(932,aK [])::(933,eg)::(934,HO a)::(935,aK [])::(936,aV [ac 685 0,ac 4 0,.ref 944,ac 691 0,ac 4 0,.ref 951,ac 699 0,ac 4 0,.ref 958,ac 717 0,ac 4 0,.ref 965,ac 720 0,ac 4 0,.ref 970,ac 730 0,ac 4 0,.ref 977,ac 733 0,ac 4 0,.ref 984,ac 748 0,ac 4 0,.ref 990])::(937,a4 "code" [aj "Patterns" 1626,aj "Patterns" 1627,aj "/claim/cut.py" 1628,ac 683 0,ac 0 0,ac 0 0,ac 0 0,ac 0 0,.ref 935,.bool J,ac 181 0,.ref 936,.none,.none,.none,.none,ac 1629 0,ac 683 0,aj "/claim/cut.py" 1630])::(938,⟨.type "frame",U,.plain,⟨[O (.ref 937),O (.ref 3),O (.ref 934),U,O (aj "gluepage.hyphen" 1575),U,O (.ref 0)]⟩⟩)::cs 939 1636 (bM (aW 106) 0) "__init__" "Patterns.__init__" ["self"] 685 1 gF (cs 946 1643 (bM (aW 106) 1) "state_of" "Patterns.state_of" ["self","letters","state","letter"] 691 2 gF (cs 953 1653 (bM (aW 106) 2) "add" "Patterns.add" ["self","letters","digits","row","state","letter","spot"] 699 3 gF (cs 960 1666 (bM (aW 106) 3) "add_text" "Patterns.add_text" ["self","text"] 717 2 gF (k1 967 1674 1677 (bM (aW 106) 4) "add_exception" "Patterns.add_exception" 720 3 .none gF (cs 972 1680 (bM (aW 106) 5) "add_word" "Patterns.add_word" ["self","text"] 730 2 gF (cs 979 1688 (bM (aW 106) 6) "gap_numbers" "Patterns.gap_numbers" ["self","letters","marks","found","begin","state","letter","spot","digit"] 733 2 gF ((986,aK [ac 2 1703,ac 3 1704])::k1 987 1705 1708 (bM (aW 106) 7) "points" "Patterns.points" 748 4 (.ref 986) gF ((992,aK [aj "exceptions" 1711,aj "links" 1712,aj "numbers" 1713,aj "states" 1714])::(993,HN a)::(994,⟨.type "type",U,.cls (ee "Patterns" [.type "object"] [.ref 994,.type "object"] 993 "Patterns" []),⟨[U,U,O (aj "Patterns" 1624),O (aj "Patterns" 1632),O (.builtin "object.__new__"),O (.bool L)]⟩⟩)::(995,a4 "getset_descriptor" [aj "__dict__" 1716,.ref 994,.builtin "function.__dict__",.builtin "function.__dict__#set"])::(996,a4 "getset_descriptor" [aj "__weakref__" 1718,.ref 994,.builtin "ExceptionGroup.__weakref__",.none])::(997,a4 "super" [.ref 994,.ref 994,.ref 994])::(998,ef 994)::[]))))))))
def y7(a:PE)(b:PG):PZ:=⟨yi a.params,999,cN,⟨[]⟩,{},1723,b⟩
def HM(a:Px):PA:=c6 (Ak a) [(0,ae a "__name__" 165 (aj "law_rg0169_01" 1723))] [ae a "_law_cell" 1732 (.ref 1005),ae a "_law_box" 1739 (.ref 1012),ae a "_law_take" 1749 (.ref 1019),ae a "_law_rows" 1763 (.ref 1026),ae a "_law_font" 1775 (.ref 1033),ae a "_law_patterns" 1781 (.ref 1038),ae a "_law_points" 1787 (.ref 1043),ae a "_law_small" 1794 (.ref 1050),ae a "_law_parts" 1801 (.ref 1057),ae a "_law_cut" 1807 (.ref 1062),ae a "_law_between" 1814 (.ref 1069),ae a "_law_right" 1820 (.ref 1074),ae a "law" 1829 (.ref 1081)] 155
def Jr:List Pl:=c5 Bq [(759,0,1004),(761,0,1011),(763,0,1018),(771,0,1025),(779,0,1032),(792,0,1037),(802,0,1042),(819,0,1049),(821,0,1056),(823,0,1061),(842,0,1068),(856,0,1073),(894,0,1080)]
def tp(a:Px):BT:=cL (yi a)<|(3,HM a)::(12,aV Jr)::bT 999 1725 (aW 108) "_law_cell" ["script","k"] 759 2 gG (bT 1006 1733 (aW 109) "_law_box" ["cell"] 761 1 gG (bT 1013 1740 (aW 110) "_law_take" ["box","many","digit","blend"] 763 2 gG (bT 1020 1750 (aW 111) "_law_rows" ["box","begin","found","many","turn","way","op","rest"] 771 2 gG (bT 1027 1764 (aW 112) "_law_font" ["box","program","starts","code","edge","rows"] 779 1 gG (jY 1034 1776 (aW 113) "_law_patterns" 792 2 gG (jY 1039 1782 (aW 114) "_law_points" 802 5 gG (bT 1044 1788 (aW 115) "_law_small" ["code"] 819 1 gG (bT 1051 1795 (aW 116) "_law_parts" ["node"] 821 1 gG (jY 1058 1802 (aW 117) "_law_cut" 823 3 gG (bT 1063 1808 (aW 118) "_law_between" ["way"] 842 1 gG (jY 1070 1815 (aW 119) "_law_right" 856 2 gG (bT 1075 1821 (aW 120) "law" ["script","tiny","k"] 894 1 gG ([])))))))))))))
def kI(a:PE)(b:PG):PZ:=⟨tp a.params,1082,cN,⟨[]⟩,{},1830,b⟩
noncomputable def zO:PD:=⟨0,0,0,0⟩
noncomputable def zN:PD:=⟨5,0,8,28⟩
theorem HF:∀a,cl 0 3 259 no zO zm zN a:=λa=>by kernel_rfl
noncomputable def zH:PD:=⟨9,0,10,8⟩
theorem HE:∀a,cl 3 1 214 zm zN zg zH a:=λa=>by kernel_rfl
noncomputable def zy:PD:=⟨11,0,12,8⟩
theorem Ht:∀a,cl 4 1 214 zg zH y9 zy a:=λa=>by kernel_rfl
noncomputable def zv:PD:=⟨13,0,14,8⟩
theorem Hi:∀a,cl 5 1 214 y9 zy y6 zv a:=λa=>by kernel_rfl
noncomputable def zu:PD:=⟨15,0,16,8⟩
theorem Hf:∀a,cl 6 1 214 y6 zv y5 zu a:=λa=>by kernel_rfl
noncomputable def tW:PD:=⟨17,0,18,8⟩
theorem He:∀a,cl 7 1 214 y5 zu tL tW a:=λa=>by kernel_rfl
noncomputable def tV:PD:=⟨25,19,25,24⟩
theorem Hd:∀a,cl 8 6 375 tL tW tK tV a:=Sf "special-get-raises" (P:=cl 8 6 375 tL tW tK tV) (λa=>by kernel_rfl) (λa=>by kernel_rfl)
noncomputable def zt:PD:=⟨71,0,72,81⟩
theorem Hc:∀a,cl 14 11 316 tK tV y4 zt a:=λa=>by kernel_rfl
noncomputable def tU:PD:=⟨73,0,109,20⟩
theorem Hb:∀a,cl 25 1 464 y4 zt tJ tU a:=λa=>by kernel_rfl
noncomputable def t3:PD:=⟨126,0,131,54⟩
theorem Ha:∀a,cl 26 13 375 tJ tU tQ t3 a:=Sf "special-get-raises" (P:=cl 26 13 375 tJ tU tQ t3) (λa=>by kernel_rfl) (λa=>by kernel_rfl)
noncomputable def zM:PD:=⟨171,0,175,50⟩
theorem HD:∀a,cl 39 4 140 tQ t3 zl zM a:=λa=>by kernel_rfl
noncomputable def t2:PD:=⟨176,0,235,16⟩
theorem HC:∀a,cl 43 1 575 zl zM tP t2 a:=λa=>by kernel_rfl
noncomputable def pV:PD:=⟨253,46,253,53⟩
theorem HB:∀a,cl 44 4 259 tP t2 pO pV a:=Sf "special-get-raises" (P:=cl 44 4 259 tP t2 pO pV) (λa=>by kernel_rfl) (λa=>by kernel_rfl)
noncomputable def pU:PD:=⟨255,34,255,41⟩
theorem HA:∀a,cl 48 2 257 pO pV pN pU a:=Sf "special-get-raises" (P:=cl 48 2 257 pO pV pN pU) (λa=>by kernel_rfl) (λa=>by kernel_rfl)
noncomputable def t0:PD:=⟨262,0,266,16⟩
theorem Hz:∀a,cl 50 4 224 pN pU tO t0 a:=Sf "special-get-raises" (P:=cl 50 4 224 pN pU tO t0) (λa=>by kernel_rfl) (λa=>by kernel_rfl)
noncomputable def zL:PD:=⟨267,0,272,36⟩
theorem Hy:∀a,cl 54 1 238 tO t0 zk zL a:=λa=>by kernel_rfl
noncomputable def zK:PD:=⟨273,0,281,26⟩
theorem Hx:∀a,cl 55 1 237 zk zL zj zK a:=λa=>by kernel_rfl
noncomputable def zJ:PD:=⟨282,0,291,26⟩
theorem Hw:∀a,cl 56 1 241 zj zK zi zJ a:=λa=>by kernel_rfl
noncomputable def zI:PD:=⟨292,0,299,24⟩
theorem Hv:∀a,cl 57 1 238 zi zJ zh zI a:=λa=>by kernel_rfl
noncomputable def zG:PD:=⟨300,0,312,28⟩
theorem Hu:∀a,cl 58 1 241 zh zI zf zG a:=λa=>by kernel_rfl
noncomputable def zF:PD:=⟨313,0,317,40⟩
theorem Hs:∀a,cl 59 1 236 zf zG ze zF a:=λa=>by kernel_rfl
noncomputable def zE:PD:=⟨318,0,324,41⟩
theorem Hr:∀a,cl 60 1 240 ze zF zd zE a:=λa=>by kernel_rfl
noncomputable def zD:PD:=⟨325,0,329,35⟩
theorem Hq:∀a,cl 61 1 236 zd zE zc zD a:=λa=>by kernel_rfl
noncomputable def zC:PD:=⟨381,0,381,5⟩
theorem Hp:∀a,cl 62 8 392 zc zD zb zC a:=λa=>by kernel_rfl
noncomputable def zB:PD:=⟨445,0,464,21⟩
theorem Ho:∀a,cl 70 6 400 zb zC za zB a:=λa=>by kernel_rfl
noncomputable def zA:PD:=⟨533,0,539,24⟩
theorem Hn:∀a,cl 76 13 347 za zB y' zA a:=λa=>by kernel_rfl
noncomputable def tZ:PD:=⟨540,0,607,40⟩
theorem Hm:∀a,cl 89 1 385 y' zA tN tZ a:=λa=>by kernel_rfl
noncomputable def tY:PD:=⟨636,0,636,8⟩
theorem Hl:∀a,cl 90 7 253 tN tZ tM tY a:=Sf "special-get-raises" (P:=cl 90 7 253 tN tZ tM tY) (λa=>by kernel_rfl) (λa=>by kernel_rfl)
noncomputable def zz:PD:=⟨661,0,675,62⟩
theorem Hk:∀a,cl 97 7 375 tM tY y_ zz a:=λa=>by kernel_rfl
noncomputable def zx:PD:=⟨681,0,682,58⟩
theorem Hj:∀a,cl 104 2 61 y_ zz y8 zx a:=λa=>by kernel_rfl
noncomputable def zw:PD:=⟨683,0,757,85⟩
theorem Hh:∀a,cl 106 1 458 y8 zx y7 zw a:=λa=>by kernel_rfl
noncomputable def tX:PD:=⟨894,0,899,15⟩
theorem Hg:∀a,cl 107 14 393 y7 zw kI tX a:=λa=>by kernel_rfl
end
section
set_option maxRecDepth 100000
set_option maxHeartbeats 0
set_option tactic.hygienic true
theorem F6{a:PE}{b:Nat}{s c:PZ}{d:Thread}{e:Code}{f:PD}(g:yW ds a 11 gl 1 b s d=O (.next,c,e,f)):segRun Rn ds a 11 gl 1 b s.abs d=O (.next,c.abs,e,f):=by refine segRun_of ?_;rw[PySem.W.Fast.te10110043849684766642,T9];exact g
theorem cW{a:PE}{c:PG}{d e b k:Nat}{s f:PE->PG->PZ}{g h:PD}{i:Pn}(j:cl b k d s g f h a)(l:SC Rn ds a 11 gl e (f a c).abs (restOf (iv.drop (b+k)) k3 hR h [RB hy])=O i):SC Rn ds a 11 gl (d+e) (s a c).abs (restOf (iv.drop b) k3 hR g [RB hy])=O i:=by rw[<-Uj k (iv.drop b),Tu];exact piece_app (F6 (congrFun j c)) l
theorem GM(a:PE)(b:PG):PySem.W.Fast.tw15667345088766844465 Td ds a 11 gl 12 ⟨Q0 a.params,⟨[]⟩,SL,SK,b⟩ (S_ ds)=O ((no a b).abs,⟨PySem.W.Fast.tw11892475500146522536 Td hR,hR,hy,[RB hy]⟩):=by kernel_rfl
theorem GN(a:PE)(b:PG):topGo Rn ds a 11 gl 12 ⟨Q0 a.params,⟨[]⟩,SL,SK,b⟩ (S_ ds)=O ((no a b).abs,⟨denote Rn (.body iv k3),hR,hy,[RB hy]⟩):=by rw[PySem.W.Fast.te15667345088766844465,PySem.W.Fast.te11892475500146522536,T9];exact GM a b
theorem Ns(a:PE)(b:PG):segRun Rn ds a 11 gl 1 1 (no a b).abs (blockOf iv k3 hR hy [RB hy])=O (.next,(no a b).abs,hR,zO):=by kernel_rfl
theorem Mi(a:PE)(b:PG):PySem.W.Fast.tw14082659384304107361 Td ds a 11 gl 2 (kI a b).abs ⟨doneF .next,hR,tX,[RB hy]⟩=O (kI a b).abs:=by kernel_rfl
theorem Mj(a:PE)(b:PG):SC Rn ds a 11 gl 2 (kI a b).abs (restOf (iv.drop (107+14)) k3 hR tX [RB hy])=O (kI a b).abs:=by rw[show iv.drop (107+14)=[]from by kernel_rfl];refine piece_nil ?_;rw[PySem.W.Fast.te14082659384304107361,T9];exact Mi a b
noncomputable def v9:Nat:=12+(1+(259+(214+(214+(214+(214+(214+(375+(316+(464+(375+(140+(575+(259+(257+(224+(238+(237+(241+(238+(241+(236+(240+(236+(392+(400+(347+(385+(253+(375+(61+(458+(393+(2))))))))))))))))))))))))))))))))))
theorem a'(a:PE)(b:PG):SC Rn ds a 11 gl v9 ⟨Q0 a.params,⟨[]⟩,SL,SK,b⟩ (S_ ds)=O (kI a b).abs:=by refine go_top (GN a b) (piece_block (Ns a b) ?_);refine cW (HF a) ?_;refine cW (HE a) ?_;refine cW (Ht a) ?_;refine cW (Hi a) ?_;refine cW (Hf a) ?_;refine cW (He a) ?_;refine cW (Hd a) ?_;refine cW (Hc a) ?_;refine cW (Hb a) ?_;refine cW (Ha a) ?_;refine cW (HD a) ?_;refine cW (HC a) ?_;refine cW (HB a) ?_;refine cW (HA a) ?_;refine cW (Hz a) ?_;refine cW (Hy a) ?_;refine cW (Hx a) ?_;refine cW (Hw a) ?_;refine cW (Hv a) ?_;refine cW (Hu a) ?_;refine cW (Hs a) ?_;refine cW (Hr a) ?_;refine cW (Hq a) ?_;refine cW (Hp a) ?_;refine cW (Ho a) ?_;refine cW (Hn a) ?_;refine cW (Hm a) ?_;refine cW (Hl a) ?_;refine cW (Hk a) ?_;refine cW (Hj a) ?_;refine cW (Hh a) ?_;refine cW (Hg a) ?_;exact Mj a b
def cX:RF:=view ds [0,2,3,4,5,6,7,8,10,11,12,13,14,15,16,17,18,19,20,21,22,23,24,25,27,28,29,30,31,32,33,34,35,36,37,38,39,40,41,42,43,44,47,48,49,50,51,52,53,54,55,56,57,58,59,60,61,62,63,64,68,69,70,71,72,73,74,75,78,79,80,81,82,83,84,85,86,87,88,89,90,91,93,94,95,97,99,100,101,102,103,104,105,106,108,109,110,111,112,113,114,115,116,117,118,119,120]
noncomputable def fW:List Pr:=(["PageError","MAX_DIMEN","MAX_NUMBER","NORMAL","FIL","FILL","FILLL","over_scaled","MOST_SIZE","PLAIN_SORT","PROGRAM_SORT","LARGER_SORT","PIECES_SORT","STOP_SKIP","KERN_OP","LEAD","Font","font_of_rows","CHAR","LIGATURE","HBOX","VBOX","RULE","KERN","GLUE","PENALTY","DISC","MARK","INSERT","ADJUST","MATH","SPECIAL","UNSET","FONT_KERN","EXPLICIT","ACCENT_KERN","MU_KERN","PLAIN","ALEADERS","CLEADERS","XLEADERS","MU_SKIP","NONSCRIPT","NAMED","Char","Ligature","Rule","Kern","Skip","Penalty","Disc","Mark","MathEdge","described","described_list","run","FOLLOWING","REGION","CATEGORIES","LOWER_CODES","UPPER_CODES","SPACE_FACTORS","MATH_CODES","DELIMITER_CODES"]:List String).map Q'
noncomputable def qm:List (Pr×WData):=([("MAX_DIMEN",.int 1073741823),("MAX_NUMBER",.int 2147483647),("NORMAL",.int 0),("FIL",.int 1),("FILL",.int 2),("FILLL",.int 3),("MOST_SIZE",.int 134217727),("PLAIN_SORT",.int 0),("PROGRAM_SORT",.int 1),("LARGER_SORT",.int 2),("PIECES_SORT",.int 3),("STOP_SKIP",.int 128),("KERN_OP",.int 128),("LEAD",.int 255),("CHAR",.int 0),("LIGATURE",.int 1),("HBOX",.int 2),("VBOX",.int 3),("RULE",.int 4),("KERN",.int 5),("GLUE",.int 6),("PENALTY",.int 7),("DISC",.int 8),("MARK",.int 9),("INSERT",.int 10),("ADJUST",.int 11),("MATH",.int 12),("SPECIAL",.int 13),("UNSET",.int 14),("FONT_KERN",.int 0),("EXPLICIT",.int 1),("ACCENT_KERN",.int 2),("MU_KERN",.int 3),("PLAIN",.int 0),("ALEADERS",.int 1),("CLEADERS",.int 2),("XLEADERS",.int 3),("MU_SKIP",.int 4),("NONSCRIPT",.int 5),("NAMED",.int 100),("FOLLOWING",.tuple [.int 5,.int 13,.int 6,.int 7,.int 10,.int 11,.int 9]),("REGION",.int 1048576),("CATEGORIES",.int 13),("LOWER_CODES",.int 14),("UPPER_CODES",.int 15),("SPACE_FACTORS",.int 16),("MATH_CODES",.int 17),("DELIMITER_CODES",.int 18)]:List (String×WData)).map λa=>(Q' a.1,a.2)
noncomputable def nD:List Nat:=[2,3,15,17,18,20,21,22,29,30,32,33,35,36,37,38,39,40,43,50,51,52,55,62,63,64,67,74,75,76,79,86,87,88,91,98,99,100,103,110,111,112,119,121,122,124,125,126,128,129,131,132,133,135,136,138,139,140,142,143,145,146,147,149,150,152,153,154,156,157,159,160,161,163,164,166,167,168,170,171,173,174,175,177,178,180,181,182,184,185,187,188,196,197,199,200,202,203,204,206,207,209,210,211,213,214,216,217,218,220,221,223,224,225,227,228,230,231,232,234,235,237,238,239,241,242,244,245,246,247,249,250,252,253,254,255,256,257,258,269,270,271,273,274,276,277,278,280,281,283,284,285,287,288,290,291,292,294,295,297,298,299,301,302,304,305,306,308,309,311,312,313,315,316,318,319,327,328,329,330,332,333,335,336,337,339,340,342,343,344,346,347,349,350,351,353,354,356,357,358,360,361,363,364,365,367,368,370,371,372,374,375,377,378,379,381,382,384,385,386,388,389,391,392,393,395,396,398,399,400,402,403,405,406,407,408,409,410,411,414,416,417,419,420,421,422,423,424,426,427,429,430,447,449,450,452,453,454,456,457,459,460,468,470,471,473,474,475,476,477,478,479,489,490,493,494,495,496,497,498,499,509,511,512,514,515,516,517,518,519,520,530,532,533,535,536,537,538,539,540,541,551,552,554,555,557,558,559,560,561,562,563,573,575,576,578,579,580,581,582,583,584,594,596,597,599,600,601,602,603,604,605,615,617,618,620,621,622,623,624,625,626,636,638,639,641,642,643,644,645,646,647,650,652,653,655,656,657,659,660,662,663,664,665,668,669,670,671,674,675,676,677,679,680,682,683,691,694,695,696,697,698,699,700,703,705,706,708,709,710,712,713,715,716,717,719,720,722,723,724,726,727,729,730,731,732,734,735,737,738,739,740,742,743,745,746,747,749,750,752,753,754,756,757,759,760,761,763,764,766,767,768,770,771,773,774,775,778,779,780,782,783,785,786,787,790,791,792,794,795,797,798,806,808,809,811,812,813,815,816,818,819,820,822,823,825,826,827,829,830,832,833,834,836,837,839,840,841,842,843,844,845,848,851,852,853,856,857,862,864,865,867,868,876,878,879,881,882,883,885,886,888,889,890,891,892,893,894,897,899,900,902,903,904,906,907,909,910,911,913,914,916,917,918,920,921,923,924,925,927,928,930,931,939,941,942,944,945,946,948,949,951,952,953,955,956,958,959,960,962,963,965,966,967,970,971,972,974,975,977,978,979,981,982,984,985,986,987,990,991,992,993,994,995,996,999,1001,1002,1004,1005,1006,1008,1009,1011,1012,1013,1015,1016,1018,1019,1020,1022,1023,1025,1026,1027,1029,1030,1032,1033,1034,1037,1038,1039,1042,1043,1044,1046,1047,1049,1050,1051,1053,1054,1056,1057,1058,1061,1062,1063,1065,1066,1068,1069,1070,1073,1074,1075,1077,1078,1080,1081]
def hZ(b:Px):Qa:=nD.map λa=>(a,((tp b).get a).getD default)
def gV:Hook:=kHook hZ nD λ_=>by kernel_rfl
def lf(s:Pn):Bool:=xlAt cX qm s&&recOk (RowW.records PySem.Challenge.rw_rg0169_01.row.toRowW) s
noncomputable def A1:List Pr:=Ta ds.main.body
def nN(a:Px):Pv:=absHeap (tp a) 1082 cN
abbrev dM(a:PE)(b:PG):Pn:=⟨nN a.params,⟨[]⟩,{},1830,b⟩
theorem Oa(a:PE)(b:PG):(kI a b).abs=dM a b:=by kernel_rfl
theorem Gh(a:PE)(b:PG):SC Rn ds a 11 gl v9 ⟨Q0 a.params,⟨[]⟩,SL,SK,b⟩ (S_ ds)=O (dM a b):=by rw[<-Oa];exact a' a b
theorem FU(a:PE):((Q0 a.params).isNs Qx&&(⟨[]⟩:Array GenState).size==0,(Q0 a.params).objs.size,(Q0 a.params).nsMap Qx "__annotations__")=(L,11,gl):=by rw[PySem.W.Fast.te8920871248978507458];kernel_rfl
theorem Jh(a:PE)(b:PG):(staticsOk A1 (Q0 a.params) (dM a b).heap&&namesBound ds (dM a b).heap&&gensDone (dM a b)&&laidKept (Q0 a.params) (dM a b).heap)=L:=by kernel_rfl
theorem Jq(a:PE)(b:PG):seen ((recsOf cX).map (·.name)) (ownsOf cX) [] {dM a b with gens:=#[]}=expectedOf cX:=by rw[PySem.W.Fast.te5160383126252970620,Vh,PySem.W.Fast.te5991557255702980513];kernel_rfl
theorem Jp(a:PE)(b:PG):(dM a b).heap.bltView=bltViewBooted:=by kernel_rfl
theorem Jo(a:PE)(b:PG):((dM a b).heap.keysOk (looseW cX fW) ((recsOf cX).map (·.name)) ((litsOf cX).map (·.1)) ((clssOf cX (looseW cX fW)).map (·.name))&&(dM a b).heap.accountedOkI A1&&(dM a b).heap.isNs Qx&&(dM a b).heap.isNs RT&&tablesOk cX (dM a b).heap&&lf (dM a b)&&(if L then(dM a b).gens.size==0 else !leftWithCleanup (dM a b).gens))=L:=by rw[PySem.W.Fast.te10880121769531294198,Vg,Vh,PySem.W.Fast.te7409074990110511671,PySem.W.Fast.te13664370479719496447,PySem.W.Fast.te14722251495701143533,PySem.W.Fast.te10994771534591457954];kernel_rfl
theorem Jn(a:PE)(b:PG):tabsOk cX (dM a b)=L:=by rw[PySem.W.Fast.te479339242167458305];kernel_rfl
theorem Jm(a:PE)(b:PG):pinSeenD cX (drecsOf cX) (dM a b)=pinGoodD (drecsOf cX):=by rw[PySem.W.Fast.te16090120013241838585,PySem.W.Fast.te3247288618530077131];kernel_rfl
theorem Jl(a:PE)(b:PG):plainSeenE cX (looseW cX fW) (dM a b)=plainGoodE cX (looseW cX fW):=by rw[PySem.W.Fast.te2386780881361962483,Vg];kernel_rfl
theorem Jk(a:PE)(b:PG):plainSeenD cX fW (dM a b)=plainGoodD cX fW:=by rw[PySem.W.Fast.te11698064438423848299];kernel_rfl
theorem Jj(a:PE)(b:PG):wideSeen cX (dM a b)=wideGood cX:=by rw[PySem.W.Fast.te7317090234206586261];kernel_rfl
theorem Ji(a:PE)(b:PG):clsSeenW cX fW (dM a b)=clsGoodW cX fW:=by rw[PySem.W.Fast.te7369524293546568484];kernel_rfl
theorem Jg(a:PE)(b:PG):nD.map (dM a b).heap.get?=(hZ a.params).map λc=>O c.2:=by kernel_rfl
theorem Jc(a:PE)(b:PG):((staticsOk (Ta ds.main.body) (Q0 a.params) (nN a.params)&&namesBound ds (nN a.params)&&gensDone (dM a b)&&laidKept (Q0 a.params) (nN a.params)),openSeen cX fW (Ta ds.main.body) lf L (dM a b),gV.obs (dM a b))=(L,openGood cX fW,gV.val a):=by unfold openSeen openGood;exact Rd (Jh a b) (Rd (Rd (Jq a b) (Rd (Jp a b) (Rd (Jo a b) (Rd (Jn a b) (Rd (Jm a b) (Rd (Jl a b) (Rd (Jk a b) (Rd (Jj a b) (Ji a b))))))))) (Jg a b))
theorem uw:LeftO ds cX fW lf gV.obs gV.val 18632:=LeftO.of_pieces (p:=ds) (q:=cX) (loose:=fW) (Xt:=lf) (Yf:=gV.obs) (Ya:=gV.val) (N:=18632) (g0:=L) (H₀:=Q0) (H₁:=nN) (gs₀:=⟨[]⟩) (gs₁:=⟨[]⟩) (d₀:=SL) (d₁:={}) (k₀:=SK) (k₁:=1830) (m₀:=11) (ann:=gl) (M:=v9) (boot_open (by kernel_rfl) rfl λ_=>by kernel_rfl) FU Gh (by kernel_rfl) λa=>funext λb=>Jc a b
end
section
set_option maxRecDepth 100000
set_option maxHeartbeats 0
set_option tactic.hygienic true
set_option Elab.async false
theorem Fa:namesResolve PySem.Challenge.rw_rg0169_01.row.prog=L:=by rewrite[Fast.te8377067652309620493];kernel_rfl
theorem E':noRoadLSs {strict:=!(Ta PySem.Challenge.rw_rg0169_01.row.prog.main.body).all cThrough.contains,foot:=U,bare:=(["vars","dir","locals"]:List Pr).filter (readsOut PySem.Challenge.rw_rg0169_01.row.prog PySem.Challenge.rw_rg0169_01.row.prog.main.body)} PySem.Challenge.rw_rg0169_01.row.prog.main.body=L:=by rewrite[Wa,QQ,Fast.te5923862056798008813,Rz,QM,Fast.te17691160309236699985,R.filterR_eq,Fast.te13343964577679436407];kernel_rfl
theorem E_:(namesMeet PySem.Challenge.rw_rg0169_01.row.prog PySem.Challenge.rw_rg0169_01.row.prog.main.body λ_ a=>attrL a)=L:=by rewrite[TD,Fast.te17868728402115742887];kernel_rfl
theorem E9:(namesMeet PySem.Challenge.rw_rg0169_01.prog PySem.Challenge.rw_rg0169_01.above λ_ a=>!PySem.Challenge.rw_rg0169_01.own.contains a)=L:=by rewrite[TD,Rz,QM,TE];kernel_rfl
theorem F9:PySem.Challenge.rw_rg0169_01.wellSaid=L:=by
 unfold OpenLaw.wellSaid OpenRow.wellSaid OpenRow.partSaid looksOpen;repeat' with_reducible refine look_both ?_ ?_
 .rewrite[Fast.te11788848310118352699];kernel_rfl
 .rewrite[Fast.te9807087744658564304,Fast.te12862048085361865435];kernel_rfl
 .exact Fa
 .rewrite[QQ,TC,Rz,QM,Fast.te14412699480532031325];kernel_rfl
 .exact E'
 .exact E_
 .kernel_rfl
 .kernel_rfl
 .rewrite[QQ,Fast.te9706382859710513879];kernel_rfl
 .rewrite[QQ,Rz,QM,TC,S.strDecS_eq,Fast.te2357444279172408678];kernel_rfl
 .rewrite[R.mapR_eq,QM];kernel_rfl
 .rewrite[QQ,Fast.te4857012375875476094,UN,Rz,QM,TC];kernel_rfl
 .rewrite[Fast.te13582783067957832011];kernel_rfl
 .rewrite[UM];kernel_rfl
 .rewrite[UM];kernel_rfl
 .rewrite[QQ,UM];kernel_rfl
 .rewrite[QQ,Fast.te4579403493507170074,R.anyR_eq,Fast.te4274047373036748609];kernel_rfl
 .rewrite[QQ];kernel_rfl
 .kernel_rfl
 .rewrite[Rz,QM,TC];kernel_rfl
 .rewrite[Rz,QM,Fast.te12749700546528644094];kernel_rfl
 .kernel_rfl
 .rewrite[QQ,Fast.te10501279942588096481];kernel_rfl
 .rewrite[Fast.te8179353310426384613];kernel_rfl
 .kernel_rfl
 .kernel_rfl
 .rewrite[Wa,Wb,V'];kernel_rfl
 .rewrite[Fast.te9558739934217749035];kernel_rfl
 .rewrite[Fast.te16286561074155671207];kernel_rfl
 .rewrite[QQ,QM];kernel_rfl
 .rewrite[QQ,Wb,UN,QM,UL];kernel_rfl
 .rewrite[QQ,Wc,Wd,UL];kernel_rfl
 .rewrite[QQ,Wc,Wd,UL,Fast.te482687673346738481,QM];kernel_rfl
 .rewrite[TD,Rz,QM,V'];kernel_rfl
 .rewrite[Rz,QM,TE];kernel_rfl
 .rewrite[Fast.te7723801398212525404,QM,TE];kernel_rfl
 .rewrite[QQ,TE,UN];kernel_rfl
 .exact E9
 .rewrite[TD,QM];kernel_rfl
end
end Head
section
set_option maxRecDepth 100000
set_option maxHeartbeats 0
set_option tactic.hygienic true
open Head (ds cX fW qm nD hZ gV lf uw)
theorem k8(a:Px):qE (hZ a) Qx=L:=by kernel_rfl
theorem k7(a:Px):u' (hZ a)=L:=by kernel_rfl
theorem Nm(a:Px):vq (hZ a)=L:=by kernel_rfl
theorem Nl(a:Px):ui (hZ a)=L:=by kernel_rfl
theorem Nk:qg=L:=by kernel_rfl
theorem Nj(a:Px):uc (hZ a)=L:=by kernel_rfl
theorem Ni(a:Px):ip (QO (hZ a) Qx "law") (du 81)=L:=by kernel_rfl
end
section
set_option maxRecDepth 100000
set_option maxHeartbeats 0
set_option tactic.hygienic true
open Head (ds cX fW qm nD hZ gV lf uw)
theorem xL{d:Px}{c:Pv}:∀{a:List Int}{vs:List Pl},WellAll d c vs (ofPys (a.map Vk))->aZ c (a.map .a) vs
|[],vs,b=>by cases b;exact trivial
|g::a,vs,b=>by cases b with|cons e f=>refine⟨?_,xL f⟩;cases e;exact⟨_,rfl⟩
theorem Iu{c:Qa}{d:Pv}(h:c.In d){e:Pw}{b:Pr}{f:Pl}{g:Pr->Option Pl}(a:QO c e b=O (O f))(i:d.Ns e g):g b=O f:=by
 obtain⟨o,p,q,j,k,_,l⟩:=i;unfold QO at a;split at a
 .rename_i r s t u v m;have:=h _ _ m;rw[j]at this;cases this;cases k;rw[<-l b];split at a;·rename_i w n;cases a;unfold Qz findBy;rw[<-Array.find?_toList,n];rfl
  .split at a<;>cases a
 .cases a
theorem Gj:Mine.iw PySem.callerA 60:=⟨rfl,by decide,by decide⟩
abbrev Ov:Prop:=∀(a:List Int)(b:Nat),a.length<=63->a2 an 60 81 [.b b] (iW b a) λc d=>c=.g L/\d b=O (.W5 (a.map .a))
theorem Lt(v:Ov):PySem.Challenge.rw_rg0169_01.Holds:=by
 refine holds_law Head.F9 λ_=>?_;refine holds_open (q:=cX) (loose:=fW) (Xt:=lf) (XP:=XL cX qm) (Yf:=gV.obs) (Ya:=gV.val) (YP:=gV.says) (N:=18632) uw gV.of gV.keeps (λs a=>xl_of s (Qv.mp a).1) XL.keeps (by rfl) (by rfl) (by rfl) (λs a=>recFacts_of (Qv.mp a).2) (by rfl) (by first|assumption|decide+kernel) (by decide+kernel) ⟨rfl,rfl,rfl,rfl,rfl,by decide+kernel⟩ ?e ?hc;case e=>w_witness2
 intro f k c g w l m x ap aq ar as au av y z A B C D aw ax ay E F G H I;have n:=kIn_of m;refine Ground.open l ?_;intro b K M P Q;wrow_args E F G H I;rename_i d R S T V W az aA o vs aB X Y Z aa ab ac aG ad;clear R S T V W ac K M P Q A B z y m l ad Y aa ab X;have ae:g "law"=O (.ref (du 81)):=Iu n (nI (Ni f.params)) b.g;have af:x=du 81:=by have:=C;rw[show g _=g "law" from rfl,ae]at this;cases this;rfl
 have ag:=b.seer (by kernel_rfl);have e:∃h,P4 c.heap o (List.toArray h) 0/\aZ c.heap (d.map .a) h:=by cases Z with|list p ah=>exact⟨_,p,xL ah⟩
 obtain⟨h,r,t⟩:=e;have ai:d.length<=63:=by omega
 have aj:=t.Xd;obtain⟨aH,⟨aI,aJ,aK,i,al,_⟩,_⟩:=ag.mods;subst af;have am:=Mine.FF (C:=PySem.Challenge.rw_rg0169_01.row.prog) (E:=f) (A:=Head.hZ f.params) (l:=60) (V:=callerA) (g:=λa u=>GoodWG PySem.Challenge.rw_rg0169_01.row.claim (classAt k.heap) (ExcName.means k.heap) [ofPy (PyData.list (SY Vk d))] c (Except.error a) u) n (Nj _) r (by rw[Qd,RZ,<-aj,Pt];omega) (by simpa using t) b.nolimit ⟨w,b.b,b.builtins⟩ (by rw[i];exact RV _) (by rintro rfl;rw[r]at i;cases i;cases al) (k8 _) (k7 _) (Nm _) (Nl _) Nk Gj (v d o ai);refine Qo am (λaL u j=>?_) λ_ _ a=>a;obtain⟨rfl,aM,aP,rfl,an⟩:=j;refine⟨.inl ⟨.bool L,.bool L,[],rfl,?_,.bool L,?_,λ_=>⟨VA,λp j=>by simp at j⟩⟩,OldK.of_keep an,rfl,?_⟩;·intro aQ;rfl
 .kernel_rfl
 .show AllBare c.gens;rw[D];exactλaR ao=>by simp at ao
end
namespace Spec
inductive EF(F P R S aa:Prop):Prop|mk:F->P->R->S->aa->EF F P R S aa
inductive EC{F:Type}(P:F->Prop):Prop|mk (R:F):P R->EC P
section
set_option tactic.hygienic true
theorem bI{a:Type}{b:Option a}{c:a}{d:a->Prop}(e:b=O c):aP b d=d c:=by erw[e];rfl
abbrev a6:=Nat->List aa->ab->(aa->ab->Prop)->Prop
variable{h:a6}
theorem gE(b:Bool)(d e:Prop):cd (.g b) d e=((b=L->d)/\(b=J->e)):=by
 cases b;·exact propext ⟨λa=>⟨λc=>QY c,λf=>a⟩,λa=>a.2 rfl⟩
 .exact propext ⟨λa=>⟨λf=>a,λc=>QY c⟩,λa=>a.1 rfl⟩
theorem p8(a:Prop)[Decidable a](b c:Prop):cd (.g (Ps a)) b c=((a->b)/\(¬a->c)):=by erw[gE];simp
theorem t_(a b:Prop):cd (.g L) a b=a:=rfl
theorem HK(b a:Prop):cd (.g J) b a=a:=rfl
theorem aY{a:Type}{b:Option a}{c:a}{d:a->Prop}(e:b=O c)(f:d c):aP b d:=(bI e).mpr f
theorem HJ{a:Type}(b:a)(c:a->Prop):aP (O b) c=c b:=rfl
noncomputable def uO(a:dT)(b:aa)(Q:aa->ab->Prop)(c:aa)(d:ab):Prop:=dK a b c d Q
noncomputable def Ct(B:as)(a:dT)(b:aL)(c:al)(Q:aa->ab->Prop)(d:aa)(e:ab):Prop:=au B b c e (uO a d Q)
noncomputable def Ca(Q:aa->ab->Prop)(b:aa)(a:ab):Prop:=cd b (Q (.g J) a) (Q (.g L) a)
noncomputable def Cx(B:as)(b:aL)(c:al)(Q:aa->ab->Prop)(d:aa)(a:ab):Prop:=cd d (au B b c a Q) (Q (.g J) a)
noncomputable def B'(B:as)(b:aL)(c:al)(Q:aa->ab->Prop)(d:aa)(a:ab):Prop:=cd d (Q (.g L) a) (au B b c a Q)
noncomputable def Ce(B:as)(c d:aL)(a:al)(Q:aa->ab->Prop)(e:aa)(b:ab):Prop:=cd e (au B c a b Q) (au B d a b Q)
noncomputable def nH(a:el)(b:aa)(Q:aa->ab->Prop)(c:aa)(d:ab):Prop:=b3 a b c d Q
noncomputable def Cq(B:as)(a:el)(b:aL)(c:al)(Q:aa->ab->Prop)(d:aa)(e:ab):Prop:=au B b c e (nH a d Q)
noncomputable def uL(B:as)(b:el)(c:aL)(d:al)(e:aa)(Q:aa->ab->Prop)(f:aa)(a:ab):Prop:=cd f (au B c d a (nH b e Q)) (Q (.g J) a)
noncomputable def uM(B:as)(b c:el)(d:aL)(e:al)(f:aa)(Q:aa->ab->Prop)(a:aa)(g:ab):Prop:=b3 b f a g (uL B c d e a Q)
noncomputable def Cs(B:as)(b c:el)(d e:aL)(a:al)(Q:aa->ab->Prop)(f:aa)(g:ab):Prop:=au B d a g (uM B b c e a f Q)
def Ch(Q:aa->ab->Prop)(a:aa)(b:ab):Prop:=Q (.g (b1 a)) b
def Cg(Q:aa->ab->Prop)(a:aa)(b:ab):Prop:=Q (.g (!b1 a)) b
noncomputable def B3(Q:aa->ab->Prop)(vs:List aa)(a:ab):Prop:=vs.length<=100/\Q (.h vs) a
def uE(Q:aa->ab->Prop)(vs:List aa)(b:ab):Prop:=∀a,b a=U->Q (.b a) (am b a (.WE vs))
def Cd(Q:aa->ab->Prop)(vs:List aa)(b:ab):Prop:=vs.length<=100/\∀a,b a=U->Q (.b a) (am b a (.WE vs))
def md(B:as)(a:aL)(b:al)(c:Nat)(d:aa)(e:ab)(Q:aa->ab->Prop):Prop:=au B a (bD b c d) e Q
noncomputable def uK(B:as)(b:Nat)(d e:aL)(c:al)(f:ab)(Q:aa->ab->Prop)(a:dh×List aa):Prop:=a.2.length<=aJ/\dS (md B d c b) (md B e c b) a.1 a.2 f (uE Q)
def Cp(B:as)(b:Nat)(c d:aL)(e:al)(Q:aa->ab->Prop)(f:aa)(a:ab):Prop:=aP (f_ f a) (uK B b c d e a Q)
noncomputable def Cr(B:as)(f:Nat)(Q:aa->ab->Prop)(vs:List aa)(a:ab):Prop:=B.k f vs a Q
noncomputable def Cu(a:fJ)(Q:aa->ab->Prop)(vs:List aa)(b:ab):Prop:=cz a vs b Q
noncomputable def uN(Q:aa->ab->Prop)(a:ab)(b:Bool):Prop:=Q (.g b) a
def Cf(b:ei)(Q:aa->ab->Prop)(c:aa)(a:ab):Prop:=aP (hI b c a) (uN Q a)
noncomputable def Cw(B:as)(a:Nat)(Q:aa->ab->Prop)(b:aa)(c:ab):Prop:=dB B b a c Q
noncomputable def uF(B:as)(a:hc)(Q:aa->ab->Prop)(vs:List aa)(b:ab):Prop:=dA B a vs b Q
noncomputable def uG(B:as)(a:di)(b:al)(c:ab)(Q:aa->ab->Prop)(d:hc):Prop:=dF B a b c (uF B d Q)
def Cc(B:as)(b:Nat)(c:di)(d:al)(Q:aa->ab->Prop)(e:aa)(a:ab):Prop:=aP (hD B e b a) (uG B c d a Q)
noncomputable def uH(a:aa)(Q:aa->ab->Prop)(b:aa)(c:ab):Prop:=eN a b c Q
noncomputable def Ck(B:as)(i:aL)(a:al)(Q:aa->ab->Prop)(b:aa)(c:ab):Prop:=au B i a c (uH b Q)
noncomputable def uz(a:aa)(b:Option aa)(Q:aa->ab->Prop)(c:Option aa)(d:ab):Prop:=gz a b c d Q
noncomputable def uA(B:as)(a:gr)(b:al)(c:aa)(Q:aa->ab->Prop)(d:Option aa)(e:ab):Prop:=f9 B a b e (uz c d Q)
noncomputable def B5(B:as)(b c:gr)(a:al)(Q:aa->ab->Prop)(d:aa)(e:ab):Prop:=f9 B b a e (uA B c a d Q)
noncomputable def B8(Q:aa->ab->Prop)(a:aa)(b:ab):Prop:=kK a b Q
noncomputable def uJ(a:aa)(Q:List aa->ab->Prop)(vs:List aa)(b:ab):Prop:=Q (a::vs) b
noncomputable def Co(B:as)(a:di)(b:al)(Q:List aa->ab->Prop)(c:aa)(d:ab):Prop:=dF B a b d (uJ c Q)
noncomputable def B4(Q:Option aa->ab->Prop)(a:aa)(b:ab):Prop:=Q (O a) b
def qy(k:Nat)(a:al)(Q:bb->al->ab->Prop)(b:aa)(c:ab):Prop:=Q .WL (bD a k b) c
noncomputable def nG(Q:bb->al->ab->Prop)(a:ab)(b:al):Prop:=Q .WL b a
def B2(a:List Nat)(b:al)(Q:bb->al->ab->Prop)(c:aa)(d:ab):Prop:=aP (cA (.Y5 a) c b) (nG Q d)
def B_(a:List Nat)(b:al)(Q:bb->al->ab->Prop)(vs:List aa)(c:ab):Prop:=aP (cA (.Y5 a) (.h vs) b) (nG Q c)
noncomputable def kW(a:al)(Q:bb->al->ab->Prop)(b:ab):Prop:=Q .WL a b
noncomputable def uD(B:as)(a:Nat)(b:aa)(c:al)(Q:bb->al->ab->Prop)(d:aa)(e:ab):Prop:=fS B d a b e (kW c Q)
noncomputable def B7(B:as)(b:aL)(c:Nat)(a:al)(Q:bb->al->ab->Prop)(d:aa)(e:ab):Prop:=au B b a e (uD B c d a Q)
noncomputable def uB(a b:aa)(c:al)(Q:bb->al->ab->Prop)(d:aa)(e:ab):Prop:=hv a d b e (kW c Q)
noncomputable def uC(B:as)(i:aL)(b:aa)(a:al)(Q:bb->al->ab->Prop)(c:aa)(d:ab):Prop:=au B i a d (uB c b a Q)
noncomputable def B6(B:as)(b i:aL)(a:al)(Q:bb->al->ab->Prop)(c:aa)(d:ab):Prop:=au B b a d (uC B i c a Q)
noncomputable def uP(k:Nat)(a:dT)(b:aa)(c:al)(Q:bb->al->ab->Prop)(d:aa)(e:ab):Prop:=hK a b d e (qy k c Q)
noncomputable def Cv(B:as)(k:Nat)(b:dT)(c:aL)(a:al)(d:ab)(Q:bb->al->ab->Prop)(e:aa):Prop:=au B c a d (uP k b e a Q)
noncomputable def uQ(B:as)(a:aa)(b:Nat)(c:al)(Q:bb->al->ab->Prop)(d:aa)(e:ab):Prop:=fS B a b d e (kW c Q)
noncomputable def uR(B:as)(a:aa)(b:Nat)(c:dT)(d:aa)(e:al)(Q:bb->al->ab->Prop)(f:aa)(g:ab):Prop:=hK c d f g (uQ B a b e Q)
noncomputable def uS(B:as)(b:aa)(c:Nat)(d:dT)(e:aL)(a:al)(Q:bb->al->ab->Prop)(f:aa)(g:ab):Prop:=au B e a g (uR B b c d f a Q)
noncomputable def Cy(B:as)(a:Nat)(c:dT)(d:aL)(e:al)(Q:bb->al->ab->Prop)(b:aa)(f:ab):Prop:=dB B b a f (uS B b a c d e Q)
noncomputable def Cn(a:al)(Q:bb->al->ab->Prop)(c:aa)(b:ab):Prop:=Q .WL a b
noncomputable def Cj(B:as)(c f:aI)(a:al)(Q:bb->al->ab->Prop)(d:aa)(b:ab):Prop:=cd d (bo B c a b Q) (bo B f a b Q)
noncomputable def B9(a:al)(Q:bb->al->ab->Prop)(b:Option aa)(c:ab):Prop:=Q (.p (b.getD .WK)) a c
noncomputable def dg(B:as)(a:aI)(b:al)(c:ab)(Q:bb->al->ab->Prop):Prop:=bo B a b c Q
noncomputable def pE(B:as)(a:aL)(b:al)(c:ab)(Q:aa->ab->Prop):Prop:=au B a b c Q
noncomputable def uI(B:as)(b:ej)(c:aI)(d:al)(e:ab)(Q:bb->al->ab->Prop)(a:dh×List aa):Prop:=b_ (dg B c) b a.1 a.2 d e Q
def Cm(B:as)(b:ej)(c:aI)(d:al)(Q:bb->al->ab->Prop)(e:aa)(a:ab):Prop:=aP (f_ e a) (uI B b c d a Q)
noncomputable def JT(b c:ab->Prop)(d:aa)(a:ab):Prop:=cd d (b a) (c a)
noncomputable def hH(Q:aa->ab->Prop)(a:ab)(b:aa):Prop:=Q b a
theorem KE(a:dT)(b:aa)(Q:aa->ab->Prop)(c:aa)(d:ab):uO a b Q c d=(dK a b c d Q):=rfl
theorem KD(B:as)(a:dT)(b:aL)(c:al)(Q:aa->ab->Prop)(d:aa)(e:ab):Ct B a b c Q d e=(au B b c e (uO a d Q)):=rfl
theorem Ka(Q:aa->ab->Prop)(b:aa)(a:ab):Ca Q b a=cd b (Q (.g J) a) (Q (.g L) a):=rfl
theorem KL(B:as)(b:aL)(c:al)(Q:aa->ab->Prop)(d:aa)(a:ab):Cx B b c Q d a=(cd d (au B b c a Q) (Q (.g J) a)):=rfl
theorem J_(B:as)(b:aL)(c:al)(Q:aa->ab->Prop)(d:aa)(a:ab):B' B b c Q d a=(cd d (Q (.g L) a) (au B b c a Q)):=rfl
theorem Kh(B:as)(c d:aL)(a:al)(Q:aa->ab->Prop)(e:aa)(b:ab):Ce B c d a Q e b=(cd e (au B c a b Q) (au B d a b Q)):=rfl
theorem Kx(a:el)(b:aa)(Q:aa->ab->Prop)(c:aa)(d:ab):nH a b Q c d=(b3 a b c d Q):=rfl
theorem Kw(B:as)(a:el)(b:aL)(c:al)(Q:aa->ab->Prop)(d:aa)(e:ab):Cq B a b c Q d e=(au B b c e (nH a d Q)):=rfl
theorem Kz(B:as)(b:el)(c:aL)(d:al)(e:aa)(Q:aa->ab->Prop)(f:aa)(a:ab):uL B b c d e Q f a=(cd f (au B c d a (nH b e Q)) (Q (.g J) a)):=rfl
theorem KA(B:as)(b c:el)(d:aL)(e:al)(f:aa)(Q:aa->ab->Prop)(a:aa)(g:ab):uM B b c d e f Q a g=(b3 b f a g (uL B c d e a Q)):=rfl
theorem KB(B:as)(b c:el)(d e:aL)(a:al)(Q:aa->ab->Prop)(f:aa)(g:ab):Cs B b c d e a Q f g=(au B d a g (uM B b c e a f Q)):=rfl
theorem Kk(Q:aa->ab->Prop)(a:aa)(b:ab):Ch Q a b=(Q (.g (b1 a)) b):=rfl
theorem Kj(Q:aa->ab->Prop)(a:aa)(b:ab):Cg Q a b=(Q (.g (!b1 a)) b):=rfl
theorem JW(Q:aa->ab->Prop)(vs:List aa)(a:ab):B3 Q vs a=(vs.length<=100/\Q (.h vs) a):=rfl
theorem Kb(Q:aa->ab->Prop)(vs:List aa)(a:ab):uE Q vs a=(∀b,a b=U->Q (.b b) (am a b (.WE vs))):=rfl
theorem Kg(Q:aa->ab->Prop)(vs:List aa)(a:ab):Cd Q vs a=(vs.length<=100/\∀b,a b=U->Q (.b b) (am a b (.WE vs))):=rfl
theorem Nh(B:as)(a:aL)(b:al)(c:Nat)(d:aa)(e:ab)(Q:aa->ab->Prop):md B a b c d e Q=(au B a (bD b c d) e Q):=rfl
theorem Kv(B:as)(b:Nat)(d e:aL)(c:al)(f:ab)(Q:aa->ab->Prop)(a:dh×List aa):uK B b d e c f Q a=(a.2.length<=aJ/\dS (md B d c b) (md B e c b) a.1 a.2 f (uE Q)):=rfl
theorem Ku(B:as)(b:Nat)(c d:aL)(e:al)(Q:aa->ab->Prop)(f:aa)(a:ab):Cp B b c d e Q f a=(aP (f_ f a) (uK B b c d e a Q)):=rfl
theorem Ky(B:as)(f:Nat)(Q:aa->ab->Prop)(vs:List aa)(a:ab):Cr B f Q vs a=(B.k f vs a Q):=rfl
theorem KF(a:fJ)(Q:aa->ab->Prop)(vs:List aa)(b:ab):Cu a Q vs b=(cz a vs b Q):=rfl
theorem KC(Q:aa->ab->Prop)(a:ab)(b:Bool):uN Q a b=(Q (.g b) a):=rfl
theorem Ki(b:ei)(Q:aa->ab->Prop)(c:aa)(a:ab):Cf b Q c a=(aP (hI b c a) (uN Q a)):=rfl
theorem KI(B:as)(a:Nat)(Q:aa->ab->Prop)(b:aa)(c:ab):Cw B a Q b c=(dB B b a c Q):=rfl
theorem Ke(B:as)(a:hc)(Q:aa->ab->Prop)(vs:List aa)(b:ab):uF B a Q vs b=(dA B a vs b Q):=rfl
theorem Kf(B:as)(a:di)(b:al)(c:ab)(Q:aa->ab->Prop)(d:hc):uG B a b c Q d=(dF B a b c (uF B d Q)):=rfl
theorem Kd(B:as)(b:Nat)(c:di)(d:al)(Q:aa->ab->Prop)(e:aa)(a:ab):Cc B b c d Q e a=(aP (hD B e b a) (uG B c d a Q)):=rfl
theorem Ko(a:aa)(Q:aa->ab->Prop)(b:aa)(c:ab):uH a Q b c=(eN a b c Q):=rfl
theorem Kn(B:as)(i:aL)(a:al)(Q:aa->ab->Prop)(b:aa)(c:ab):Ck B i a Q b c=(au B i a c (uH b Q)):=rfl
theorem J0(a:aa)(b:Option aa)(Q:aa->ab->Prop)(c:Option aa)(d:ab):uz a b Q c d=(gz a b c d Q):=rfl
theorem J1(B:as)(a:gr)(b:al)(c:aa)(Q:aa->ab->Prop)(d:Option aa)(e:ab):uA B a b c Q d e=(f9 B a b e (uz c d Q)):=rfl
theorem JZ(B:as)(b c:gr)(a:al)(Q:aa->ab->Prop)(d:aa)(e:ab):B5 B b c a Q d e=(f9 B b a e (uA B c a d Q)):=rfl
theorem J7(Q:aa->ab->Prop)(a:aa)(b:ab):B8 Q a b=(kK a b Q):=rfl
theorem Kt(a:aa)(Q:List aa->ab->Prop)(vs:List aa)(b:ab):uJ a Q vs b=(Q (a::vs) b):=rfl
theorem Ks(B:as)(a:di)(b:al)(Q:List aa->ab->Prop)(c:aa)(d:ab):Co B a b Q c d=(dF B a b d (uJ c Q)):=rfl
theorem JY(Q:Option aa->ab->Prop)(a:aa)(b:ab):B4 Q a b=(Q (O a) b):=rfl
theorem KJ(k:Nat)(a:al)(Q:bb->al->ab->Prop)(b:aa)(c:ab):qy k a Q b c=(Q .WL (bD a k b) c):=rfl
theorem J'(Q:bb->al->ab->Prop)(a:ab)(b:al):nG Q a b=(Q .WL b a):=rfl
theorem JV(a:List Nat)(b:al)(Q:bb->al->ab->Prop)(c:aa)(d:ab):B2 a b Q c d=(aP (cA (.Y5 a) c b) (nG Q d)):=rfl
theorem J9(a:List Nat)(b:al)(Q:bb->al->ab->Prop)(vs:List aa)(c:ab):B_ a b Q vs c=(aP (cA (.Y5 a) (.h vs) b) (nG Q c)):=rfl
theorem JX(a:al)(Q:bb->al->ab->Prop)(b:ab):kW a Q b=(Q .WL a b):=rfl
theorem J6(B:as)(a:Nat)(b:aa)(c:al)(Q:bb->al->ab->Prop)(d:aa)(e:ab):uD B a b c Q d e=(fS B d a b e (kW c Q)):=rfl
theorem J5(B:as)(b:aL)(c:Nat)(a:al)(Q:bb->al->ab->Prop)(d:aa)(e:ab):B7 B b c a Q d e=(au B b a e (uD B c d a Q)):=rfl
theorem J3(a b:aa)(c:al)(Q:bb->al->ab->Prop)(d:aa)(e:ab):uB a b c Q d e=(hv a d b e (kW c Q)):=rfl
theorem J4(B:as)(i:aL)(b:aa)(a:al)(Q:bb->al->ab->Prop)(c:aa)(d:ab):uC B i b a Q c d=(au B i a d (uB c b a Q)):=rfl
theorem J2(B:as)(b i:aL)(a:al)(Q:bb->al->ab->Prop)(c:aa)(d:ab):B6 B b i a Q c d=(au B b a d (uC B i c a Q)):=rfl
theorem KH(k:Nat)(a:dT)(b:aa)(c:al)(Q:bb->al->ab->Prop)(d:aa)(e:ab):uP k a b c Q d e=(hK a b d e (qy k c Q)):=rfl
theorem KG(B:as)(k:Nat)(b:dT)(c:aL)(a:al)(d:ab)(Q:bb->al->ab->Prop)(e:aa):Cv B k b c a d Q e=(au B c a d (uP k b e a Q)):=rfl
theorem KM(B:as)(a:aa)(b:Nat)(c:al)(Q:bb->al->ab->Prop)(d:aa)(e:ab):uQ B a b c Q d e=(fS B a b d e (kW c Q)):=rfl
theorem KN(B:as)(a:aa)(b:Nat)(c:dT)(d:aa)(e:al)(Q:bb->al->ab->Prop)(f:aa)(g:ab):uR B a b c d e Q f g=(hK c d f g (uQ B a b e Q)):=rfl
theorem KO(B:as)(b:aa)(c:Nat)(d:dT)(e:aL)(a:al)(Q:bb->al->ab->Prop)(f:aa)(g:ab):uS B b c d e a Q f g=(au B e a g (uR B b c d f a Q)):=rfl
theorem KP(B:as)(a:Nat)(c:dT)(d:aL)(e:al)(Q:bb->al->ab->Prop)(b:aa)(f:ab):Cy B a c d e Q b f=(dB B b a f (uS B b a c d e Q)):=rfl
theorem Kr(a:al)(Q:bb->al->ab->Prop)(c:aa)(b:ab):Cn a Q c b=(Q .WL a b):=rfl
theorem Km(B:as)(c f:aI)(a:al)(Q:bb->al->ab->Prop)(d:aa)(b:ab):Cj B c f a Q d b=(cd d (bo B c a b Q) (bo B f a b Q)):=rfl
theorem J8(a:al)(Q:bb->al->ab->Prop)(b:Option aa)(c:ab):B9 a Q b c=(Q (.p (b.getD .WK)) a c):=rfl
theorem Nr(B:as)(a:aI)(b:al)(c:ab)(Q:bb->al->ab->Prop):dg B a b c Q=(bo B a b c Q):=rfl
theorem Fp(B:as)(a:aL)(b:al)(c:ab)(Q:aa->ab->Prop):pE B a b c Q=(au B a b c Q):=rfl
theorem Kq(B:as)(b:ej)(c:aI)(d:al)(e:ab)(Q:bb->al->ab->Prop)(a:dh×List aa):uI B b c d e Q a=(b_ (dg B c) b a.1 a.2 d e Q):=rfl
theorem Kp(B:as)(b:ej)(c:aI)(d:al)(Q:bb->al->ab->Prop)(e:aa)(a:ab):Cm B b c d Q e a=(aP (f_ e a) (uI B b c d a Q)):=rfl
theorem JS(b c:ab->Prop)(d:aa)(a:ab):JT b c d a=(cd d (b a) (c a)):=rfl
set_option smartUnfolding false in
theorem OE(B:as)(a c b Q):au B (.f a) c b Q=Q a b:=rfl
theorem JU(Q:aa->ab->Prop)(a:ab)(b:aa):hH Q a b=Q b a:=rfl
set_option smartUnfolding false
theorem ON(B:as)(k a b Q):au B (.d k) a b Q=aP (eB a k) (hH Q b):=rfl
theorem OZ(B:as)(b c d a e Q):au B (.m b c d) a e Q=au B c a e (Ct B b d a Q):=rfl
theorem OJ(B:as)(a b c Q):au B (.M a) b c Q=au B a b c (Ca Q):=rfl
theorem O2(B:as)(b c a d Q):au B (.V b c) a d Q=au B b a d (Cx B c a Q):=rfl
theorem OI(B:as)(b c a d Q):au B (.YF b c) a d Q=au B b a d (B' B c a Q):=rfl
theorem OO(B:as)(b c d a e Q):au B (.l b c d) a e Q=au B b a e (Ce B c d a Q):=rfl
theorem OX(B:as)(b c d a e Q):au B (.j b c d) a e Q=au B c a e (Cq B b d a Q):=rfl
theorem OW(B:as)(b c d e f a g Q):au B (.Y7 b c d e f) a g Q=au B d a g (Cs B b c e f a Q):=rfl
theorem OR(B:as)(a b c Q):au B (.Zn a) b c Q=au B a b c (Ch Q):=rfl
theorem OQ(B:as)(a b c Q):au B (.Zy a) b c Q=au B a b c (Cg Q):=rfl
theorem OF(B:as)(a b c Q):au B (.h a) b c Q=dF B a b c (B3 Q):=rfl
theorem OM(B:as)(a b c Q):au B (.x a) b c Q=dF B a b c (Cd Q):=rfl
theorem OT(B:as)(c a Q):au B .ZH c a Q=∀b d,a b=U->Q (.b b) (am a b (.WN d [])):=rfl
theorem OV(B:as)(b c d e a f Q):au B (.W1 b c d e) a f Q=au B c a f (Cp B b d e a Q):=rfl
theorem Ng(B:as)(a b c):md B (.f a) b c=λe d Q=>Q a d:=rfl
theorem OY(B:as)(f a b c Q):au B (.k f a) b c Q=dF B a b c (Cr B f Q):=rfl
theorem O0(B:as)(a b c d Q):au B (.o a b) c d Q=dF B b c d (Cu a Q):=rfl
theorem OP(B:as)(a b c d Q):au B (.YU a b) c d Q=au B a c d (Cf b Q):=rfl
theorem O1(B:as)(a b c d Q):au B (.n a b) c d Q=au B a c d (Cw B b Q):=rfl
theorem OL(B:as)(b c d a e Q):au B (.N b c d) a e Q=au B b a e (Cc B c d a Q):=rfl
theorem OS(B:as)(b i a c Q):au B (.y b i) a c Q=au B b a c (Ck B i a Q):=rfl
theorem OG(B:as)(b c d a e Q):au B (.Yv b c d) a e Q=au B b a e (B5 B c d a Q):=rfl
theorem OH(B:as)(a b c Q):au B (.ZW a) b c Q=au B a b c (B8 Q):=rfl
theorem OK(B:as)(b a Q):dF B .e b a Q=Q [] a:=rfl
theorem OU(B:as)(b c a d Q):dF B (.c b c) a d Q=au B b a d (Co B c a Q):=rfl
theorem Ot(B:as)(b a Q):f9 B .WK b a Q=Q U a:=rfl
theorem Os(B:as)(a b c Q):f9 B (.WI a) b c Q=au B a b c (B4 Q):=rfl
theorem Op(B:as)(k b a c Q):eH B (.s k b) a c Q=au B b a c (qy k a Q):=rfl
theorem Ob(B:as)(b c a d Q):eH B (.ZC b c) a d Q=au B c a d (B2 b a Q):=rfl
theorem Of(B:as)(b c a d Q):eH B (.Y0 b c) a d Q=dF B c a d (B_ b a Q):=rfl
theorem Od(B:as)(b c d a e Q):eH B (.A b c d) a e Q=au B d a e (B7 B b c a Q):=rfl
theorem Oc(B:as)(b i c a d Q):eH B (.Zh b i c) a d Q=au B c a d (B6 B b i a Q):=rfl
theorem Oo(B:as)(k b c a d Q):eH B (.Zc k b c) a d Q=aP (eB a k) (Cv B k b c a d Q):=rfl
theorem On(B:as)(b c d e a f Q):eH B (.Z_ b c d e) a f Q=au B b a f (Cy B c d e a Q):=rfl
theorem Oj(B:as)(b a c Q):eH B (.Y b) a c Q=au B b a c (Cn a Q):=rfl
theorem Oh(B:as)(b c f a d Q):eH B (.l b c f) a d Q=au B b a d (Cj B c f a Q):=rfl
theorem Oe(B:as)(b a c Q):eH B (.p b) a c Q=f9 B b a c (B9 a Q):=rfl
theorem Om(B:as)(a b Q):eH B .YA a b Q=Q .YA a b:=rfl
theorem Ol(B:as)(a b Q):eH B .Yz a b Q=Q .Yz a b:=rfl
theorem L4(c d k b a Q):b_ c d k [] b a Q=(k.WP a/\Q .WL b a):=rfl
set_option smartUnfolding true
theorem L3(a b k f g h c Q):b_ a b k (f::g) h c Q=(k.WP c/\aP (cA b f h) λi=>a i c λj d e=>gD j (b_ a b k g d e Q) (Q .WL d e) (λl=>Q (.p l) d e)):=rfl
theorem xJ(b c f a g Q):iS b c (f+1) a g Q=(b a g λi h=>cd i (c a h λj d e=>gD j (iS b c f d e Q) (Q .WL d e) (λk=>Q (.p k) d e)) (Q .WL a h)):=rfl
theorem hb(B:as)(a b c d Q):eH B (.Za a b) c d Q=∃e,iS (pE B a) (dg B b) e c d Q:=rfl
set_option smartUnfolding false in
theorem Oi(B:as)(b c d a e Q):eH B (.R b (.X c) d) a e Q=au B c a e (Cm B b d a Q):=rfl
set_option smartUnfolding false in
theorem O'(B:as)(a b Q):bo B .e a b Q=Q .WL a b:=rfl
section
variable(B:as)
noncomputable def lb(c:al->ab->(bb->al->ab->Prop)->Prop)(Q:bb->al->ab->Prop)(d:bb)(a:al)(b:ab):Prop:=match d with|.WL=>c a b Q|.YA=>Q .YA a b|.Yz=>Q .Yz a b|.p e=>Q (.p e) a b
set_option smartUnfolding false in
theorem Pa(s a b c Q):bo B (.c s a) b c Q=eH B s b c (lb (bo B a) Q):=rfl
theorem NP(a Q b c):lb a Q .WL b c=a b c Q:=rfl
theorem NR(c Q a b):lb c Q .YA a b=Q .YA a b:=rfl
theorem NQ(c Q a b):lb c Q .Yz a b=Q .Yz a b:=rfl
theorem NO(d Q a b c):lb d Q (.p a) b c=Q (.p a) b c:=rfl
end
set_option backward.match.sparseCases false in
def mk(e:a6)(d:Nat)(vs:List aa)(b:ab)(Q:aa->ab->Prop):Prop:=∀a c,b a=U->b c=U->a≠c->e (an.Zv d) (.b a::vs) (am b a (.WO d c [])) λf g=>nv f (Q (.b a) g)
noncomputable def Cb(a:a6)(b:Nat)(Q:aa->ab->Prop)(vs:List aa)(c:ab):Prop:=mk a b vs c Q
theorem Kc(a:a6)(b:Nat)(Q:aa->ab->Prop)(vs:List aa)(c:ab):Cb a b Q vs c=mk a b vs c Q:=rfl
set_option smartUnfolding false in
theorem EM(a:a6)(b c d e Q):au (an.WY a) (.WH b c) d e Q=dF (an.WY a) c d e (Cb a b Q):=rfl
theorem N3(a b c Q):dK .WM (.a a) (.a b) c Q=Q (.a (a+b)) c:=rfl
theorem N0(a b c Q):dK .WM (.h a) (.h b) c Q=(a.length+b.length<=aJ/\Q (.h (a++b)) c):=rfl
theorem N1(a b c Q):dK .WM (.E a) (.E b) c Q=(a.length+b.length<=1000/\Q (.E (a++b)) c):=rfl
theorem dL(d:b a=O (.WE xs))(e:b l=O (.WE w))(Q):dK .WM (.b a) (.b l) b Q=(xs.length+w.length<=aJ/\∀c,b c=U->Q (.b c) (am b c (.WE (xs++w)))):=(bI d).trans (bI (b:=b l) (d:=λf=>ea f λw=>xs.length+w.length<=aJ/\∀c,b c=U->Q (.b c) (am b c (.WE (xs++w)))) e)
theorem Fz(a b c Q):dK .WV (.a a) (.a b) c Q=Q (.a (a-b)) c:=rfl
theorem IQ(a b c Q):dK .YO (.a a) (.a b) c Q=((a.natAbs<2^63/\b.natAbs<2^63)/\Q (.a (a*b)) c):=rfl
theorem qi(e:b a=O (.WE xs))(c Q):dK .YO (.b a) (.a c) b Q=((0<=c/\c<=1000000/\xs.length<=1)/\∀d,b d=U->Q (.b d) (am b d (.WE (QE c.toNat xs).flatten))):=bI e
theorem Mk(b a c Q):dK .ZZ (.a b) (.a a) c Q=((0<a/\a<1000000000)/\Q (.a (b/a)) c):=rfl
theorem IR(b a c Q):dK .Zl (.a b) (.a a) c Q=(0<a/\Q (.a (b%a)) c):=rfl
theorem GO(b a c Q):dK .c? (.a b) (.a a) c Q=((0<=a/\a<=100/\b.natAbs<2^63)/\Q (.a (b^a.toNat)) c):=rfl
theorem Lq(a b c Q):hK .WM (.a a) (.a b) c Q=Q (.a (a+b)) c:=rfl
theorem KU(a b c Q):hK .WV (.a a) (.a b) c Q=Q (.a (a-b)) c:=rfl
theorem I7(a b c Q):b3 .YI (.a a) (.a b) c Q=Q (.g (Ps (a<b))) c:=rfl
theorem Jz(a b c Q):b3 .YT (.a a) (.a b) c Q=Q (.g (Ps (a<=b))) c:=rfl
theorem Lw(a b c Q):b3 .Y_ (.a a) (.a b) c Q=Q (.g (Ps (b<a))) c:=rfl
theorem LL(a b c Q):b3 .Zf (.a a) (.a b) c Q=Q (.g (Ps (b<=a))) c:=rfl
set_option smartUnfolding false in
theorem Mx(a b c Q):b3 .t (.a a) (.a b) c Q=Q (.g (Ps (a=b))) c:=rfl
theorem AV(a b c Q):b3 .YW (.a a) (.a b) c Q=Q (.g (Ps (¬a=b))) c:=by
 show Q (.g (!(dx (.a a) (.a b)))) c=_;have:(!(dx (.a a) (.a b)))=Ps (¬a=b):=by show(!(Ps (a=b)))=Ps (¬a=b);by_cases d:a=b<;>simp[d]
 erw[this];rfl
theorem il(a b c Q)(d:Q (.g (Ps (¬a=b))) c):b3 .YW (.a a) (.a b) c Q:=(AV a b c Q).mpr d
theorem nM(d:b a=O (.WN l c))(k Q):b3 .Y9 (.a k) (.b a) b Q=Q (.g (be c k).isSome) b:=bI d
theorem qD(d:b a=O (.WN l c))(k Q)(e:Q (.g (be c k).isSome) b):b3 .Y9 (.a k) (.b a) b Q:=(nM d k Q).mpr e
theorem qb(d:b a=O (.WN l c))(k Q):b3 .ZE (.a k) (.b a) b Q=Q (.g (!(be c k).isSome)) b:=bI d
theorem KZ(a b):hI .a (.a a) b=O L:=rfl
theorem K0(a b):hI .g (.a a) b=O J:=rfl
theorem KW(a b):hI .W2 (.h a) b=O L:=rfl
theorem KY(a b):hI .E (.E a) b=O L:=rfl
theorem KX(a b):hI .Zq (.h a) b=O L:=rfl
theorem qz{xs}(c:b a=O (.WE xs)):hI .Zq (.b a) b=O L:=by show(b a).bind _=_;erw[c];rfl
set_option smartUnfolding false in
theorem Ll(xs k a Q):eN (.h xs) (.a k) a Q=aP (bQ xs k) (hH Q a):=rfl
theorem ec{xs}(c:b a=O (.WE xs))(k Q):eN (.b a) (.a k) b Q=aP (bQ xs k) (hH Q b):=bI c
theorem Lo{xs}(c:b a=O (.W5 xs))(k Q):eN (.b a) (.a k) b Q=aP (bQ xs k) (hH Q b):=bI c
theorem Ln{xs}(c:b a=O (.W5 xs))(k Q)(d:aP (bQ xs k) (hH Q b)):eN (.b a) (.a k) b Q:=(Lo c k Q).mpr d
theorem CL{c}(d:b a=O (.WN l c))(k Q):eN (.b a) (.a k) b Q=aP (be c k) (hH Q b):=bI d
theorem Lp{c}(d:b a=O (.WN l c))(k Q)(e:aP (be c k) (hH Q b)):eN (.b a) (.a k) b Q:=(CL d k Q).mpr e
theorem pJ{xs}(d:b a=O (.WE xs))(k c Q):hv (.b a) (.a k) c b Q=aP (fT xs k c) λe=>Q (am b a (.WE e)):=bI d
theorem lV{c}(e:b a=O (.WN l c))(k d Q):hv (.b a) (.a k) d b Q=(c.length<=aJ/\∀l,Q (am b a (.WN l (c2 c k d)))):=bI e
theorem Ju(xs a Q):cz .WJ [.h xs] a Q=Q (.a xs.length) a:=rfl
theorem ce{xs}(c:b a=O (.WE xs))(Q):cz .WJ [.b a] b Q=Q (.a xs.length) b:=bI c
theorem uv{xs}(c:b a=O (.W5 xs))(Q):cz .WJ [.b a] b Q=Q (.a xs.length) b:=bI c
theorem uu{xs}(c:b a=O (.W5 xs))(Q)(d:Q (.a xs.length) b):cz .WJ [.b a] b Q:=(uv c Q).mpr d
theorem IZ(a b c Q):cz .ZF [.a a,.a b] c Q=Q (.a (max a b)) c:=rfl
theorem IV(a b c Q):cz .ZJ [.a a,.a b] c Q=Q (.a (P1 a b)) c:=rfl
theorem N5(a b Q):cz .Z' [.a a] b Q=Q (.a a.natAbs) b:=rfl
theorem Ld(a b Q):cz .a [.a a] b Q=Q (.a a) b:=rfl
theorem Le(a b Q):cz .a [.g a] b Q=Q (.a (if a then 1 else 0)) b:=rfl
theorem Fh(a b Q):cz .W2 [.h a] b Q=Q (.h a) b:=rfl
theorem jH{xs}(c:b a=O (.WE xs))(Q):cz .W2 [.b a] b Q=Q (.h xs) b:=bI c
theorem Js(xs a Q):cz .WE [.h xs] a Q=∀b,a b=U->Q (.b b) (am a b (.WE xs)):=rfl
theorem BO{xs}(d:b a=O (.WE xs))(Q):cz .WE [.b a] b Q=∀c,b c=U->Q (.b c) (am b c (.WE xs)):=bI d
theorem Gu(a b Q):cz .WW [.a a] b Q=((-(2^62)<=a/\a<2^62)/\Q (.WW 0 a) b):=rfl
theorem Gt(a b c Q):cz .WW [.a a,.a b] c Q=(((-(2^62)<=a/\a<2^62)/\-(2^62)<=b/\b<2^62)/\Q (.WW a b) c):=rfl
theorem yJ{xs c}(d:b a=O (.WE xs))(e:fR xs=O c)(Q):cz .Zr [.b a] b Q=Q (.a c) b:=(bI d).trans (bI (d:=λc=>Q (.a c) b) e)
theorem Fx{xs c}(d:b a=O (.WE xs))(e:fR xs=O c)(Q)(f:Q (.a c) b):cz .Zr [.b a] b Q:=(yJ d e Q).mpr f
theorem yL{xs c}(d:b a=O (.W5 xs))(e:fR xs=O c)(Q):cz .Zr [.b a] b Q=Q (.a c) b:=(bI d).trans (bI (d:=λc=>Q (.a c) b) e)
theorem Fy{xs c}(d:b a=O (.W5 xs))(e:fR xs=O c)(Q)(f:Q (.a c) b):cz .Zr [.b a] b Q:=(yL d e Q).mpr f
theorem FG(xs a):f_ (.h xs) a=O (.YM,xs):=rfl
theorem FH(a b c):f_ (.WW a b) c=O (.YM,dq a b):=rfl
theorem cE{xs}(c:b a=O (.WE xs)):f_ (.b a) b=O (.x a xs,xs):=by show(b a).bind _=_;erw[c];rfl
theorem FI{c}(d:b a=O (.WN l c)):f_ (.b a) b=O (.ZV a l c,c.map λe=>.a e.1):=by show(b a).bind _=_;erw[d];rfl
theorem FQ(xs b Q)(d e:Option aa)(c a:Option Int)(f:e5 d=O c)(g:e5 e=O a):gz (.h xs) d e b Q=Q (.h (c8 xs c a)) b:=(bI f).trans (bI (d:=λa=>Q (.h (c8 xs c a)) b) g)
theorem FR{xs}(h:b a=O (.WE xs))(Q)(f g:Option aa)(e d:Option Int)(i:e5 f=O e)(j:e5 g=O d):gz (.b a) f g b Q=∀c,b c=U->Q (.b c) (am b c (.WE (c8 xs e d))):=(bI i).trans ((bI (d:=λd=>aP (b a) λk=>lW k λxs=>∀c,b c=U->Q (.b c) (am b c (.WE (c8 xs e d)))) j).trans (bI h))
theorem FT{xs}(h:b a=O (.W5 xs))(Q)(f g:Option aa)(e d:Option Int)(i:e5 f=O e)(j:e5 g=O d):gz (.b a) f g b Q=∀c,b c=U->Q (.b c) (am b c (.WE (c8 xs e d))):=(bI i).trans ((bI (d:=λd=>aP (b a) λk=>lW k λxs=>∀c,b c=U->Q (.b c) (am b c (.WE (c8 xs e d)))) j).trans (bI h))
theorem zq{xs}(d:b a=O (.WE xs))(Q):kK (.b a) b Q=∀c,b c=U->Q (.b c) (am b c (.WE xs.reverse)):=bI d
theorem n'{c}(d:b a=O (.WO l G c))(e:bS c Z=O o)(Q):dB p (.b a) Z b Q=Q o b:=(bI d).trans (bI (by erw[e];rfl))
theorem dp{xs}(c:b a=O (.WE xs)):hD p (.b a) 0 b=O (.W9 a)/\hD p (.b a) 1 b=O (.Z4 a)/\hD p (.b a) 2 b=O (.ZU a):=by
 refine⟨?_,?_,?_⟩;·show(b a).bind _=_;erw[c];rfl
 .show(b a).bind _=_;erw[c];rfl
 .show(b a).bind _=_;erw[c];rfl
theorem iV{c}(d:b a=O (.WN l c)):hD p (.b a) 3 b=O (.Xa a):=by show(b a).bind _=_;erw[d];rfl
theorem eJ{c}(d:b a=O (.WO l G c))(e:p.Zp l Z=O f):hD p (.b a) Z b=O (.C f a):=by show(b a).bind _=_;erw[d];show(p.Zp l Z).map _=_;erw[e];rfl
theorem hU{xs}(d:b a=O (.WE xs))(c Q):dA p (.W9 a) [c] b Q=(xs.length<=aJ/\Q .WK (am b a (.WE (xs++[c])))):=bI d
theorem p1{xs}(c:b a=O (.WE xs))(Q):dA p (.Z4 a) [] b Q=aP xs.getLast? λd=>Q d (am b a (.WE xs.dropLast)):=bI c
theorem GP{xs}(c:b a=O (.WE xs))(Q)(d:aP xs.getLast? λe=>Q e (am b a (.WE xs.dropLast))):dA p (.Z4 a) [] b Q:=(p1 c Q).mpr d
theorem l_{xs c}(d:b a=O (.WE xs))(e:b l=O (.WE c))(Q):dA p (.ZU a) [.b l] b Q=(a≠l/\xs.length+c.length<=aJ/\Q .WK (am b a (.WE (xs++c)))):=congrArg (a≠l/\·) ((bI d).trans (bI (b:=b l) (d:=λf=>ea f λc=>xs.length+c.length<=aJ/\Q .WK (am b a (.WE (xs++c)))) e))
theorem Dh{xs}(d:b a=O (.WE xs))(c Q):dA p (.ZU a) [.h c] b Q=(xs.length+c.length<=aJ/\Q .WK (am b a (.WE (xs++c)))):=bI d
theorem CX{c}(d:b a=O (.WN l c))(k Q):dA p (.Xa a) [.a k] b Q=Q ((be c k).getD .WK) b:=bI d
theorem LH{c}(d:b a=O (.WN l c))(k Q)(e:Q ((be c k).getD .WK) b):dA p (.Xa a) [.a k] b Q:=(CX d k Q).mpr e
theorem nP{c}(e:b a=O (.WN l c))(k d Q):dA p (.Xa a) [.a k,d] b Q=Q ((be c k).getD d) b:=bI e
theorem qF{d}(e:b a=O (.WN l d))(k c Q)(f:Q ((be d k).getD c) b):dA p (.Xa a) [.a k,c] b Q:=(nP e k c Q).mpr f
theorem Ma(f a vs b Q):dA p (.C f a) vs b Q=p.k f (.b a::vs) b Q:=rfl
theorem ak(c:ab)(a:Nat)(b:ca):am c a b a=O b:=by unfold am;erw[if_pos rfl];rfl
theorem aH(b:ab)(c:ca)(d:l≠a):am b a c l=b l:=by unfold am;erw[if_neg d];rfl
theorem lR(b:ab)(a:Nat)(d c:ca):am (am b a d) a c=am b a c:=by funext e;unfold am;split<;>rfl
theorem Ai{a:Prop}(b:A=J)(c:a):cd (.g A) z a:=by subst b;exact c
theorem kO{a:Type}{b e:Option a}{c:a->Prop}{d:a}(f:b=O d)(g:c d):aP (b.or e) c:=by subst f;exact g
theorem bU[Decidable z]{a b:Prop}(c:(z->a)/\(¬z->b)):cd (.g (Ps z)) a b:=(p8 z a b).mpr c
theorem b7[Decidable z]{a b d e:Prop}(f:d->a)(h:e->b)(g:(z->d)/\(¬z->e)):cd (.g (Ps z)) a b:=(p8 z a b).mpr ⟨λc=>f (g.1 c),λc=>h (g.2 c)⟩
theorem eD{a b:Prop}(f:b->a)(c:z/\b):z/\a:=⟨c.1,f c.2⟩
theorem NV{c d:Nat->Prop}(f:∀a,d a->c a)(e:∀a,b a=U->d a):∀a,b a=U->c a:=λa g=>f a (e a g)
theorem ic[Decidable z]{a b:Prop}(c:Ps z=L)(d:a):(z->a)/\(¬z->b):=⟨λf=>d,λe=>absurd (of_decide_eq_true c) e⟩
theorem f'[Decidable z]{b a:Prop}(c:Ps z=J)(d:a):(z->b)/\(¬z->a):=⟨λe=>absurd e (of_decide_eq_false c),λf=>d⟩
theorem Iz:(!L)=J:=rfl
theorem IB:(!J)=L:=rfl
theorem cM{c:ca}(d:b a=O c)(k:b l=U):a≠l:=λe=>nomatch d.symm.trans ((congrArg b e).trans k)
theorem hC{c:ca}(k:b a=U)(d:b l=O c):a≠l:=λe=>cM d k e.symm
theorem fx{c:ca}(k:am b a c l=U):a≠l:=cM (ak b a c) k
theorem Pc{c:ca}(k:am b a c l=U):l≠a:=λd=>fx k d.symm
theorem g'(a b:Nat):PX a b=(a==b):=by rewrite[Wu];erw[Nat.beq_eq];rw[beq_iff_eq]
theorem FV(a f vs b Q):(an.WY a).k f vs b Q=a f vs b Q:=rfl
theorem cy{c}(d:Nat)(f:b a=O (.WO l G c))(e Q):fS p (.b a) d e b Q=((p.YY l d=L/\c.length<=100)/\Q (am b a (.WO l G (ci c d e)))):=bI f
theorem iX{d}(c:Nat)(f:b a=O (.WO l G d))(e Q)(g:((p.YY l c=L/\d.length<=100)/\Q (am b a (.WO l G (ci d c e))))):fS p (.b a) c e b Q:=(cy c f e Q).mpr g
theorem cH{d}(c:Nat)(e:b a=O (.WO l G d))(Q):dB p (.b a) c b Q=aP ((bS d c).or (p.ZA l c)) (hH Q b):=bI e
theorem My(a b c Q):b3 .t (.g a) (.g b) c Q=Q (.g (a==b)) c:=rfl
theorem nS(c:b a=O (.WE xs))(d:b l=O (.WE w))(e:xs.all (bu 8)=L)(f:w.all (bu 8)=L):dv (.b a) (.b l) b=O (cq xs w):=by show(b a).bind _=_;erw[c];show(b l).bind _=_;erw[d];exact if_pos (by erw[e,f];rfl)
theorem ma{b c a d}(e:dv b c a=O d)(Q):b3 .t b c a Q=Q (.g d) a:=bI e
theorem vp{b c a d}(e:dv b c a=O d)(Q):b3 .YW b c a Q=Q (.g (!d)) a:=bI e
theorem M0{b a c d}(e:gc b a c=O d)(Q):b3 .Y9 b (.h c) a Q=Q (.g d) a:=bI e
theorem M1{c a d e b}(f:a d=O (.WE e))(g:gc c a e=O b)(Q):b3 .Y9 c (.b d) a Q=Q (.g b) a:=(bI f).trans (bI (d:=λb=>Q (.g b) a) g)
theorem MZ{c a d e b}(f:a d=O (.WE e))(g:gc c a e=O b)(Q):b3 .ZE c (.b d) a Q=Q (.g (!b)) a:=(bI f).trans (bI (d:=λb=>Q (.g (!b)) a) g)
theorem LK(a:Option aa)(b:al):eB (a::b) 0=a:=rfl
theorem LJ(c:Option aa)(a:al)(b:Nat):eB (c::a) (b+1)=eB a b:=rfl
theorem FY(c:Option aa)(a:al)(b:aa):bD (c::a) 0 b=O b::a:=rfl
theorem FX(a:Option aa)(b:al)(c:Nat)(d:aa):bD (a::b) (c+1) d=a::bD b c d:=rfl
noncomputable def p5{a:Type}(b:Bool)(c d:a):a:=match b with|true=>c|false=>d
theorem G2{b:Type}(a c:b):p5 L a c=a:=rfl
theorem G3{b:Type}(c a:b):p5 J c a=a:=rfl
theorem Jf(a:Nat):bS [] a=U:=rfl
set_option smartUnfolding false in
theorem Je(k:Nat)(b:aa)(c:List (Nat×aa))(a:Nat):bS ((k,b)::c) a=p5 (PX k a) (O b) (bS c a):=rfl
theorem GI(a:Nat)(b:aa):ci [] a b=[(a,b)]:=rfl
set_option smartUnfolding false in
theorem GH(k:Nat)(d:aa)(a:List (Nat×aa))(b:Nat)(c:aa):ci ((k,d)::a) b c=p5 (PX k b) ((k,c)::a) ((k,d)::ci a b c):=rfl
theorem NC(a b:Nat):PX (a+1) (b+1)=PX a b:=rfl
theorem NE(a:Nat):PX 0 (a+1)=J:=rfl
theorem ND(a:Nat):PX (a+1) 0=J:=rfl
theorem NF:PX 0 0=L:=rfl
theorem dz{xs}(h:b a=O (.WE xs))(Q)(c d:Option aa)(e f:Option Int)(i:e5 c=O e)(j:e5 d=O f)(k:∀g,b g=U->Q (.b g) (am b g (.WE (c8 xs e f)))):gz (.b a) c d b Q:=(FR h Q c d e f i j).mpr k
theorem kF(xs a Q)(b c:Option aa)(d e:Option Int)(f:e5 b=O d)(g:e5 c=O e)(h:Q (.h (c8 xs d e)) a):gz (.h xs) b c a Q:=(FQ xs a Q b c d e f g).mpr h
theorem FS{xs}(h:b a=O (.W5 xs))(Q)(c d:Option aa)(e f:Option Int)(i:e5 c=O e)(j:e5 d=O f)(k:∀g,b g=U->Q (.b g) (am b g (.WE (c8 xs e f)))):gz (.b a) c d b Q:=(FT h Q c d e f i j).mpr k
theorem Ph(d:b a=O (.WE xs))(e:b l=O (.WE w))(Q)(f:(xs.length+w.length<=aJ/\∀c,b c=U->Q (.b c) (am b c (.WE (xs++w))))):dK .WM (.b a) (.b l) b Q:=(dL d e Q).mpr f
theorem e6(a:Bool)(b c:Prop)(d:((a=L->b)/\(a=J->c))):cd (.g a) b c:=(gE a b c).mpr d
theorem mo{xs}(d:b a=O (.WE xs))(c Q)(e:(xs.length<=aJ/\Q .WK (am b a (.WE (xs++[c]))))):dA p (.W9 a) [c] b Q:=(hU d c Q).mpr e
theorem Pg{xs c}(d:b a=O (.WE xs))(e:b l=O (.WE c))(Q)(f:(a≠l/\xs.length+c.length<=aJ/\Q .WK (am b a (.WE (xs++c))))):dA p (.ZU a) [.b l] b Q:=(l_ d e Q).mpr f
theorem Pf{xs}(d:b a=O (.WE xs))(c Q)(e:(xs.length+c.length<=aJ/\Q .WK (am b a (.WE (xs++c))))):dA p (.ZU a) [.h c] b Q:=(Dh d c Q).mpr e
theorem fB{xs}(c:b a=O (.WE xs))(k Q)(d:aP (bQ xs k) (hH Q b)):eN (.b a) (.a k) b Q:=(ec c k Q).mpr d
theorem tl{xs}(c:b a=O (.WE xs))(Q)(d:Q (.h xs) b):cz .W2 [.b a] b Q:=(jH c Q).mpr d
theorem Pd(e:b a=O (.WE xs))(c Q)(f:((0<=c/\c<=1000000/\xs.length<=1)/\∀d,b d=U->Q (.b d) (am b d (.WE (QE c.toNat xs).flatten)))):dK .YO (.b a) (.a c) b Q:=(qi e c Q).mpr f
theorem Go{xs}(d:b a=O (.WE xs))(Q)(e:∀c,b c=U->Q (.b c) (am b c (.WE xs.reverse))):kK (.b a) b Q:=(zq d Q).mpr e
theorem Iy(d:b a=O (.WN l c))(k Q)(e:Q (.g (!(be c k).isSome)) b):b3 .ZE (.a k) (.b a) b Q:=(qb d k Q).mpr e
theorem F2{c}(e:b a=O (.WN l c))(k d Q)(f:(c.length<=aJ/\∀l,Q (am b a (.WN l (c2 c k d))))):hv (.b a) (.a k) d b Q:=(lV e k d Q).mpr f
theorem tw{xs}(d:b a=O (.WE xs))(k c Q)(e:aP (fT xs k c) λf=>Q (am b a (.WE f))):hv (.b a) (.a k) c b Q:=(pJ d k c Q).mpr e
theorem a5{d}(c:Nat)(e:b a=O (.WO l G d))(Q)(f:aP ((bS d c).or (p.ZA l c)) (hH Q b)):dB p (.b a) c b Q:=(cH c e Q).mpr f
theorem dt{xs}(c:b a=O (.WE xs))(Q)(d:Q (.a xs.length) b):cz .WJ [.b a] b Q:=(ce c Q).mpr d
theorem cK{c:List (Nat×aa)}{Q:ab->Prop}(d:p.YY l Z=L)(e:c.length<=100)(f:Q (am b a (.WO l G (ci c Z o)))):fS p (.b a) Z o (am b a (.WO l G c)) Q:=by rewrite[cy Z (ak _ _ _)];erw[lR];exact⟨⟨d,e⟩,f⟩
theorem nl{c:List (Nat×aa)}{Q:ab->Prop}(d:b a=O (.WO l G c))(e:p.YY l Z=L)(f:c.length<=100)(g:Q (am b a (.WO l G (ci c Z o)))):fS p (.b a) Z o b Q:=by rewrite[cy Z d];exact⟨⟨e,f⟩,g⟩
noncomputable def g7(Q:aa->ab->Prop)(b:bb)(_:al)(a:ab):Prop:=match b with|.WL=>Q .WK a|.p c=>Q c a|_=>False
theorem MA(Q b a):g7 Q .WL b a=Q .WK a:=rfl
theorem Mz(Q a c b):g7 Q (.p a) c b=Q a b:=rfl
set_option smartUnfolding false in
theorem a'{a:a6}{c f:Nat}{b:aI}{d e:Nat}{g:List aa}{h:List aa}{i:al}{j:ab}{Q:aa->ab->Prop}(k:a=a2 an (c+1))(l:an.Zz f=O ⟨d,e,g,b⟩)(m:q5 ⟨d,e,g,b⟩ h=O i)(n:∀a,a=a2 an c->bo (an.WY a) b i j (g7 Q)):a f h j Q:=by subst k;exact(bI l).mpr ((bI m).mpr (n _ rfl))
noncomputable def jV(c d:al->ab->Prop)(e:aa->al->ab->Prop)(f:bb)(a:al)(b:ab):Prop:=gD f (c a b) (d a b) (λg=>e g a b)
theorem JP(a d e b c):jV a d e .WL b c=a b c:=rfl
theorem JQ(a d e b c):jV a d e .Yz b c=a b c:=rfl
theorem JR(d a e b c):jV d a e .YA b c=a b c:=rfl
theorem JO(e f a b c d):jV e f a (.p b) c d=a b c d:=rfl
noncomputable def qx(B:as)(d:aI)(e a:al->ab->Prop)(f:aa->al->ab->Prop)(b:al)(g:aa)(c:ab):Prop:=cd g (bo B d b c (jV e a f)) (a b c)
theorem JN(B d e a f b c):qx B d e a f b (.g J) c=a b c:=rfl
theorem qw{B d e a f b c}(g:A=L->bo B d b c (jV e a f))(h:A=J->a b c):qx B d e a f b (.g A) c:=(gE A _ _).mpr ⟨g,h⟩
theorem nF{B d e a f b c}[Decidable z](g:z->bo B d b c (jV e a f))(h:¬z->a b c):qx B d e a f b (.g (Ps z)) c:=(p8 z _ _).mpr ⟨g,h⟩
theorem K1(g:h=a2 an (a+1)){e c:Int}(i:Q (.g (Ps (e<=d/\d<=c))) b):h 0 [.a d,.a e,.a c] b Q:=by
 refine a' g (i:=[O (.a d),O (.a e),O (.a c)]) rfl rfl λh g=>?_;simp? only[D0];refine⟨λf=>?_,λf=>?_⟩
 .have:Ps (e<=d/\d<=c)=Ps (d<=c):=by simp[f]
  erw[<-this];exact i
 .have:Ps (e<=d/\d<=c)=J:=by simp[f]
  erw[<-this];exact i
theorem eM(f:h=a2 an (a+1)){c e:Int}(g:c<=d/\d<=e)(i:Q (.g L) b):h 0 [.a d,.a c,.a e] b Q:=K1 f (by erw[decide_eq_true g];exact i)
theorem vt(c:h=a2 an (a+1))(e:Q (.a d) b):h 1 [.a d] b Q:=by refine a' c (i:=[O (.a d)]) rfl rfl λh c=>?_;simp? only[D7];exact e
end
variable{h:a6}
section
set_option tactic.hygienic true
noncomputable def ah(c d:ab):Prop:=∀a b,c a=O b->d a=O b
noncomputable def bC(c:Nat->Prop)(d e:ab):Prop:=∀a b,d a=O b->¬c a->e a=O b
theorem ah.WZ(a:ab):ah a a:=λb b c=>c
theorem ah.WF{a:ab}(e:ah b T)(f:ah T a):ah b a:=λc d g=>f c d (e c d g)
theorem ah.WH(d:ca)(e:b a=U):ah b (am b a d):=λg h c=>by erw[aH _ _ (λf=>by rw[f,e]at c;injection c)];exact c
theorem bC.WZ(c:Nat->Prop)(a:ab):bC c a a:=λb b d b=>d
theorem bC.WF{a:Nat->Prop}{c:ab}(g:bC a b T)(h:bC a T c):bC a b c:=λd e i f=>h d e (g d e i f) f
theorem ah.WQ{a:Nat->Prop}(c:ah b T):bC a b T:=λd e f g=>c d e f
theorem bC.WS{c:Nat->Prop}(d:ca)(e:c a):bC c b (Mine.am b a d):=λi j f g=>by erw[aH _ _ (λh=>g (by rw[h];exact e))];exact f
theorem bC.Xm{c d:Nat->Prop}(e:bC c b T)(k:∀a,c a->d a):bC d b T:=λa f g h=>e a f g λi=>h (k a i)
noncomputable def bY(d:ab)(e f:Nat):Prop:=∃c a b:Int,d e=O (.WE [.a c,.a a,.a b])/\0<=c/\(0<=a/\a<2147483629)/\0<=b/\b<=f
theorem eO(a:aa)(b:List aa):bQ (a::b) 0=O a:=rfl
theorem fE(b a:aa)(c:List aa):bQ (b::a::c) 1=O a:=rfl
theorem g6(b c a:aa)(d:List aa):bQ (b::c::a::d) 2=O a:=rfl
theorem LI(b c d a:aa)(e:List aa):bQ (b::c::d::a::e) 3=O a:=rfl
theorem FW(c a:aa)(b:List aa):fT (c::b) 0 a=O (a::b):=by simp[fT]
theorem hu(a b d c:aa):fT [a,b,d] 2 c=O [a,b,c]:=rfl
theorem dy(s:h=a2 an (a+1))(x:bY b l G)(j:G<=100000)(e:1<=d/\d<=100)(c:∀k m,0<=k->k<d->bY m l (G+1)->bC (·=l) b m->Q (.a k) m):h 71 [.b l,.a d] b Q:=by refine hf x λA n o f t y g i=>?_;obtain⟨p,q⟩:=y;refine a' s (i:=[O (.b l),O (.a d),U,U]) rfl rfl λh s=>?_;simp?[ha,eO,fE,g6,hu];refine fB f _ _ ?_;simp?[ha,eO,fE,g6,hu];refine b7 (λc=>by refine fB f _ _ ?_;simp?[ha,eO,fE,g6,hu];refine eD (λc=>by refine fB f _ _ ?_;simp?[ha,eO,fE,g6,hu];refine eD (λc=>by refine tw f _ _ _ ?_;simp?[ha,eO,fE,g6,hu];exact c) ?_;exact c) ?_;exact c) (λc=>by refine fB f _ _ ?_;simp?[ha,eO,fE,g6,hu];refine tw f _ _ _ ?_;simp?[ha,eO,fE,g6,hu];refine fB (ak _ _ _) _ _ ?_;simp?[ha,eO,fE,g6,hu];refine fB (ak _ _ _) _ _ ?_;simp?[ha,eO,fE,g6,hu];refine eD (λc=>by refine eD (λc=>by refine eD (λc=>by refine fB (ak _ _ _) _ _ ?_;simp?[ha,eO,fE,g6,hu];exact c) ?_;exact c) ?_;exact c) ?_;exact c) ?_;simp? only[ha,↓ec f,↓pJ f,↓ec (ak _ _ _),eO,fE,g6,FW,hu];have u:∀r,bC (·=l) b (am b l r):=λr=>bC.WS r rfl;refine⟨λz=>⟨(bg bL fv rfl e.1),⟨(bg bL fv rfl e.1),(bg jj (a3 ag na) rfl e.2)⟩,c _ _ (Tz _ (bg bL mS rfl e.1)) (TA _ (bg bL fv rfl e.1)) ⟨_,_,_,ak _ _ _,UI t (bg bL bl rfl e.1),⟨p,q⟩,g,(fK lG (aq ag h6) rfl i)⟩ (u _)⟩,λz=>?_⟩;have v:=Tz ((n+40093*(o+1)+29)^UC 5) (show(2147483647:Int)≠0 by exact aR (.w (aT lJ aX)) rfl);have w:=TA ((n+40093*(o+1)+29)^UC 5) (show(0:Int)<2147483647 by exact aR (a3 aX lJ) rfl);generalize(n+40093*(o+1)+29)^UC 5%2147483647=B at v w⊢;exact⟨⟨by decide,(Ar.dc [_] [_] bl ky lG wJ rfl g j i)⟩,⟨(aR (aq aX ft) rfl),(aR (aq ft c7) rfl),(Ar.lc [_] [_,_] bl iD ky (aq ap bm) (a3 ag pl) (a8 (.Yx (.i (.i ag (.G 40093 cv)) (.H 29))) f2) rfl p g j i q)⟩,(aR (a3 aX lJ) rfl),⟨by decide,(Ar.dc [_] [_] bl ky lG wJ rfl g j i)⟩,⟨(aR (aq aX c1) rfl),(aR (aq c1 c7) rfl),(Ar.lc [_] [_,_] bl iD ky (a3 ap lJ) lG (a8 (.Yx (.i ap (.G 92959 bk))) f2) rfl g v j w i)⟩,(aR (a3 aX (.H 2147483587)) rfl),⟨(aR (a3 aX m6) rfl),(aR (a3 m6 na) rfl)⟩,(bg bL fv rfl e.1),c _ _ (Tz _ (bg bL mS rfl e.1)) (TA _ (bg bL fv rfl e.1)) ⟨_,_,_,ak _ _ _,t,⟨p,q⟩,(bg bl (aq aX bk) rfl g),(fK lG (aq bk h6) rfl i)⟩ (u _)⟩
end
variable{K:aa->ab->(aa->ab->Prop)->Prop}
theorem vn{i:aa->ab->(aa->ab->Prop)->Prop}{k:dh}(d:List aa->List aa->ab->Prop)(m:∀f c us a,d (f::c) us a->k.WP a/\∀(p:aa->ab->Prop) (q:ab->Prop),(∀e b,d c (us++[e]) b->p e b)->(∀b,d c us b->q b)->K f a λs j=>cd s (i f j p) (q j)):∀(r us:List aa)(a:ab)(Q:List aa->ab->Prop),(∀us a,d [] us a->k.WP a/\Q us a)->d r us a->dS K i k r a λg h=>Q (us++g) h|[],us,a,Q,l,n=>by show k.WP a/\Q (us++[]) a;erw[P3];exact l us a n|f::c,us,a,Q,l,n=>by obtain⟨t,u⟩:=m f c us a n;refine QN t ?_;have:=u (λe b=>dS K i k c b λg h=>Q (us++(e::g)) h) (λj=>dS K i k c j λg h=>Q (us++g) h) (λe b o=>by have:=vn d m c (us++[e]) b Q l o;simp only[P9,List.singleton_append]at this;exact this) (λb o=>vn d m c us b Q l o);exact this
theorem jZ{o:aa->ab->(aa->ab->Prop)->Prop}{k:dh}(e:aa->Bool)(f:aa->aa)(i:k.WP b):∀{j:List aa}{Q:List aa->ab->Prop},(∀a∈j,∀h:aa->ab->Prop,h (.g (e a)) b->K a b h)->(∀a∈j,e a=L->∀h:aa->ab->Prop,h (f a) b->o a b h)->Q ((j.filter e).map f) b->dS K o k j b Q
|[],Q,_,_,g=>QN i g
|a::p,Q,l,m,g=>by refine QN i (l a (QS ..) _ ?_);cases n:e a with
 |true=>refine m a (QS ..) n _ (jZ e f i (λc d=>l c (PY _ d)) (λc d=>m c (PY _ d)) ?_);rw[Us n,Qj]at g;exact g
 |false=>refine jZ e f i (λc d=>l c (PY _ d)) (λc d=>m c (PY _ d)) ?_;rw[Tt (by erw[n];decide)]at g;exact g
theorem hs{g:aI}{Q:bb->al->ab->Prop}(d:Nat->(al->ab->Prop)->Prop)(h:(al->ab->Prop)->Prop)(i:(aa->al->ab->Prop)->Prop)(k:∀l m n,h m->i n->∀b,(∀e,e<b->d e l)->d b λa c=>au p r a c (qx p g l m n a))(o:h λa c=>Q .WL a c)(q:i λs a c=>Q (.p s) a c):∀f b,b<f->d b λa c=>iS (pE p r) (dg p g) f a c Q|0,b,j=>absurd j (Vp b)|f+1,b,j=>k (λa c=>iS (pE p r) (dg p g) f a c Q) _ _ o q b λe t=>hs d h i k o q f e (Nat.lt_of_lt_of_le t (Nat.le_of_lt_succ j))
theorem ir{j:aI}{l:ej}{k:dh}{Q:bb->al->ab->Prop}(d:List aa->(al->ab->Prop)->Prop)(g:(al->ab->Prop)->Prop)(h:(aa->al->ab->Prop)->Prop)(m:∀i c (e:bb->al->ab->Prop),d c (e .WL)->d c (e .Yz)->g (e .YA)->h (λf=>e (.p f))->d (i::c) λb a=>k.WP a/\aP (cA l i b) λu=>bo p j u a e)(n:d [] λb a=>k.WP a/\Q .WL b a)(o:g λb a=>Q .WL b a)(q:h λf b a=>Q (.p f) b a):∀t,d t λb a=>b_ (dg p j) l k t b a Q|[]=>n|i::c=>m i c (λv r s=>gD v (b_ (dg p j) l k c r s Q) (Q .WL r s) (λf=>Q (.p f) r s)) (ir d g h m n o q c) (ir d g h m n o q c) o q
theorem Nf(n:h=a2 an (a+1)){k:Int}(f:b l=O (.W5 (e.map .a)))(g:0<=k/\k<=2)(c:∀q o,ah b o->Q (.a q) o):h 69 [.b l,.a k] b Q:=by
 refine a' n (i:=[O (.b l),O (.a k)]) rfl rfl λh n=>?_;simp?[vS];refine uu f _ ?_;simp?[vS];refine b7 (λc=>by exact Ln f _ _ c) (λc=>c) ?_;erw[Pt];refine⟨λi=>?_,λi=>⟨⟨by decide,(fr (.w iK) h3 iJ rfl i g.2)⟩,?_⟩⟩
 .have r:k.toNat<e.length:=(fr iK bl km rfl i g.1);have:bQ (e.map .a) k=O (.a e[k.toNat]):=by unfold bQ;erw[if_pos g.1,QT,P8 r];rfl
  erw[this];exact c _ b (ah.WZ b)
 .refine FS f _ U (O (.a 1)) U (O 1) rfl rfl ?_;intro w s;have t:∃d,fR (c8 (e.map .a) U (O 1))=O d:=by
   have:∀j:List Int,∃d,fR (j.map .a)=O d:=by intro j;induction j with|nil=>exact⟨0,rfl⟩|cons p x u=>obtain⟨d,m⟩:=u;exact⟨p+d,congrArg (T_ (p+·)) m⟩
   have v:c8 (e.map .a) U (O 1)=((e.drop 0).take (hO (e.map aa.a).length 1)).map .a:=by unfold c8;simp
   erw[v];exact this _
  obtain⟨d,m⟩:=t;simp?[];refine Fx (ak _ _ _) m _ ?_;simp?[];exact⟨(aR (a3 aX (.H 1000003)) rfl),c _ _ (ah.WH _ s)⟩
theorem Nq(f:h=a2 an (a+1))(i:∀c e,ah b e->b c=U->bY e c 0->Q (.b c) e):h 70 [.a d] b Q:=by refine a' f (i:=[O (.a d)]) rfl rfl λh f=>?_;simp?[DX];exact⟨⟨(aR (aq aX (.H 18)) rfl),(aR (aq (.H 18) c7) rfl),by decide⟩,(aR (a3 aX pl) rfl),Pp rfl,λc g=>i c _ (ah.WH _ g) g ⟨_,_,_,ak _ _ _,(Ar.dW [] [_,_] (aq aX (.a? aX f5)) rfl),⟨Tz _ (aR (.w (aT pl aX)) rfl),TA _ (aR (a3 aX pl) rfl)⟩,(aR ke rfl),(aR (aq aX pm) rfl)⟩⟩
theorem hL{i:aI}{k:dh}{Q:bb->al->ab->Prop}(e:List Int->List Int->(al->ab->Prop)->Prop)(n:(al->ab->Prop)->Prop)(o:(aa->al->ab->Prop)->Prop)(s:∀f d j (g:bb->al->ab->Prop),e (d++[f]) j (g .WL)->e (d++[f]) j (g .Yz)->n (g .YA)->o (λh=>g (.p h))->e d (f::j) λc b=>k.WP b/\bo p i (bD c a (.a f)) b g)(t:∀d,e d [] λc b=>k.WP b/\Q .WL c b)(u:n λc b=>Q .WL c b)(v:o λh c b=>Q (.p h) c b)(xs:List Int):e [] xs λc b=>b_ (dg p i) (.z a) k (xs.map .a) c b Q:=by
 have w:∀xs d,e d xs λc b=>b_ (dg p i) (.z a) k (xs.map .a) c b Q:=by intro xs;induction xs with|nil=>exact t|cons f q r=>exactλd=>s f d q (λx l m=>gD x (b_ (dg p i) (.z a) k (q.map .a) l m Q) (Q .WL l m) (λh=>Q (.p h) l m)) (r _) (r _) u v
 exact w xs []
theorem qI{l:Type}{h:aI}{i:ej}{k:dh}{Q:bb->al->ab->Prop}(f:l->aa)(c:List l->(al->ab->Prop)->Prop)(o:(al->ab->Prop)->Prop)(q:(aa->al->ab->Prop)->Prop)(s:∀j d (e:bb->al->ab->Prop),c d (e .WL)->c d (e .Yz)->o (e .YA)->q (λg=>e (.p g))->c (j::d) λb a=>k.WP a/\aP (cA i (f j) b) λt=>bo p h t a e)(u:c [] λb a=>k.WP a/\Q .WL b a)(v:o λb a=>Q .WL b a)(w:q λg b a=>Q (.p g) b a)(xs:List l):c xs λb a=>b_ (dg p h) i k (xs.map f) b a Q:=QH (motive:=λxs=>c xs λb a=>b_ (dg p h) i k (xs.map f) b a Q) u (λj d r=>s j d (λx m n=>gD x (b_ (dg p h) i k (d.map f) m n Q) (Q .WL m n) (λg=>Q (.p g) m n)) r r v w) xs
theorem C6{i:aI}{j:ej}{k:dh}{Q:bb->al->ab->Prop}(c:List Nat->(al->ab->Prop)->Prop)(e:(al->ab->Prop)->Prop)(f:(aa->al->ab->Prop)->Prop)(m:∀(l:Nat) g (d:bb->al->ab->Prop),c g (d .WL)->c g (d .Yz)->e (d .YA)->f (λh=>d (.p h))->c (l::g) λb a=>k.WP a/\aP (cA j (.a l) b) λn=>bo p i n a d)(o:c [] λb a=>k.WP a/\Q .WL b a)(q:e λb a=>Q .WL b a)(r:f λh b a=>Q (.p h) b a)(xs:List Nat):c xs λb a=>b_ (dg p i) j k ((xs.map λ(k:Nat)=>(k:Int)).map .a) b a Q:=by erw[QX];exact qI _ c e f m o q r xs
noncomputable def kC:Nat->aI->aI|0,_=>.e|_+1,.e=>.e|k+1,.c s a=>.c s (kC k a)
noncomputable def gN:Nat->aI->aI|0,a=>a|_+1,.e=>.e|k+1,.c _ b=>gN k b
noncomputable def la:aI->aI->aI|.e,a=>a|.c s b,a=>.c s (la b a)
theorem aD(a:aI):kC 0 a=.e:=rfl
theorem aC(k:Nat)(s:gS)(a:aI):kC (k+1) (.c s a)=.c s (kC k a):=rfl
theorem aO(a:aI):gN 0 a=a:=rfl
theorem aN(k:Nat)(s:gS)(a:aI):gN (k+1) (.c s a)=gN k a:=rfl
theorem aF(a:aI):la .e a=a:=rfl
theorem aE(s:gS)(a b:aI):la (.c s a) b=.c s (la a b):=rfl
theorem Ew:∀(k:Nat)(b:aI),b=la (kC k b) (gN k b)|0,_=>rfl|_+1,.e=>rfl|k+1,.c s a=>by show aI.c s a=.c s (la (kC k a) (gN k a));erw[<-Ew k a];rfl
theorem ba(k:Nat){a:aI}{Q:bb->al->ab->Prop}(e:(al->ab->Prop)->Prop)(g:e λc d=>bo p (gN k a) c d Q)(h:∀f:aI,(e λc d=>bo p f c d Q)->bo p (la (kC k a) f) N b Q):bo p a N b Q:=by erw[Ew k a];exact h _ g
theorem vw(c:h=a2 an (a+2))(e:0<=d/\d<=255)(f:Q (.a d) b):h 17 [.a d] b Q:=by refine a' c (i:=[O (.a d)]) rfl rfl λh c=>?_;simp?[D'];refine eM c e ?_;simp?[];exact f
theorem mb(e:h=a2 an (a+2))(g:-1073741823<=d/\d<=1073741823)(c:Q (.a d) b):h 3 [.a d] b Q:=by refine a' e (i:=[O (.a d)]) rfl rfl λh e=>?_;simp?[D_];refine vt e ?_;simp?[];refine b7 (λc=>by exact bU c) (λc=>c) ?_;exact⟨λi=>⟨λi=>c,λf=>absurd g.2 f⟩,λf=>absurd g.1 f⟩
inductive aw where|YG (F:Int)|Yy (F:Int) (P:List Int) (R S:Bool)|YP (aa s:Int)|ZT|d?|b?|f?|Zm (ab:Bool)
variable{W:aw}
noncomputable def bV(e:Nat)(b:ab)(c:Nat):aw->Prop|.YG d=>∃a,b c=O (.WO 2 a [(23,.b e),(24,.a d)])|.Yy d g h i=>∃a,b c=O (.WO 3 a [(23,.b e),(24,.a d),(25,.h (g.map .a)),(26,.g h),(27,.g i)])|.YP j s=>∃a,b c=O (.WO 5 a [(4,.a j),(30,.a s)])|.ZT=>∃a f k,b c=O (.WO 6 a [(31,.b f),(30,.a 0),(32,.WK)])/\b f=O (.WO 0 k [(4,.a 200000),(5,.a 100000),(6,.a 0),(7,.a 50000),(8,.a 0)])|.d?=>∃a,b c=O (.WO 7 a [(33,.a 50)])|.b?=>∃a,b c=O (.WO 4 a [(4,.a 1000),(28,.WK),(29,.WK)])|.f?=>∃a,b c=O (.WO 9 a [(37,.h [.h [.a 11,.a 97]])])|.Zm l=>∃a,b c=O (.WO 10 a [(38,.g l),(4,.a 0)])
theorem bV.WG(e:bV a b l W)(c:ah b T):bV a T l W:=by induction W with
 |ZT=>exact d7 e λd f g h i=>⟨d,f,g,c _ _ h,c _ _ i⟩
 |_=>obtain⟨d,j⟩:=e;exact⟨d,c _ _ j⟩
theorem M_(e:h=a2 an (a+3))(i:0<=d/\d<=255)(j:∀c f,ah b f->b c=U->bV l f c (.YG d)->Q (.b c) f):mk h 2 [.b l,.a d] b Q:=by refineλc k g m n=>a' e (i:=[O (.b c),O (.b l),O (.a d)]) rfl rfl λh e=>?_;simp? only[Er];rewrite[cy _ (ak _ _ _)];refine⟨⟨rfl,Pp rfl⟩,?_⟩;simp? only[];refine vw e i ?_;simp? only[];rewrite[cy _ (ak _ _ _)];refine⟨⟨rfl,by simp[ci]⟩,?_⟩;erw[lR];exact j c _ (ah.WH _ g) g ⟨k,ak _ _ _⟩
theorem B1(e:h=a2 an (a+3)){s:Int}(i:-1073741823<=d/\d<=1073741823)(j:0<=s/\s<=3)(k:∀c f,ah b f->b c=U->bV l f c (.YP d s)->Q (.b c) f):mk h 5 [.a d,.a s] b Q:=by refineλc m g n o=>a' e (i:=[O (.b c),O (.a d),O (.a s)]) rfl rfl λh e=>?_;simp?[En];refine eM e j ?_;simp?[];refine mb e i ?_;simp? only[];rewrite[cy _ (ak _ _ _)];refine⟨⟨rfl,Pp rfl⟩,?_⟩;simp? only[];rewrite[cy _ (ak _ _ _)];refine⟨⟨rfl,by simp[ci]⟩,?_⟩;erw[lR];exact k c _ (ah.WH _ g) g ⟨m,ak _ _ _⟩
theorem Jt(g:h=a2 an (a+3)){m:Bool}(v:0<=d/\d<=255)(w:∀i∈e,0<=i/\i<=255)(x:e.length<=100)(y:∀c n,ah b n->b c=U->bV l n c (.Yy d e A m)->Q (.b c) n):mk h 3 [.b l,.a d,.h (e.map .a),.g A,.g m] b Q:=by
 refineλc z j H q=>a' g (i:=[O (.b c),O (.b l),O (.a d),O (.h (e.map .a)),O (.g A),O (.g m),U]) rfl rfl λh g=>?_;simp? only[Em];rewrite[cy _ (ak _ _ _)];refine⟨⟨rfl,Pp rfl⟩,?_⟩;simp? only[];refine vw g v ?_;simp? only[];rewrite[cy _ (ak _ _ _)];refine⟨⟨rfl,by simp[ci]⟩,by erw[Pt];unfold aJ;exact a7 eG dm rfl x,?_⟩;erw[lR];refine jZ (k:=.YM) (λr=>L) id trivial (λB s C o=>o) (λB s r C o=>?_) ?_;·refine az (P'.mp s) λi D E=>?_;obtain rfl:=E;exact vw g (w i D) o
 .intro p t;simp?[];rewrite[jH (ak _ _ _)];have q:c≠p:=fx t;have F:∀k,am (am b c k) p (.WE (SY id (Uu (λr=>L) (e.map aa.a)))) c=O k:=λk=>by exact((aH _ _ q).trans (ak _ _ _))
  rewrite[cy _ (F _)];refine⟨⟨rfl,by simp[ci]⟩,nl (ak _ _ _) rfl (Pp rfl) ?_⟩;simp? only[];rewrite[cy _ (ak _ _ _)];refine⟨⟨rfl,Pp rfl⟩,?_⟩;erw[lR];refine y c _ (λu k f=>?_) j ⟨z,?_⟩
  .have:u≠c:=by first|exact cM j f|exact hC f j|rintro rfl;rw[j]at f;injection f
   have G:u≠p:=cM ((aH _ _ this).trans f) t;erw[aH _ _ this,aH _ _ G,aH _ _ this];exact f
  .erw[ak];simp[ci,g']
section
set_option tactic.hygienic true
theorem Nb(e:h=a2 an (a+2))(g:-2147483647<=d/\d<=2147483647)(c:Q (.a d) b):h 2 [.a d] b Q:=by refine a' e (i:=[O (.a d)]) rfl rfl λh e=>?_;simp?[D9];refine vt e ?_;simp?[];refine b7 (λc=>by exact bU c) (λc=>c) ?_;exact⟨λi=>⟨λi=>c,λf=>absurd g.2 f⟩,λf=>absurd g.1 f⟩
theorem G5(d:h=a2 an (a+3))(g:∀c e,ah b e->b c=U->bV l e c .d?->Q (.b c) e):mk h 7 [.a 50] b Q:=by refineλc i f j k=>a' d (i:=[O (.b c),O (.a 50)]) rfl rfl λh d=>?_;simp?[Eg];refine Nb d (aR (.i (aq (.B lJ) (.H 50)) (aq (.H 50) lJ)) rfl) ?_;simp? only[];exact cK rfl (Pp rfl) (g c _ (ah.WH _ f) f ⟨i,ak _ _ _⟩)
theorem A8(d:h=a2 an (a+3))(g:∀c e,ah b e->b c=U->bV l e c (.Zm A)->Q (.b c) e):mk h 10 [.g A,.a 0] b Q:=by refineλc i f j k=>a' d (i:=[O (.b c),O (.g A),O (.a 0)]) rfl rfl λh d=>?_;simp? only[Ej];refine cK rfl (Pp rfl) ?_;simp?[];refine mb d (aR w9 rfl) ?_;simp? only[];exact cK rfl (Pp rfl) (g c _ (ah.WH _ f) f ⟨i,ak _ _ _⟩)
theorem I0(e:h=a2 an (a+3))(g:∀c d,ah b d->b c=U->bV l d c .f?->Q (.b c) d):mk h 9 [.h [.h [.a 11,.a 97]]] b Q:=by refineλc i f j k=>a' e (i:=[O (.b c),O (.h [.h [.a 11,.a 97]])]) rfl rfl λh e=>?_;simp? only[Ek];exact cK rfl (Pp rfl) (g c _ (ah.WH _ f) f ⟨i,ak _ _ _⟩)
theorem Gi(d:h=a2 an (a+3))(g:∀c e,ah b e->b c=U->bV l e c .b?->Q (.b c) e):mk h 4 [.a 1000,.WK,.WK] b Q:=by refineλc i f j k=>a' d (i:=[O (.b c),O (.a 1000),O .WK,O .WK,U]) rfl rfl λh d=>?_;simp? only[Ef,L4,L3,cA,dh.WP,true_and,b1];refine⟨Pp rfl,mb d (aR (.i (aq jo gZ) (aq gZ iQ)) rfl) ?_⟩;simp? only[];refine cK rfl (Pp rfl) ?_;simp? only[];refine cK rfl (Pp rfl) ?_;simp? only[];exact cK rfl (Pp rfl) (g c _ (ah.WH _ f) f ⟨i,by erw[ak];rfl⟩)
theorem LD(c:h=a2 an (a+3))(j:∀d e f,ah b e->b d=U->e d=O (.WO 0 f [(4,.a 200000),(5,.a 100000),(6,.a 0),(7,.a 50000),(8,.a 0)])->Q (.b d) e):mk h 0 [.a 200000,.a 100000,.a 0,.a 50000,.a 0] b Q:=by refineλd f i l m=>a' c (i:=[O (.b d),O (.a 200000),O (.a 100000),O (.a 0),O (.a 50000),O (.a 0)]) rfl rfl λh c=>?_;simp?[Eo];refine eM c (aR sI rfl) ?_;simp?[];refine eM c (aR sI rfl) ?_;simp?[];refine mb c (aR (.i (aq jo (.H 200000)) (aq (.H 200000) iQ)) rfl) ?_;simp? only[];refine cK rfl (Pp rfl) ?_;simp?[];refine mb c (aR (.i (aq jo cQ) (aq cQ iQ)) rfl) ?_;simp? only[];refine cK rfl (Pp rfl) ?_;simp? only[];refine⟨λk=>cK rfl (Pp rfl) ?_,λg=>absurd (by decide) g⟩;simp?[];refine mb c (aR (.i (aq jo (.H 50000)) (aq (.H 50000) iQ)) rfl) ?_;simp? only[];refine cK rfl (Pp rfl) ?_;simp? only[];exact⟨λk=>cK rfl (Pp rfl) (j d _ f (ah.WH _ i) i (by erw[ak];rfl)),λg=>absurd (by decide) g⟩
theorem LB(d:h=a2 an (a+3))(e:b G=O (.WO 0 Z [(4,.a 200000),(5,.a 100000),(6,.a 0),(7,.a 50000),(8,.a 0)]))(i:∀c f,ah b f->b c=U->bV l f c .ZT->Q (.b c) f):mk h 6 [.b G,.a 0] b Q:=by
 refineλc j g n o=>a' d (i:=[O (.b c),O (.b G),O (.a 0),O .WK]) rfl rfl λh d=>?_;simp?[Ee];refine eM d (aR xt rfl) ?_;simp? only[b1];refine⟨λk=>absurd k (by decide),λp=>?_⟩;simp? only[b1,show(L==J)=J from rfl];refine cK rfl (Pp rfl) ?_;simp? only[];refine cK rfl (Pp rfl) ?_;simp? only[];refine cK rfl (Pp rfl) ?_;have m:G≠c:=by rintro rfl;rw[g]at e;injection e
 exact i c _ (ah.WH _ g) g ⟨j,G,Z,by erw[ak];rfl,((aH _ _ m).trans e)⟩
noncomputable def bv(a:Int):aw:=if a=1 then .d? else if a=2 then .YP 700 1 else if a=3 then .b? else if a=4 then .f? else if a=5 then .Zm L else if a=6 then .Zm J else .ZT
theorem NB(g:h=a2 an (a+4))(c:∀i j,ah b j->b i=U->bV l j i (bv d)->Q (.b i) j):h 79 [.a d] b Q:=by
 refine a' g (i:=[O (.a d)]) rfl rfl λh g=>?_;simp?[DY,↓EM];refine b7 (λc=>c) (λc=>by refine b7 (λc=>c) (λc=>by exact b7 (λc=>c) (λc=>by exact b7 (λc=>c) (λc=>by exact b7 (λc=>c) (λc=>by exact bU c) c) c) c) ?_;exact c) ?_;refine⟨λf=>?_,λo=>⟨λf=>?_,λp=>⟨λf=>?_,λq=>⟨λf=>?_,λr=>⟨λf=>?_,λs=>⟨λf=>?_,λt=>?_⟩⟩⟩⟩⟩⟩
 .have e:bv d=.d?:=by subst f;rfl
  rw[e]at c;exact G5 g c
 .have e:bv d=.YP 700 1:=by subst f;rfl
  rw[e]at c;exact B1 g (l:=l) (d:=700) (s:=1) (aR (.i (aq jo (.H 700)) (aq (.H 700) iQ)) rfl) (aR (.i (aq aX aG) rD) rfl) c
 .have e:bv d=.b?:=by subst f;rfl
  rw[e]at c;exact Gi g c
 .have e:bv d=.f?:=by subst f;rfl
  rw[e]at c;exact⟨Pp rfl,Pp rfl,I0 g c⟩
 .have e:bv d=.Zm L:=by subst f;rfl
  rw[e]at c;exact A8 g c
 .have e:bv d=.Zm J:=by subst f;rfl
  rw[e]at c;exact A8 g c
 .have e:bv d=.ZT:=by unfold bv;erw[if_neg o,if_neg p,if_neg q,if_neg r,if_neg s,if_neg t];rfl
  rw[e]at c;exact LD g (a:=a) (Q:=λu k=>mk h 6 [u,.a 0] k Q) λz k A m B v=>LB g (a:=a) (l:=l) v λi w x n y=>c i w (m.WF x) (by
   rcases e:b i with _|C;·rfl
   .rw[m _ _ e]at n;injection n) y
end
variable{u:List aw}
section
set_option backward.eqns.nonrecursive false
set_option backward.eqns.deepRecursiveSplit false
def fd(b:ab)(a:Nat):Prop:=∃d c,b a=O (.WO 1 d c)/\bS c 9=O (.a 1)
theorem fd.WG{c:ab}(z?:fd T l)(d:ah T c):fd c l:=by exact iC z? λe f g h=>⟨e,f,d _ _ g,h⟩
theorem p_(z?:fd T l)(Q):dB p (.b l) 9 T Q=Q (.a 1) T:=by refine iC z? λe f c d=>?_;rw[n' c d]
theorem jO(z?:fd T l)(Q)(c:Q (.a 1) T):dB p (.b l) 9 T Q:=(p_ z? Q).mpr c
noncomputable def bH:aw->Int|.YG _=>0|.Yy _ _ _ _=>1|.YP _ _=>5|.ZT=>6|.d?=>7|.b?=>4|.f?=>9|.Zm _=>12
theorem nE{d}(z?:bV l T G W)(Q):dB (an.WY d) (.b G) 22 T Q=Q (.a (bH W)) T:=by induction W with
 |ZT=>refine d7 z? λe f g c h=>?_;rewrite[cH _ c];rfl
 |_=>obtain⟨e,c⟩:=z?;rewrite[cH _ c];rfl
theorem e8{c}(z?:bV l T G W)(Q)(d:Q (.a (bH W)) T):dB (an.WY c) (.b G) 22 T Q:=(nE z? Q).mpr d
noncomputable def kY(a:Bool):Int:=if a then 1 else 0
def bJ:aw->aa|.YG a=>.h [.a 0,.a 1,.a a]|.Yy a b c d=>.h [.a 1,.a 1,.a a,.h (b.map .a),.a (kY c),.a (kY d)]|.YP e s=>.h [.a 5,.a e,.a s]|.ZT=>.h [.a 6,.h [.a 200000,.a 100000,.a 0,.a 50000,.a 0],.a 0,.h []]|.d?=>.h [.a 7,.a 50]|.b?=>.h [.a 4,.h [.a 1000],.h [],.h []]|.f?=>.h [.a 9,.h [.h [.a 11,.a 97]]]|.Zm f=>.h [.a 12,.a (kY f),.a 0]
theorem cw{e a:aI}{Q:bb->al->ab->Prop}(c:Int)(f:eB N k=O (.a c))(g:Ps (c=d)=J)(h:bo p a N T Q):bo p (.c (.l (.j .t (.d k) (.f (.a d))) e .e) a) N T Q:=by simp?[];refine aY f ?_;simp?[];erw[g];exact h
theorem kz{c:Int}{g e:aI}{Q:bb->al->ab->Prop}(a:Int)(f:eB N k=O (.a a))(h:Ps (a=d)=J)(i:Ps (a=c)=J)(j:bo p e N T Q):bo p (.c (.l (.YF (.j .t (.d k) (.f (.a d))) (.j .t (.d k) (.f (.a c)))) g .e) e) N T Q:=by simp?[];refine aY f ?_;simp?[];erw[h];simp?[];refine aY f ?_;simp?[];erw[i];exact j
theorem jD{a c:aI}{Q:bb->al->ab->Prop}(e:Int)(f:eB N k=O (.a e))(g:Ps (e=d)=L)(h:bo p a N T (lb (bo p c) Q)):bo p (.c (.l (.j .t (.d k) (.f (.a d))) a .e) c) N T Q:=by simp?[];refine aY f ?_;simp?[];erw[g];exact h
theorem MP(m:h=a2 an (l+3))(f:bV G T Z W)(o:fd T G)(t:d<=60)(e:∀q,ah T q->Q (bJ W) q):h 30 [.b Z,.a d] T Q:=by
 refine a' m (i:=[O (.b Z),O (.a d),U,U,U]) rfl rfl λh m=>ba 2 (λu=>u [O (.b Z),O (.a d),O (.a (bH W)),U,U] T) ?_ λE v=>?_
 .have g:=ah.WZ T;induction W with
  |YG w=>obtain⟨i,c⟩:=f;refine jD 0 rfl rfl ?_;simp?[];refine a5 _ c _ ?_;simp?[Pm];refine jO o _ ?_;simp?[Pm];refine a5 _ c _ ?_;simp?[Pm];exact⟨Pp rfl,e T g⟩
  |Yy w F x y=>obtain⟨i,c⟩:=f;refine cw 1 rfl rfl (jD 1 rfl rfl ?_);simp?[];refine a5 _ c _ ?_;simp?[Pm];refine jO o _ ?_;simp?[Pm];refine a5 _ c _ ?_;simp?[Pm];refine a5 _ c _ ?_;simp?[Pm];refine a5 _ c _ ?_;simp?[Pm];simp? only[↓cH _ c,↓p_ o,Pm];cases x<;>cases y<;>(simp?[];exact⟨Pp rfl,e T g⟩)
  |YP H s=>obtain⟨i,c⟩:=f;refine cw 5 rfl rfl (cw 5 rfl rfl (kz 5 rfl rfl rfl (cw 5 rfl rfl (jD 5 rfl rfl ?_))));simp?[];refine a5 _ c _ ?_;simp?[Pm];refine a5 _ c _ ?_;simp?[Pm];exact⟨Pp rfl,e T g⟩
  |d?=>obtain⟨i,c⟩:=f;refine cw 7 rfl rfl (cw 7 rfl rfl (kz 7 rfl rfl rfl (cw 7 rfl rfl (cw 7 rfl rfl (cw 7 rfl rfl (jD 7 rfl rfl ?_))))));simp?[];refine a5 _ c _ ?_;simp?[Pm];exact⟨Pp rfl,e T g⟩
  |f?=>obtain⟨i,c⟩:=f;refine cw 9 rfl rfl (cw 9 rfl rfl (kz 9 rfl rfl rfl (cw 9 rfl rfl (cw 9 rfl rfl (cw 9 rfl rfl (cw 9 rfl rfl (jD 9 rfl rfl ?_)))))));simp?[];refine a5 _ c _ ?_;simp?[Pm];exact⟨Pp rfl,e T g⟩
  |Zm z=>obtain⟨i,c⟩:=f;refine cw 12 rfl rfl (cw 12 rfl rfl (kz 12 rfl rfl rfl (cw 12 rfl rfl (cw 12 rfl rfl (cw 12 rfl rfl (cw 12 rfl rfl (cw 12 rfl rfl (jD 12 rfl rfl ?_))))))));simp?[];refine a5 _ c _ ?_;simp?[Pm];simp? only[↓cH _ c,Pm];cases z<;>(simp?[];exact⟨Pp rfl,e T g⟩)
  |b?=>
   obtain⟨i,c⟩:=f;refine cw 4 rfl rfl (cw 4 rfl rfl (kz 4 rfl rfl rfl (jD 4 rfl rfl ?_)));simp?[];refine eD (λe=>by refine a5 _ c _ ?_;simp?[Pm];refine a5 _ c _ ?_;simp?[Pm];refine a5 _ c _ ?_;simp?[Pm];exact e) ?_;refine⟨Pp rfl,Pp rfl,by simp[aJ],?_⟩;refine jZ (k:=.YM) (λr=>L) (λn=>if b1 n=L then .h []else .h [n]) trivial (λn A B j=>j) (λn A r B j=>?_) ?_
   .refine e6 _ _ _ ⟨λp=>⟨Pp rfl,?_⟩,λp=>⟨Pp rfl,?_⟩⟩;·rw[if_pos p]at j;exact j
    .rw[if_neg (by erw[p];decide)]at j;exact j
   .intro I C;simp?[Pm];rewrite[jH (ak _ _ _)];simp?[Pm];exact⟨by simp[aJ],e _ (ah.WH _ C)⟩
  |ZT=>refine d7 f λi D K c k=>cw 6 rfl rfl (cw 6 rfl rfl (kz 6 rfl rfl rfl (cw 6 rfl rfl (cw 6 rfl rfl (jD 6 rfl rfl ?_)))));simp?[];refine a5 _ c _ ?_;simp?[Pm];erw[eJ k (f:=5) rfl];simp?[];refine a' m (i:=[O (.b D)]) rfl rfl λh m=>?_;simp?[jb,Pm,b1];refine a5 _ k _ ?_;simp?[jb,Pm,b1];refine a5 _ k _ ?_;simp?[jb,Pm,b1];refine a5 _ k _ ?_;simp?[jb,Pm,b1];refine a5 _ k _ ?_;simp?[jb,Pm,b1];refine a5 _ k _ ?_;simp?[jb,Pm,b1];refine eD (λe=>by refine a5 _ c _ ?_;simp?[jb,Pm,b1];refine a5 _ c _ ?_;simp?[jb,Pm,b1];exact e) ?_;exact⟨Pp rfl,Pp rfl,Pp rfl,e _ g⟩
 .simp?[aD,aC,aF,aE,vV];refine a' m (i:=[O (.a d)]) rfl rfl λM N=>?_;simp?[vZ];refine bU ?_;exact⟨λc=>absurd t (bg (a3 jn ag) (.w (aq ag jn)) rfl c),λr=>e8 f _ v⟩
noncomputable def bd(a:Nat)(b:ab):List Nat->List aw->Prop:=bq (bV a b)
section
variable(z?:bd a b j u)
include z?
theorem bd.WG(c:ah b T):bd a T j u:=bq.WR z? λd d z?=>z?.WG c
theorem bd.WJ:j.length=u.length:=bq.WJ z?
theorem bd.W_{c:List Nat}{d:List aw}(e:bd a b c d):bd a b (j++c) (u++d):=bq.W_ z? e
theorem bd.W7(k:Nat):bd a b (j.drop k) (u.drop k):=bq.W7 z? k
theorem bd.W3(k:Nat):bd a b (j.take k) (u.take k):=bq.W3 z? k
theorem bd.Xa(k:Nat)(d:u[k]?=O W):∃c,j[k]?=O c/\bV a b c W:=bq.Xa z? k d
end
theorem nQ{n:aI}{o:ej}{k:dh}{Q:bb->al->ab->Prop}(f:List Nat->List aw->(al->ab->Prop)->Prop)(t:(al->ab->Prop)->Prop)(v:(aa->al->ab->Prop)->Prop)(w:∀g c q d (h:bb->al->ab->Prop),bV l T g q->bd l T c d->f c d (h .WL)->f c d (h .Yz)->t (h .YA)->v (λm=>h (.p m))->f (g::c) (q::d) λe b=>k.WP b/\aP (cA o (.b g) e) λx=>bo p n x b h)(y:f [] [] λe b=>k.WP b/\Q .WL e b)(z:t λe b=>Q .WL e b)(A:v λm e b=>Q (.p m) e b){c:List Nat}{d:List aw}(z?:bd l T c d):f c d λe b=>b_ (dg p n) o k (c.map .b) e b Q:=bq.Xl (a:=λc d=>f c d λe b=>b_ (dg p n) o k (c.map .b) e b Q) y (λg c q d z? B i=>w g c q d (λC r s=>gD C (b_ (dg p n) o k (c.map .b) r s Q) (Q .WL r s) (λm=>Q (.p m) r s)) z? B i i z A) z?
end
section
def mz(d:Nat)(e:Int)(b:ab)(f g:aa):Prop:=∀(a:ab)(Q:aa->ab->Prop),ah b a->(∀c,ah a c->Q g c)->a2 an d 30 [f,.a e] a Q
theorem mz.WG{a:ab}{c:aa}(z?:mz l d T o c)(e:ah T a):mz l d a o c:=λf Q g h=>z? f Q (e.WF g) h
noncomputable def rz(a:Nat)(c:Int)(b:ab):List aa->List aa->Prop:=bq (mz a c b)
theorem nW(n:h=a2 an (l+1)){r:List aa}(u:q5 ⟨2,3,[.a 0],rd⟩ r=O [O (.b G),O (.a d),U])(s:T G=O (.WE vs))(v:vs.length<=aJ)(c:rz l d T vs w)(x:∀t,ah T t->Q (.h w) t):h 31 r T Q:=by
 refine a' n rfl u λh n=>?_;subst n;simp?[rd];refine aY (cE s) ?_;simp?[rd];refine⟨v,?_⟩;have y:∀(vs w us:List aa)(a:ab),rz l d T vs w->ah T a->∀f:List aa->ab->Prop,(∀g,ah T g->f w g)->dS (λo T Q=>Q (aa.g L) T) (λo T Q=>a2 an l 30 [o,aa.a d] T Q) (.x G us) vs a f\/a G≠O (.WE us):=by intro vs;induction vs with
  |nil=>
   intro w us a c i f p;by_cases e:a G=O (.WE us)
   .refine .inl ?_;rcases w with _|⟨_,_⟩;·exact QN e (p _ i)
    .exact c.elim
   .exact .inr e
  |cons o vs z=>
   intro w us a c i f p;by_cases e:a G=O (.WE us)
   .refine .inl ?_;rcases w with _|⟨A,w⟩;·exact c.elim
    .obtain⟨B,C⟩:=c;refine QN e (B a _ i λg m=>?_);rcases z w us g C (i.WF m) (λus q=>f (A::us) q) (λq D=>p q D)with k|k;·exact k
     .exact absurd (m _ _ e) k
   .exact .inr e
 refine(y vs w vs T c (ah.WZ T) _ (λg m=>?_)).elim id (λk=>absurd s k);intro F E;simp?[];rewrite[jH (ak _ _ _)];exact x _ (m.WF (ah.WH _ E))
inductive ek where|z (F:aw)|ZG (P R S:List aw)
noncomputable def kb(a:Nat)(b:ab)(f:Nat):ek->Prop|.z j=>bV a b f j|.ZG k l m=>∃n g h i c d e,b f=O (.WO 8 n [(34,.b g),(35,.b h),(36,.b i)])/\(b g=O (.WE (c.map .b))/\bd a b c k/\c.length<=aJ)/\(b h=O (.WE (d.map .b))/\bd a b d l/\d.length<=aJ)/\(b i=O (.WE (e.map .b))/\bd a b e m/\e.length<=aJ)
theorem kb.WG{e:ab}{d:ek}(z?:kb l T G d)(c:ah T e):kb l e G d:=by induction d with|z d=>exact bV.WG z? c|ZG z A B=>exact EN z? λf g h i j k m n o p q r s=>cc o λt u v=>cc p λw x y=>Oy f g h i j k m (c _ _ n) ⟨c _ _ t,u.WG c,v⟩ ⟨c _ _ w,x.WG c,y⟩ (c _ _ q) (r.WG c) s
def nZ:ek->aa|.z a=>bJ a|.ZG b c d=>.h [.a 8,.h (b.map bJ),.h (c.map bJ),.h (d.map bJ)]
theorem Dm(e:bV G T Z W)(f:fd T G)(g:d<=60):mz (l+3) d T (.b Z) (bJ W):=λh h c i=>MP rfl (e.WG c) (f.WG c) g i
theorem qN(e:fd T G)(f:d<=60){c:List Nat}{xs:List aw}(z?:bd G T c xs):rz (l+3) d T (c.map .b) (xs.map bJ):=bq.W6 z? λg g z?=>Dm z? e f
theorem JJ{c}{d e:List aw}(z?:kb l T G (.ZG u d e))(Q):dB (an.WY c) (.b G) 22 T Q=Q (.a 8) T:=by refine O3 z? λg h c i j k m f n=>?_;rewrite[cH _ f];rfl
theorem BY{c}{d e:List aw}(z?:kb l T G (.ZG u d e))(Q)(f:Q (.a 8) T):dB (an.WY c) (.b G) 22 T Q:=(JJ z? Q).mpr f
theorem MG{j m:List aw}(g:kb G T Z (.ZG u j m))(h:fd T G)(k:d<=59):mz (l+6) d T (.b Z) (nZ (.ZG u j m)):=by
 intro o Q n j;have g:=g.WG n;have h:=h.WG n;refine a' (a:=a2 an (l+6)) rfl (i:=[O (.b Z),O (.a d),U,U,U]) rfl rfl λp f=>ba 2 (λq=>q [O (.b Z),O (.a d),O (.a 8),U,U] o) ?_ λH r=>?_;·refine cw 8 rfl rfl (cw 8 rfl rfl (kz 8 rfl rfl rfl (cw 8 rfl rfl (cw 8 rfl rfl (cw 8 rfl rfl (cw 8 rfl rfl (cw 8 rfl rfl (cw 8 rfl rfl ?_))))))));simp?[];refine a' f (i:=[O (.b Z),O (.a d),U,U,U]) rfl rfl λp f=>?_;simp?[D6];refine BY g _ ?_;simp?[];refine bU ⟨λs=>EN g λI K M N P R S c t v w x y=>cc t λz A B=>cc v λC D E=>?_,λc=>absurd trivial c⟩;refine a5 _ c _ ?_;simp?[Pm];refine nW f (l:=l+3) rfl z (by erw[Pt];exact B) (qN h (bg m' sB rfl k) A) λV i=>?_;simp?[Pm];refine a5 _ (i _ _ c) _ ?_;simp?[Pm];refine nW f (l:=l+3) rfl (i _ _ C) (by erw[Pt];exact E) (qN (h.WG i) (bg m' sB rfl k) (D.WG i)) λW e=>?_;have e:=i.WF e;simp?[Pm];refine a5 _ (e _ _ c) _ ?_;simp?[Pm];exact nW f (l:=l+3) rfl (e _ _ w) (by erw[Pt];exact y) (qN (h.WG e) (bg m' sB rfl k) (x.WG e)) λX F=>⟨Pp rfl,j _ (e.WF F)⟩
 .simp?[aD,aC,aF,aE,vV];refine a' f (i:=[O (.a d)]) rfl rfl λY aa=>?_;simp?[vZ];refine bU ?_;exact⟨λc=>absurd k (bg (a3 jn ag) (.w m') rfl c),λs=>BY g _ r⟩
noncomputable def cZ(a:Nat)(b:ab):List Nat->List ek->Prop:=bq (kb a b)
section
variable{A:List ek}(z?:cZ a b j A)
include z?
theorem cZ.WG(c:ah b T):cZ a T j A:=bq.WR z? λd d z?=>z?.WG c
theorem cZ.W_{c:List Nat}{d:List ek}(e:cZ a b c d):cZ a b (j++c) (A++d):=bq.W_ z? e
theorem cZ.WJ:j.length=A.length:=bq.WJ z?
end
theorem bd.Xz{c:List Nat}(z?:bd l T c u):cZ l T c (u.map .z):=by have d:=bq.W6 (b:=kb l T) (f:=id) (c:=ek.z) z? λe e z?=>z?;rw[VG]at d;exact d
theorem MF(c:fd T G)(e:d<=59){f:List Nat}{xs:List ek}(z?:cZ G T f xs):rz (l+6) d T (f.map .b) (xs.map nZ):=bq.W6 z? λh g z?=>by
 rcases g with _|⟨_,_,_⟩;·exact Dm (l:=l+3) z? c (bg m' (aq ag jn) rfl e)
 .exact MG z? c e
end
theorem gC(a:Nat)(b:List Int):(b.map aa.a).all (bu a)=L:=by rewrite[Qi];intro e c;refine az (P'.mp c) λi f d=>?_;obtain rfl:=d;exact i3 a _
theorem nf:∀(a b:List Int),cq (a.map .a) (b.map .a)=Ps (a=b)|[],[]=>rfl|[],_::_=>rfl|_::_,[]=>rfl|c::a,d::b=>by show(dx (.a c) (.a d)&&cq (a.map .a) (b.map .a))=_;erw[nf a b];show(Ps (c=d)&&Ps (a=b))=_;erw[<-Bool.decide_and];congr 1;simp
theorem IG(a:List Int)(b Q):b3 .YW (.h (a.map .a)) (.h []) b Q=Q (.g (Ps (¬a=[]))) b:=by
 have c:dv (.h (a.map .a)) (.h []) b=O (Ps (a=[])):=by show(if bu 9 (.h (a.map .a))&&bu 9 (.h [])then O (dx (.h (a.map .a)) (.h []))else U)=_;have d:bu 9 (.h (a.map .a))=L:=gC 8 a;erw[d];show O (cq (a.map .a) (([]:List Int).map .a))=_;erw[nf];rfl
 refine(vp c Q).trans ?_;erw[decide_not];rfl
noncomputable def a0:aw->List Int|.YG a=>[a]|.Yy _ b _ _=>b|_=>[]
noncomputable def kX:aw->Bool|.YP _ s=>s==0|_=>J
def dJ:aw->Bool|.YG _=>L|.Yy _ _ _ _=>L|a=>kX a
noncomputable def gI:aw->Bool|.YP _ _=>L|_=>J
theorem n1(f:h=a2 an (a+1))(d:bV l b G W)(c:Q (.h ((a0 W).map .a)) b):h 40 [.b G] b Q:=by refine a' f (i:=[O (.b G)]) rfl rfl λh f=>?_;simp?[re];refine e8 d _ ?_;simp?[re];refine b7 (λc=>c) (λc=>by refine e8 d _ ?_;simp?[re];exact bU c) ?_;induction W with
 |YG g=>obtain⟨i,e⟩:=d;simp?[bH,PP,PR,PQ,Pm];refine ic rfl (a5 _ e _ ?_);simp?[bH,PP,PR,PQ,Pm];exact⟨Pp rfl,c⟩
 |Yy g j k m=>obtain⟨i,e⟩:=d;simp?[bH,PP,PR,PQ,Pm];refine f' rfl (ic rfl (a5 _ e _ ?_));simp?[bH,PP,PR,PQ,Pm];exact c
 |_=>simp?[bH,PP,PR,PQ];refine f' rfl (f' rfl ?_);exact⟨Pp rfl,c⟩
theorem FL{s:Int}(c:bV a b l (.YP d s))(Q):dB p (.b l) 30 b Q=Q (.a s) b:=by obtain⟨f,e⟩:=c;rw[n' e rfl]
theorem FK{s:Int}(c:bV a b l (.YP d s))(Q)(e:Q (.a s) b):dB p (.b l) 30 b Q:=(FL c Q).mpr e
theorem uV(c:h=a2 an (a+1))(d:bV l b G W)(e:Q (.g (kX W)) b):h 39 [.b G] b Q:=by refine a' c (i:=[O (.b G)]) rfl rfl λh c=>?_;simp?[vT];refine e8 d _ ?_;simp?[vT];refine bU ?_;induction W with|YP f s=>simp?[bH,PP,PR,PQ];refine ic rfl (FK d _ ?_);simp?[bH,PP,PR,PQ];exact e|_=>simp?[bH,PP,PR,PQ];refine f' rfl ?_;exact e
theorem u9(c:bV a b l (.YG d))(Q):dB p (.b l) 23 b Q=Q (.b a) b:=by obtain⟨f,e⟩:=c;rw[n' e rfl]
theorem C_(c:bV a b l (.YG d))(Q)(e:Q (.b a) b):dB p (.b l) 23 b Q:=(u9 c Q).mpr e
theorem u8{c d e f}(g:bV a b l (.Yy c d e f))(Q):dB p (.b l) 23 b Q=Q (.b a) b:=by obtain⟨i,h⟩:=g;rw[n' h rfl]
theorem C9{c d e f}(g:bV a b l (.Yy c d e f))(Q)(h:Q (.b a) b):dB p (.b l) 23 b Q:=(u8 g Q).mpr h
theorem uU(f:h=a2 an (a+2))(c:bV l b G W)(e:fd b l)(d:Q (.g (dJ W)) b):h 41 [.b G,.b l] b Q:=by refine a' f (i:=[O (.b G),O (.b l)]) rfl rfl λh f=>?_;simp?[rb];refine e8 c _ ?_;simp?[rb];refine b7 (λd=>d) (λd=>by refine e8 c _ ?_;simp?[rb];exact bU d) ?_;induction W with|YG g=>simp?[bH,PP,PR,PQ];refine ic rfl (C_ c _ ?_);simp?[bH,PP,PR,PQ];refine jO e _ ?_;simp?[bH,PP,PR,PQ];refine jO e _ ?_;simp?[bH,PP,PR,PQ];simp? only[bH,R6,R4,R5,PP,PR,PQ,eq_self,true_implies,false_implies,not_true_eq_false,not_false_eq_true,and_true,true_and,and_self,implies_true,reduceCtorEq,decide_true,decide_false,↓u9 c,↓p_ e];exact d|Yy g i j k=>simp?[bH,PP,PR,PQ];refine f' rfl (ic rfl (C9 c _ ?_));simp?[bH,PP,PR,PQ];refine jO e _ ?_;simp?[bH,PP,PR,PQ];refine jO e _ ?_;simp?[bH,PP,PR,PQ];simp? only[bH,R6,R4,R5,PP,PR,PQ,eq_self,true_implies,false_implies,not_true_eq_false,not_false_eq_true,and_true,true_and,and_self,implies_true,reduceCtorEq,decide_true,decide_false,↓u8 c,↓p_ e];exact d|_=>simp?[bH,PP,PR,PQ];refine f' rfl (f' rfl ?_);exact uV f c d
noncomputable def d':aw->aa|.YG a=>.h [.a 0,.a 1,.a a]|.Yy a b c d=>.h [.a 1,.a 1,.a a,.h (b.map .a),.g c,.g d]|.YP e s=>.h [.a 5,.a e,.a s]|_=>.WK
theorem nz(f:h=a2 an (a+1))(e:bV l b G W)(g:fd b l)(j:dJ W=L\/gI W=L)(c:Q (d' W) b):h 45 [.b G] b Q:=by refine a' f (i:=[O (.b G)]) rfl rfl λh f=>?_;simp?[n9];refine e8 e _ ?_;simp?[n9];refine b7 (λc=>c) (λc=>by refine e8 e _ ?_;simp?[n9];refine b7 (λc=>c) (λc=>by refine e8 e _ ?_;simp?[n9];exact bU c) ?_;exact c) ?_;induction W with
 |YG k=>simp?[bH,PP,PR,PQ];refine ic rfl (C_ e _ ?_);simp?[bH,PP,PR,PQ];refine jO g _ ?_;simp?[bH,PP,PR,PQ];obtain⟨i,d⟩:=e;refine a5 _ d _ ?_;simp?[Pm];exact⟨Pp rfl,c⟩
 |Yy k m n o=>simp?[bH,PP,PR,PQ];refine f' rfl (ic rfl (C9 e _ ?_));simp?[bH,PP,PR,PQ];refine jO g _ ?_;simp?[bH,PP,PR,PQ];obtain⟨i,d⟩:=e;refine a5 _ d _ ?_;simp?[Pm];refine a5 _ d _ ?_;simp?[Pm];refine a5 _ d _ ?_;simp?[Pm];refine a5 _ d _ ?_;simp?[Pm];exact⟨Pp rfl,c⟩
 |YP p s=>simp?[bH,PP,PR,PQ];refine f' rfl (f' rfl (ic rfl ?_));obtain⟨i,d⟩:=e;refine a5 _ d _ ?_;simp?[Pm];refine a5 _ d _ ?_;simp?[Pm];exact⟨Pp rfl,c⟩
 |_=>exact absurd j (by simp[dJ,gI,kX])
theorem A9(k:h=a2 an (a+2)){xs:List aw}(n:b G=O (.WE (j.map .b)))(c:bd l b j xs)(p:fd b l)(q:j.length<=aJ)(f:∀d∈xs,dJ d=L\/gI d=L)(r:∀e,b e=U->Q (.b e) (am b e (.WE (xs.map d')))):h 46 [.b G] b Q:=by
 refine a' k (i:=[O (.b G),U]) rfl rfl λh k=>?_;simp?[vP];refine aY (cE n) ?_;simp?[vP];refine⟨by erw[Pt];exact q,?_⟩;have s:∀(j:List Nat)(xs:List aw),bd l b j xs->(∀d∈xs,dJ d=L\/gI d=L)->∀(us:List aa)(g:List aa->ab->Prop),b G=O (.WE us)->g (xs.map d') b->dS (λo b Q=>Q (aa.g L) b) (λo b Q=>h 45 [o] b Q) (.x G us) (j.map .b) b g:=by intro j;induction j with
  |nil=>
   intro xs c _ us g i m;rcases xs with _|⟨_,_⟩;·exact QN i m
   .exact c.elim
  |cons G j t=>
   intro xs c f us g i m;rcases xs with _|⟨d,xs⟩;·exact c.elim
   .obtain⟨u,v⟩:=c;erw[Qj];exact QN i (nz k u p (f _ (QS ..)) (t xs v (λw x=>f w (PY _ x)) us _ i m))
 exact s j xs c f _ _ n λe y=>r e y
theorem AW{xs:List aw}(d:bd a b j xs)(e:k<xs.length):∃c,(j.map aa.b)[k]?=O (.b c)/\bV a b c xs[k]:=by refine az (d.Xa k (P8 e)) λc f g=>?_;exact⟨c,by erw[QT,f];rfl,g⟩
theorem ih(xs:List aa)(k:Nat):bQ xs (k:Int)=xs[k]?:=by unfold bQ;erw[if_pos (b5 mU rfl)];rfl
theorem gK{xs:List aw}(d:b l=O (.WE (j.map .b)))(e:bd a b j xs)(f:k<xs.length):∃c,bV a b c xs[k]/\∀i:Int,i=k->∀Q,eN (.b l) (.a i) b Q=Q (.b c) b:=by refine az (AW e f) λc g h=>⟨c,h,λi m Q=>?_⟩;erw[m];rewrite[ec d];erw[ih,g];rfl
def bB(xs:List aw):Nat:=(xs.takeWhile gI).length
def cr(xs:List aw):Nat:=P1 (bB xs.reverse) (xs.length-bB xs)
theorem nC(xs:List aw):bB xs<=xs.length:=by unfold bB;exact(List.takeWhile_sublist _).length_le
theorem BV{xs:List aw}(c:k<xs.length)(a:k<=bB xs):(k<bB xs↔gI xs[k]=L):=by unfold bB at*;induction xs generalizing k with
 |nil=>exact absurd c (by simp)
 |cons e xs f=>
  rcases b:gI e with _|_
  .rw[Tm (by erw[b];decide)]at a⊢;have:k=0:=by simpa using a
   subst this;simp[b]
  .rw[SV b]at a⊢;rcases k with _|k;·simp[b]
   .rw[PL]at a c;erw[PL,List.getElem_cons_succ];have:=f (k:=k) (aQ o2 bA rfl c) (aQ hn a_ rfl a);exact⟨λd=>this.mp (aQ o2 bA rfl d),λd=>by have:=this.mpr d;exact aQ bA o2 rfl this⟩
theorem qu(a:aw):(bH a=5)↔gI a=L:=by cases a<;>simp[bH,gI]
theorem Ah(A:h=a2 an (a+1)){xs:List aw}(f:b G=O (.WE (j.map .b)))(r:bd l b j xs)(n:Q (.h [.a (bB xs),.a (cr xs)]) b):h 47 [.b G] b Q:=by
 refine a' A (i:=[O (.b G),U,U]) rfl rfl λh A=>?_;have C:j.length=xs.length:=r.WJ;have B:(j.map aa.b).length=xs.length:=by erw[Pt,C];rfl
 simp? !only[DS];erw[hb];refine⟨xs.length+2,hs (λo g=>∀k:Nat,k<=bB xs->o=bB xs-k->g [O (.b G),O (.a k),O (.a 0)] b) (λg=>g [O (.b G),O (.a (bB xs)),O (.a 0)] b) (λD=>True) ?_ ?_ trivial _ (bB xs) (by have:=nC xs;exact aQ a_ sk rfl this) 0 (QD _) rfl⟩
 .intro E s F t _ o u k e v;have p:k=bB xs->s [O (.b G),O (.a k),O (.a 0)] b:=λw=>by erw[w];exact t
  simp?[];refine dt f _ ?_;simp?[];refine bU ?_;simp? only[↓ce f,B];refine⟨λc=>?_,λc=>?_⟩
  .have q:k<xs.length:=(aQ eX bA rfl c);refine az (gK f r q) λH x y=>?_;simp? only[↓y k rfl,↓nE x];have m:=BV q e;refine nF (λi=>?_) λi=>?_;·have d:=m.mpr ((qu _).mp i);simp?[];exact u (bB xs-(k+1)) (b8 bA (a9 av fg) (a8 ly av) rfl d v) (k+1) (aQ bA fM rfl d) rfl
   .have d:¬k<bB xs:=λz=>i ((qu _).mpr (m.mp z));refine p ?_;have:k=bB xs:=(cp a_ f4 bX rfl e d);exact this
  .refine p ?_;have:=nC xs;have:k=bB xs:=(em a_ jw (.w sn) bX rfl e this c);exact this
 .simp?[];erw[hb];have K:=nC xs;refine⟨xs.length+2,hs (λo g=>∀k:Nat,k<=cr xs->o=cr xs-k->g [O (.b G),O (.a (bB xs)),O (.a k)] b) (λg=>g [O (.b G),O (.a (bB xs)),O (.a (cr xs))] b) (λD=>True) ?_ ?_ trivial _ (cr xs) (by unfold cr;exact Ar.dW [_,_,_] [] (a8 (.w ag gw) g0) rfl) 0 (QD _) rfl⟩
  .intro E s F t _ o u k e v;have p:k=cr xs->s [O (.b G),O (.a (bB xs)),O (.a k)] b:=λw=>by erw[w];exact t
   simp?[];refine dt f _ ?_;simp?[];refine b7 (λn=>by refine dt f _ ?_;simp?[];exact n) (λn=>n) ?_;simp? only[↓ce f,B];refine⟨λc=>?_,λc=>?_⟩
   .have q:xs.length-1-k<xs.length:=(bO r1 mI rfl c);refine az (gK f r q) λH x y=>?_;simp? only[↓y ((xs.length:Int)-1-k) (bO r1 oD rfl c),↓nE x];have I:k<xs.reverse.length:=by erw[Sn];exact bO r1 bA rfl c
    have m:=BV (xs:=xs.reverse) I (by unfold cr at e;exact ff r4 a_ rfl e);rw[List.getElem_reverse]at m;refine nF (λi=>?_) λi=>?_;·have d:=m.mpr ((qu _).mp i);simp?[];exact u (cr xs-(k+1)) (by unfold cr at*;exact Ar.dc [_,_,_,_,_] [] bA r0 (a9 cR (.u lz ag)) (a8 (.u lz bk) cR) rfl d c v) (k+1) (by unfold cr;exact dd bA r0 (ai bk lz) rfl d c) rfl
    .have d:¬k<bB xs.reverse:=λz=>i ((qu _).mpr (m.mp z));refine p ?_;have:k=cr xs:=by unfold cr at*;exact dd f4 r4 (a9 ag lz) rfl d e
     exact this
   .refine p ?_;have:k=cr xs:=by unfold cr at*;exact dd r4 (.w r0) (a9 ag lz) rfl e c
    exact this
  .simp?[];exact⟨Pp rfl,n⟩
theorem uk(a:Int)(d:ab):∀b:List Int,gc (.a a) d (b.map .a)=O (Ps (a∈b))
|[]=>by simp[gc]
|c::b=>by
 erw[Qj];show(dv (.a c) (.a a) d).bind (λf=>(gc (.a a) d (b.map .a)).map (f||·))=_;have g:dv (.a c) (.a a) d=O (Ps (c=a)):=rfl;erw[g,uk a d b];show O (Ps (c=a)||Ps (a∈b))=_;simp only[PM];congr 1;erw[Wv];congr 1;by_cases e:c=a;·simp[e]
 .simp[e,λk:a=c=>e k.symm,PB e]
theorem u0(a:Int)(b:List Int)(d:vs=b.map .a)(c Q):b3 .Y9 (.a a) (.h vs) c Q=Q (.g (Ps (a∈b))) c:=by subst d;exact M0 (uk a c b) Q
structure d5 where
 YE:Int
 Zg:Int
 YZ:Int
 YC:Int
noncomputable def cF(a:d5):aa:=.h [.a a.YE,.a a.Zg,.a a.YZ,.a a.YC]
noncomputable def jT:List Int:=[1000,-700,333]
noncomputable def eb:List aa:=[.a 1000,.a (-700),.a 333]
noncomputable def fz:List Int:=[0,1,2,3,5,6,7,11]
noncomputable def bn:List Int:=[97,98,99,100,65,45,46,40,1,2,3]
noncomputable def ig:List Int:=[97,98,99,45,33]
noncomputable def kU:List Int:=[97,98,99,45,256]
def mu(a:d5):Prop:=((a.YE=0\/a.YE=128)/\a.Zg∈ig/\((a.YZ=128/\0<=a.YC/\a.YC<=2)\/(a.YZ∈fz/\1<=a.YC/\a.YC<=3)))\/(a.YE=255/\a.Zg=0/\a.YZ=0)
noncomputable def he:List d5->Prop|[]=>True|b::a=>(b.YE<128->a≠[])/\he a
structure bp where
 r:List d5
 YL:Int->Int
variable{E:bp}
structure d6(F:bp):Prop where
 Zi:∀P∈F.r,mu P
 Z8:he F.r
 YL:∀R,F.YL R=-1\/(R∈kU/\∃k:Nat,F.YL R=k/\∃P,F.r[k]?=O P/\(R≠256->P.YE<=128))
def ER(b:List (Int×aa))(c:bp):Prop:=(∀a d,be b a=O d->∃f g s e,d=.h [.a f,.a g,.a 0,.a 0,.a s,.a e]/\(a≠256->c.YL a=if s=1 then e else-1))/\(∀a,be b a=U->a≠256->c.YL a=-1)/\(∀a∈bn,(be b a).isSome=L)
def cV(c:ab)(f:Nat)(b:bp):Prop:=∃g a d h e,c f=O (.WO 1 g a)/\bS a 9=O (.a 1)/\(bS a 15=O (.b d)/\c d=O (.WN h e)/\ER e b)/\bS a 16=O (.h (b.r.map cF))/\bS a 17=O (.h eb)/\bS a 18=O (.a 33)/\bS a 19=O (.a (b.YL 256))/\bS a 20=O (.a 45)
theorem cV.WG(d:cV b a E)(c:ah b T):cV T a E:=by exact k9 λr e=>we d λf g h i j k l m n=>cc m λo p q=>e (wa f g h i j (c _ _ k) l ⟨o,c _ _ p,q⟩ n)
theorem cV.Xj(c:cV b a E):fd b a:=by exact O5 c λd e h i j f g k=>OC d e f g
noncomputable def kG:List d5->Int->Option (Int×Int)|[],_=>U|a::c,b=>if a.Zg=b/\a.YE<=128 then(if 128<=a.YZ then O (0,jT.getD (256*(a.YZ-128)+a.YC).toNat 0)else O (a.YZ+1,a.YC))else if a.YE<128 then kG c b else U
def im(a:bp)(b c:Int):Option (Int×Int):=if a.YL b<0\/c=256 then U else kG (a.r.drop (a.YL b).toNat) c
theorem CU(c:h=a2 an (a+1))(i:cV b l E)(j:d∈bn)(k:Q (.g L) b):h 13 [.b l,.a d] b Q:=by refine k9 λp m=>ok i λq r s t u e v n w x y z A=>EQ n λf g B C o=>m (a' c (i:=[O (.b l),O (.a d)]) rfl rfl λh c=>?_);simp?[mm,Pm];refine a5 _ e _ ?_;simp?[mm,Pm];refine kO f ?_;simp?[mm,Pm];refine qD g _ _ ?_;simp?[mm,Pm];simp? only[mm,↓cH _ e,f,Pm,↓nM g,o d j];exact k
theorem yQ(k:h=a2 an (a+1))(r:cV b l E)(c:Q (.a (E.YL d)) b):h 14 [.b l,.a d] b Q:=by
 refine k9 λt f=>ok r λB C D F u m G g H I K v M=>EQ g λw n x y N=>f (a' k (i:=[O (.b l),O (.a d),U]) rfl rfl λh k=>?_);simp?[ka,Pm];refine b7 (λc=>by refine a5 _ m _ ?_;simp?[ka,Pm];refine kO v ?_;simp?[ka,Pm];exact c) (λc=>by refine a5 _ m _ ?_;simp?[ka,Pm];refine kO w ?_;simp?[ka,Pm];refine aY (iV n) ?_;simp?[ka,Pm];refine qF n _ _ _ ?_;simp?[ka,Pm];exact c) ?_;refine⟨λe=>by rw[e]at c;exact c,λe=>?_⟩;rcases o:be u d with _|z;·rw[y d o e]at c;simp?[PP,PR,PQ];refine aY (show bQ [aa.a 0,.a 0,.a 0,.a 0,.a 0,.a 0] 4=O (.a 0)from rfl) ?_;simp?[PP,PR,PQ];refine Ai rfl ?_;exact c
 .refine k9 λt f=>?_;refine wf (x d z o) λp q s i g A=>?_;obtain rfl:=g;refine f ?_;rw[A e]at c;simp?[];refine aY (show bQ [aa.a p,.a q,.a 0,.a 0,.a s,.a i] 4=O (.a s)from rfl) ?_;simp?[];refine b7 (λc=>by refine aY (show bQ [aa.a p,.a q,.a 0,.a 0,.a s,.a i] 5=O (.a i)from rfl) ?_;simp?[];exact c) (λc=>c) ?_;refine⟨λj=>?_,λj=>?_⟩;·rw[if_pos j]at c;exact c
  .rw[if_neg j]at c;exact c
noncomputable def qn:Option (Int×Int)->aa|none=>.WK|some (a,b)=>.h [.a a,.a b]
theorem p0{a:d5}(b:E.r[k]?=O a){i:Int}(c:i=k):bQ (E.r.map cF) i=O (cF a):=by erw[c,ih,QT,b];rfl
theorem Dn{a:Type}{xs:List a}{b:a}(c:xs[k]?=O b):xs.drop k=b::xs.drop (k+1):=by obtain⟨d,rfl⟩:=Rv.mp c;erw[Sr d];rfl
theorem vi:∀(k:Nat){b:List d5},he b->he (b.drop k)|0,_,a=>a|_+1,[],_=>trivial|k+1,_::_,a=>vi k a.2
theorem Jd(A:h=a2 an (a+2)){j:Int}(M:cV b l E)(B:d6 E)(i:Q (qn (im E d j)) b):h 32 [.b l,.a d,.a j] b Q:=by
 refine a' A (i:=[O (.b l),O (.a d),O (.a j),U,U,U,U,U,U,U]) rfl rfl λh A=>k9 λay ae=>ok (id M) λaz aA aB aH aI C aJ aK N af aL aM aP=>ae ?_;simp?[n_,Pm];refine aY (eJ (p:=an.WY h) C (Z:=39) (f:=14) rfl) ?_;simp?[n_,Pm];refine yQ A M ?_;simp?[Pm];refine b7 (λi=>i) (λi=>by refine b7 (λi=>i) (λi=>by refine a5 _ C _ ?_;simp?[Pm];refine kO N ?_;simp?[Pm];refine il _ _ _ _ ?_;simp?[Pm];exact bU i) ?_;exact i) ?_;refine⟨λy=>?_,λy=>⟨λD=>?_,λD=>?_⟩⟩;·rw[show im E d j=U from if_pos (.inl y)]at i;exact i
 .rw[show im E d j=U from if_pos (.inr D)]at i;exact i
 .rw[show im E d j=kG (E.r.drop (E.YL d).toNat) j from if_neg (ex o6 (.w wj) wN rfl y D)]at i;rcases B.YL d with ah|⟨aR,k,p,c,F,ai⟩;·exact absurd (bg (aT ag lL) hq rfl ah) y
  rw[p]at i⊢;rw[R3]at i;have P:∀R:al,R=[O (.b l),O (.a d),O (.a j),O (.a (k:Int)),O (.h (E.r.map cF)),U,U,U,U,U]->bo (an.WY h) (match n_ with|.c _ (.c _ (.c _ (.c _ c)))=>c|_=>.e) R b (g7 Q):=by
   rintro _ rfl;simp?[n_];erw[hb];refine⟨E.r.length+2,(hs (λS n=>(∀(k:Nat)(f:Int)(q r s t:Option aa),f=k->S=E.r.length-k->k<E.r.length->Q (qn (kG (E.r.drop k) j)) b->n [O (.b l),O (.a d),O (.a j),O (.a f),O (.h (E.r.map cF)),O (.g L),q,r,s,t] b)/\∀(f:Int)(q r s t:Option aa),Q .WK b->n [O (.b l),O (.a d),O (.a j),O (.a f),O (.h (E.r.map cF)),O (.g J),q,r,s,t] b) (λn=>∀u,Q .WK b->n u b) (λn=>∀G u,Q G b->n G u b) ?_ ?_ ?_ _ (E.r.length-k) (b4 (a8 f5 jt) rfl)).1 k _ _ _ _ _ rfl rfl (Rv.mp F).1 i⟩
   .refineλaj aS aU am T S V=>⟨λk f q r s t ao W p g=>?_,λf q r s t g=>?_⟩
    .subst ao;have v:=P8 p;generalize aV:E.r[k]=c at v;have X:=Dn v;have H:=B.Zi c (SX v);rw[X]at g;unfold kG at g;have Y:=vi k B.Z8;rw[X]at Y;simp?[cF,cA,PL,P6,Qn,Q5,QJ,Q6,PP,PR,PQ,Pm];refine aY (p0 v rfl) ?_;simp?[cF,cA,PL,P6,Qn,Q5,QJ,Q6,PP,PR,PQ,Pm];simp? !only[p0 v rfl,cF,↓cH _ C,N,af,Pm];have Z:(¬(c.Zg=j/\c.YE<=128))->∀I:Bool,I=Ps (c.YE<128)->aj [O (.b l),O (.a d),O (.a j),O (.a ((k:Int)+c.YE+1)),O (.h (E.r.map cF)),O (.g I),O (.a c.YE),O (.a c.Zg),O (.a c.YZ),O (.a c.YC)] b:=by
      intro ap I ac;rw[if_neg ap]at g;by_cases m:c.YE<128
      .rw[if_pos m]at g;have aq:c.YE=0:=by rcases H with⟨e|e,_⟩|⟨e,_⟩<;>(first|exact e|exact bx kf ks ey rfl e m|exact bx iE ks ey rfl e m)
       have ar:k+1<E.r.length:=by
        have:=Y.1 m;rcases Rg (k+1) E.r.length with f|f;·exact f
        .exact absurd (Rm f) this
       erw[ac,decide_eq_true m];exact(V (E.r.length-(k+1)) (by erw[W];exact aQ bA jl rfl p)).1 (k+1) _ _ _ _ _ (by erw[aq];exact b5 (aT (.i (.i bm aX) aG) h6) rfl) rfl ar g
      .rw[if_neg m]at g;erw[ac,decide_eq_false m];exact(V 0 (by erw[W];exact aQ bA (a8 aX fg) rfl p)).2 _ _ _ _ _ g
     refine⟨λw=>⟨λK=>?_,λK=>Z (λf=>K f.2) _ rfl⟩,λw=>Z (λf=>w f.1) _ rfl⟩;rw[if_pos ⟨w,K⟩]at g;refine⟨λo=>?_,λo=>?_⟩
     .rw[if_pos o]at g;have z:c.YZ=128/\0<=c.YC/\c.YC<=2:=by
       rcases H with⟨_,_,e|⟨e,_⟩⟩|⟨_,_,e⟩;·exact e
       .simp only[fz,PM,P0,or_false]at e;exact ex kd mG oR rfl o e
       .exact ex ey kd oR rfl e o
      refine⟨by erw[z.1];decide,?_⟩;have as:bQ eb (256*(c.YZ-128)+c.YC)=O (.a (jT.getD (256*(c.YZ-128)+c.YC).toNat 0)):=by erw[z.1];have:c.YC=0\/c.YC=1\/c.YC=2:=(bx h3 bl wM rfl z.2.2 z.2.1);rcases this with f|f|f<;>erw[f]<;>rfl
      simp? only[as];exact⟨Pp rfl,T _ _ g⟩
     .rw[if_neg o]at g;have au:c.YZ∈fz:=by
       rcases H with⟨_,_,e|⟨e,_⟩⟩|⟨_,_,e⟩;·exact(bx kf (.w kd) .K rfl e.1 o).elim
       .exact e
       .erw[e];decide
      simp? only[↓u0 c.YZ fz (vs:=[.a 0,.a 1,.a 2,.a 3,.a 5,.a 6,.a 7,.a 11]) rfl];exact⟨λx=>⟨Pp rfl,T _ _ g⟩,λf=>absurd au f⟩
    .simp?[];exact am _ g
   .intro u g;simp?[];exact g
   .intro G u g;simp?[];exact g
  refine⟨λad=>?_,λad=>P _ rfl⟩;refine aY (p0 F rfl) ?_;simp?[cF];simp? only[p0 F rfl,cF,show∀e av aw ax,bQ [aa.a e,.a av,.a aw,.a ax] 0=O (.a e)fromλx x x x=>rfl];exact⟨λw=>absurd (ai ad) (bg po (.w kc) rfl w),λx=>P _ rfl⟩
section
set_option backward.eqns.nonrecursive false
set_option backward.eqns.deepRecursiveSplit false
noncomputable def ao(b:List Nat)(c:ab):ab:=λa=>if a∈b then U else c a
theorem ao.WV(c:List Nat)(b:ab):ah (ao c b) b:=λd e a=>by
 unfold ao at a;split at a;·injection a
 .exact a
theorem ao.WG(c:ah b T):ah (ao j b) (ao j T):=λd e a=>by
 unfold ao at a⊢;by_cases k:d∈j;·rw[if_pos k]at a;injection a
 .rw[if_neg k]at a⊢;exact c _ _ a
theorem ao.WS(c:ca)(d:a∈j):ao j (Mine.am b a c)=ao j b:=by
 funext f;unfold ao;split;·rfl
 .rename_i k;erw[aH _ _ (λe=>k (by rw[e];exact d))];rfl
theorem ao.W0(c:a∉j):ao j b a=b a:=if_neg c
theorem ao.WK(c:a∈j):ao j b a=U:=if_pos c
noncomputable def lU:aw->Bool|.YG _=>L|.Yy _ _ _ _=>L|.YP _ _=>L|_=>J
theorem bV.Xf(e:bV a b l W)(s:lU W=L)(f:l∉j):bV a (ao j b) l W:=by induction W with
 |YG g=>obtain⟨c,d⟩:=e;exact⟨c,by erw[ao.W0 f];exact d⟩
 |Yy g h i k=>obtain⟨c,d⟩:=e;exact⟨c,by erw[ao.W0 f];exact d⟩
 |YP m s=>obtain⟨c,d⟩:=e;exact⟨c,by erw[ao.W0 f];exact d⟩
 |_=>exact absurd s (by simp[lU])
structure dj where
 W:Int
 YK:List Int
 Y':Bool
noncomputable def eC(a:dj):aa:=.h [.a a.W,.h (a.YK.map .a),.g a.Y']
def eK:Option dj->aa|none=>.WK|some a=>eC a
structure aB where
 S:Option dj
 v:List dj
 YD:Int
 F:List aw
 ZX:Bool
 Z7:Bool
 Yw:Bool
variable{Y:aB}
def bZ(b c d:Nat)(a:aB):List (Nat×aa):=[(23,.b b),(40,.b c),(41,eK a.S),(42,.a a.YD),(43,.b d),(44,.g a.ZX),(45,.g a.Z7),(46,.g a.Yw)]
structure cU(ae:ab)(ac R F P:Nat)(S:ab)(aa:aB):Prop where
 T?:∃af,S R=O (.WO 11 af (bZ ac F P aa))
 v:S F=O (.WE (aa.v.reverse.map eC))
 Zu:R≠F/\R≠P/\F≠P
 afy:ah ae (ao [R,F,P] S)
 F:∃ad,S P=O (.WE (ad.map .b))/\bd ac (ao [R,F,P] S) ad aa.F
theorem cU.WG{d:ab}(e:cU b a l G Z T Y)(c:ah T d):cU b a l G Z d Y:=by obtain⟨⟨f,g⟩,h,i,j,k,m,n⟩:=e;exact⟨⟨f,c _ _ g⟩,c _ _ h,i,j.WF (ao.WG c),k,c _ _ m,n.WG (ao.WG c)⟩
theorem GX(a:dj):bu 8 (eC a)=L:=by unfold eC;have b:=gC 6 a.YK;show(L&&((a.YK.map aa.a).all (bu 6)&&(L&&L)))=L;erw[b];rfl
theorem l'(c:b a=O (.WE xs))(d:b l=O (.WE []))(e:xs.all (bu 8)=L)(Q):b3 .t (.b a) (.b l) b Q=Q (.g xs.isEmpty) b:=by
 have f:dv (.b a) (.b l) b=O xs.isEmpty:=by refine(nS c d e rfl).trans ?_;cases xs<;>rfl
 exact ma f Q
theorem nT(a:List dj):(a.map eC).all (bu 8)=L:=by rewrite[Qi];intro e b;refine az (P'.mp b) λc f d=>?_;obtain rfl:=d;exact GX c
theorem nU(a:List dj):(a.reverse.map eC).isEmpty=a.isEmpty:=by
 rcases a with _|⟨b,a⟩;·rfl
 .simp
noncomputable def ck(a:aB):aB:=match a.S with|none=>a|some b=>if b.Y' then{a with F:=a.F++[.Yy b.W b.YK a.ZX (a.Z7&&a.v.isEmpty)],ZX:=J}else{a with F:=a.F++[.YG b.W]}
def c9(a:aB):aB:=match a.v with
|[]=>{ck a with Yw:=J}
|b::c=>{ck a with S:=O b,v:=c}
noncomputable def oj(a:dj):Prop:=(0<=a.W/\a.W<=255)/\(∀b∈a.YK,0<=b/\b<=255)/\a.YK.length<=100
theorem bd.Yg(c:bd a b j u)(d:bV a b l W):bd a b (j++[l]) (u++[W]):=c.W_ ⟨d,trivial⟩
theorem IE(c:b a=U)(e:b l≠U)(f:b G≠U)(g:b Z≠U):a∉[l,G,Z]:=by
 intro d;simp only[PM,P0,or_false]at d;rcases d with rfl|rfl|rfl;·exact e c
 .exact f c
 .exact g c
theorem cU.XK{e:ab}{c:Nat}(g:cU b a l G Z T Y)(d:ah T e)(p:T c=U)(q:bV a e c W)(r:lU W=L)(f:List Nat)(h:T Z=O (.WE (f.map .b))):cU b a l G Z (am e Z (.WE (f.map .b++[.b c]))) {Y with F:=Y.F++[W]}:=by
 obtain⟨⟨s,i⟩,j,⟨t,k,m⟩,u,n,o,v⟩:=g;have:n=f:=by rw[o]at h;have:=ca.WE.inj (PS h);exact Um (λg y w=>aa.b.inj w)|>.mp this
 subst this;have x:c∉[l,G,Z]:=IE p (by erw[i];simp) (by erw[j];simp) (by erw[o];simp);refine⟨⟨s,((aH _ _ k).trans (d _ _ i))⟩,((aH _ _ m).trans (d _ _ j)),⟨t,k,m⟩,?_,n++[c],?_,?_⟩;·erw[ao.WS _ (by simp)];exact u.WF (ao.WG d)
 .erw[ak,PU];rfl
 .erw[ao.WS _ (by simp)];exact(v.WG (ao.WG d)).Yg (q.Xf r x)
theorem cU.Xn{d:Nat}{c:aB}(g:cU b a l G Z T Y)(h:c.v=Y.v)(i:c.F=Y.F):cU b a l G Z (am T l (.WO 11 d (bZ a G Z c))) c:=by
 obtain⟨⟨d,q⟩,j,⟨e,f,k⟩,m,n,o,p⟩:=g;refine⟨⟨_,ak _ _ _⟩,by erw[aH _ _ (PB e),h];exact j,⟨e,f,k⟩,?_,n,((aH _ _ (PB f)).trans o),?_⟩;·erw[ao.WS _ (by simp)];exact m
 .erw[ao.WS _ (by simp),i];exact p
theorem cU.XR(f:cU b a l G Z T Y)(c:List dj):cU b a l G Z (am T G (.WE (c.reverse.map eC))) {Y with v:=c}:=by
 obtain⟨⟨g,h⟩,o,⟨d,i,e⟩,j,k,m,n⟩:=f;refine⟨⟨g,((aH _ _ d).trans h)⟩,ak _ _ _,⟨d,i,e⟩,?_,k,((aH _ _ (PB e)).trans m),?_⟩;·erw[ao.WS _ (by simp)];exact j
 .erw[ao.WS _ (by simp)];exact n
theorem Jw{i:Nat}(o:h=a2 an (a+4))(u:cU b l G Z i T Y)(N:∀f,Y.S=O f->oj f)(z:Y.F.length<=aJ)(m:∀A,cU b l G Z i A (ck Y)->Q .WK A):h 34 [.b G] T Q:=by
 refine a' o (i:=[O (.b G),U,U,U]) rfl rfl λh o=>?_;obtain⟨⟨al,B⟩,C,⟨ao,ap,aq⟩,ar,v,p,P⟩:=id u;have D:v.length=Y.F.length:=P.WJ;rcases d:Y.S with _|f;·rw[show ck Y=Y by unfold ck;erw[d];rfl]at m;simp? only[vQ,↓cH _ B,bZ,Pm,d,eK,b1];exact m T u
 .refine cc (N f d) λE R S=>?_;have F:∀(q:aw)(c:Nat)(e:ab),ah T e->T c=U->bV l e c q->lU q=L->cU b l G Z i (am e i (.WE (v.map .b++[.b c]))) {Y with F:=Y.F++[q]}:=λq c e r g d V=>u.XK r g d V v p;simp? !only[vQ,↓cH _ B,bZ,Pm,d,eK,b1,eC,(dp p).1];refine e6 _ _ _ ⟨λn=>?_,λn=>?_⟩
  .have H:∀(s:Bool)(e:ab),s=(Y.Z7&&Y.v.isEmpty)->ah T e->mk h 3 [.b l,.a f.W,.h (f.YK.map .a),.g Y.ZX,.g s] e λw j=>dA (an.WY h) (.W9 i) [w] j λW X=>fS (an.WY h) (.b G) 44 (.g J) X λac=>Q .WK ac:=by
    refineλs e ad r=>Jt o E R S λc j t g x=>?_;have I:=r.WF t;have ae:T c=U:=by
     rcases y:T c with _|as;·rfl
     .rw[r _ _ y]at g;injection g
    rewrite[hU (I _ _ p)];refine⟨by erw[Pt];exact b8 a_ ot kt rfl z D,?_⟩;have K:=F _ c j I ae x rfl;obtain⟨⟨af,k⟩,_⟩:=id K;rewrite[cy _ k];refine⟨⟨rfl,by simp[bZ]⟩,m _ ?_⟩;have y:=cU.Xn (d:=af) (c:=ck Y) K (by unfold ck;erw[d];simp only[n,if_true]) (by unfold ck;erw[d];simp only[n,if_true];erw[ad];rfl);have ag:ci (bZ l Z i {Y with F:=Y.F++[.Yy f.W f.YK Y.ZX s]}) 44 (.g J)=bZ l Z i (ck Y):=by unfold ck;erw[d];simp only[n,if_true];rfl
    erw[ag];exact y
   rcases M:Y.Z7 with _|_;·exact H J T (by erw[M];rfl) (ah.WZ T)
   .erw[t_];refine⟨Pp rfl,λc g=>?_⟩;have ai:Z≠c:=cM C g;rewrite[l' (a:=Z) (l:=c) (((aH _ _ ai).trans C)) (ak _ _ _) (nT _)];erw[nU];exact H _ _ (by erw[M];rfl) (ah.WH _ g)
  .have aj:ck Y={Y with F:=Y.F++[.YG f.W]}:=by unfold ck;erw[d];simp only[n];rfl
   rw[aj]at m;refine M_ o (a:=a) (Q:=λw e=>dA (an.WY h) (.W9 i) [w] e λW j=>Q .WK j) E λc j t g x=>?_;rewrite[hU (t _ _ p)];refine⟨by erw[Pt];exact b8 a_ ot kt rfl z D,?_⟩;exact m _ (F _ c j t g x rfl)
end
variable{Y:aB}
theorem nA(a:aB):(ck a).v=a.v:=by
 unfold ck;split;·rfl
 .split<;>rfl
theorem BQ(a:aB):(ck a).S=a.S:=by
 unfold ck;split;·rfl
 .split<;>rfl
theorem t8{p:Nat}(i:h=a2 an (a+5))(v:cU b l G Z p T Y)(w:∀c,Y.S=O c->oj c)(x:Y.F.length<=aJ)(f:∀q,cU b l G Z p q (c9 Y)->Q .WK q):h 35 [.b G] T Q:=by
 refine a' i (i:=[O (.b G)]) rfl rfl λh i=>?_;simp?[DR];refine Jw i v w x λC d=>?_;obtain⟨⟨y,j⟩,k,⟨D,E,F⟩,H,I,K,M⟩:=id d;simp?[bZ,Pm];refine a5 _ j _ ?_;simp?[bZ,Pm];refine⟨Pp rfl,λr s=>?_⟩;have z:Z≠r:=cM k s;rewrite[l' (a:=Z) (l:=r) (((aH _ _ z).trans k)) (ak _ _ _) (nT _)];erw[nU,nA];simp?[bZ,Pm];erw[gE];have g:=ah.WH (.WE []) s;have d:=d.WG g;refine⟨λc=>?_,λc=>?_⟩
 .rewrite[cy _ (g _ _ j)];refine⟨⟨rfl,by simp[bZ]⟩,?_⟩;have m:c9 Y={ck Y with Yw:=J}:=by
   unfold c9;rcases e:Y.v with _|⟨_,_⟩;·rfl
   .rw[e]at c;injection c
  rw[m]at f;exact f _ (d.Xn (d:=y) (c:={ck Y with Yw:=J}) rfl rfl)
 .rewrite[cH _ (g _ _ j)];rcases e:Y.v with _|⟨t,n⟩;·rw[e]at c;injection c
  .have m:c9 Y={ck Y with S:=O t,v:=n}:=by unfold c9;erw[e];rfl
   rw[m]at f;have u:=d.XR n;have o:=g _ _ k;rw[nA,e]at o;simp? only[bZ,Pm,(dp o).2.1,↓p1 o,Ra,PU,Qj,Sk,S1,Uy];obtain⟨⟨A,B⟩,_⟩:=id u;rewrite[cy _ B];exact⟨⟨rfl,by simp[bZ]⟩,f _ (u.Xn (d:=A) (c:={ck Y with S:=O t,v:=n}) rfl rfl)⟩
noncomputable def dI(a:aB)(c:Bool)(b:dj):aB:=if c then{a with v:=b::a.v}else{a with S:=O b}
noncomputable def c3(a:aB):aB:=match a.S with
|none=>{a with ZX:=L}
|some _=>if a.v.isEmpty then{a with Z7:=L}else a
noncomputable def e4(a:aB)(b:Bool):List Int:=match a.S with|some c=>if b then[]else c.YK|none=>[]
def dG(a:aB)(b d:Bool)(c:Int):aB:=match d,a.v with
|true,_=>dI (c3 a) b ⟨c,e4 a b,L⟩
|false,[]=>dI {c3 a with YD:=256} b ⟨c,e4 a b,L⟩
|false,e::f=>dI {c3 a with v:=f} b ⟨c,e4 a b++e.YK,L⟩
noncomputable def ii:Nat->aB->aB|0,a=>a|k+1,a=>ii k (c9 a)
def i2(b:aB)(a c:Int):aB:=ii (a/4).toNat (dG b (Ps (a/2%2=1)) (Ps (a%2=1)) c)
noncomputable def rq:Nat->aB->Prop|0,_=>True|k+1,a=>(∀b,a.S=O b->oj b)/\a.F.length<=aJ/\rq k (c9 a)
theorem cU.Yr{c:aB}(d:cU b a l G Z T Y)(e:Y=c):cU b a l G Z T c:=e▸d
theorem jM(a:aB):(c3 a).v=a.v:=by
 unfold c3;split;·rfl
 .split<;>rfl
theorem z0(a:aB):(c3 a).F=a.F:=by
 unfold c3;split;·rfl
 .split<;>rfl
theorem z1(a:aB):(c3 a).S=a.S:=by
 unfold c3;split;·rfl
 .split<;>rfl
theorem GB{t:Nat}(K:h=a2 an (a+6)){e:Int}(x:cU b l G Z t T Y)(M:0<=d/\d<=11)(N:rq (d/4).toNat (dG Y (Ps (d/2%2=1)) (Ps (d%2=1)) e))(F:Y.v.length<=1000)(P:(e4 Y (Ps (d/2%2=1))).length<=1000/\∀o∈Y.v,o.YK.length<=1000)(aw:∀j,cU b l G Z t j (i2 Y d e)->Q .WK j):h 36 [.b G,.a d,.a e] T Q:=by
 refine a' K (i:=[O (.b G),O (.a d),O (.a e),U,U,U,U,U,U,U]) rfl rfl λh K=>ba 2 (λp=>∀c H,c=eK Y.S->cU b l G Z t H (c3 Y)->p [O (.b G),O (.a d),O (.a e),O c,U,U,U,U,U,U] H) ?_ λR g=>?_
 .intro c H S k;subst S;generalize A:Ps (d/2%2=1)=f at N P;generalize V:Ps (d%2=1)=q at N;refine ba 2 (λp=>∀c m,c=eK Y.S->m=.h ((e4 Y f).map .a)->p [O (.b G),O (.a d),O (.a e),O c,O (.g f),O (.g q),O m,U,U,U] H) ?_ λR g=>?_
  .intro c m S ax;subst S ax;refine ba 1 (λp=>∀(m:Option aa)(y:aB)(u:List Int) W,cU b l G Z t W y->y.v.length<=1000->dI y f ⟨e,u,L⟩=dG Y f q e->p [O (.b G),O (.a d),O (.a e),O (eK Y.S),O (.g f),O (.g q),O (.h (u.map .a)),m,U,U] W) ?_ λR g=>?_
   .refineλm y u W k ay aj=>ba 2 (λp=>∀X ac,cU b l G Z t ac (dG Y f q e)->p [O (.b G),O (.a d),O (.a e),O (eK Y.S),O (.g f),O (.g q),O (.h (u.map .a)),m,X,U] ac) ?_ λR g=>?_
    .intro X ac k;simp?[aO,aN,j8];refine⟨(aR (.i (a3 aX cj) (a3 cj na)) rfl),⟨QU (show-2^62<=(0:Int) by decide) (UI M.1 (by decide)),V7 (QU (V8 4 M.1) M.2) (by decide)⟩,?_⟩;have az:∀j,cU b l G Z t j (ii (d/4).toNat (dG Y f q e))->Q .WK j:=λj c=>aw j (by unfold i2;erw[A,V];exact c);refine ir (λal p=>∀B am j,cU b l G Z t j B->rq al.length B->ii al.length B=ii (d/4).toNat (dG Y f q e)->p [O (.b G),O (.a d),O (.a e),O (eK Y.S),O (.g f),O (.g q),O (.h (u.map .a)),m,X,am] j) (λaA=>True) (λaA=>True) ?_ ?_ trivial trivial _ _ _ _ k ?_ ?_;·intro am I aU aG _ _ _ B aH j c aI ad;obtain⟨aK,aL,aM⟩:=aI;refine⟨trivial,aY rfl ?_⟩;simp?[];exact t8 K c aK aL λaV aP=>aG _ _ _ aP aM ad
     .refineλB aH j c _ ad=>⟨trivial,?_⟩;simp?[];exact az _ (c.Yr ad)
     .simp only[dq,Pt,S0,UD];exact N
     .simp only[dq,Pt,S0,UD]
    .simp?[aO,aN,j8,aD,aC,aF,aE];refine⟨Pp rfl,e6 _ _ _ ?_⟩;obtain⟨⟨z,n⟩,r,⟨ao,ap,aq⟩,ar,as,au,av⟩:=id k;refine⟨λv=>?_,λv=>?_⟩;·refine a5 _ n _ ?_;simp?[bZ,Pm];refine aY ((dp r).1) ?_;simp?[bZ,Pm];refine mo r _ _ ?_;simp?[bZ,Pm];refine⟨by erw[Pt,Sn];unfold aJ;exact a7 dP dm rfl ay,?_⟩;refine g _ _ ?_;erw[<-aj];unfold dI;erw[v,if_pos rfl];have c:=k.XR (⟨e,u,L⟩::y.v);rw[Ra,PU]at c;exact c
     .refine iX _ n _ _ ?_;simp?[];refine⟨⟨rfl,by simp[bZ]⟩,g _ _ ?_⟩;erw[<-aj];unfold dI;erw[v,if_neg (by decide)];exact k.Xn (d:=z) (c:={y with S:=O ⟨e,u,L⟩}) rfl rfl
   .obtain⟨⟨z,n⟩,r,⟨ao,ap,aq⟩,ar,as,au,av⟩:=id k;simp?[aO,aN,j8,aD,aC,aF,aE];rcases q with _|_
    .simp?[bZ,Pm];refine a5 _ n _ ?_;simp?[bZ,Pm];refine⟨Pp rfl,λC D=>?_⟩;have aQ:Z≠C:=cM r D;have s:=ah.WH (.WE []) D;rewrite[l' (a:=Z) (l:=C) (s _ _ r) (ak _ _ _) (nT _)];erw[nU,jM];simp?[bZ,Pm];erw[gE];have k:=k.WG s;refine⟨λo=>?_,λo=>?_⟩
     .rewrite[cy _ (s _ _ n)];refine⟨⟨rfl,by simp[bZ]⟩,g _ {c3 Y with YD:=256} (e4 Y f) _ (k.Xn (d:=z) (c:={c3 Y with YD:=256}) rfl rfl) (by show(c3 Y).v.length<=_;erw[jM];exact F) ?_⟩;unfold dG;rcases w:Y.v with _|⟨_,_⟩;·rfl
      .rw[w]at o;injection o
     .rewrite[cH _ (s _ _ n)];rcases w:Y.v with _|⟨m,I⟩;·rw[w]at o;injection o
      .have ae:=s _ _ r;rw[jM,w]at ae;have aS:=k.XR I;simp? only[bZ,Pm,(dp ae).2.1,↓p1 ae,Ra,PU,Qj,Sk,S1,Uy,eC,fE];have aT:=P.2 m (by erw[w];exact QS ..);refine⟨by simp only[Pt];unfold aJ;exact cp dP iP sx rfl aT P.1,?_⟩;erw[<-PU];refine g _ {c3 Y with v:=I} (e4 Y f++m.YK) _ aS (by show I.length<=_;rw[w,PL]at F;exact a7 (ai bk gZ) dP rfl F) ?_;unfold dG;erw[w];rfl
    .simp?[];refine g _ (c3 Y) (e4 Y f) _ k (by erw[jM];exact F) ?_;unfold dG;rfl
  .simp? !only[j8];rcases i:Y.S with _|o;·simp?[eK,b1];erw[A,V];exact⟨Pp rfl,g _ _ (by erw[i];rfl) (by unfold e4;erw[i];rfl)⟩
   .simp?[eK,b1,eC,fE];erw[A,V];refine⟨λv=>⟨Pp rfl,g _ _ (by erw[i];rfl) ?_⟩,λv=>g _ _ (by erw[i];rfl) ?_⟩
    .have af:f=L:=by erw[<-A,decide_eq_true v];rfl
     unfold e4;erw[i];simp only[af,if_true,eK,eC,Sk]
    .have af:f=J:=by erw[<-A,decide_eq_false v];rfl
     unfold e4;erw[i,af];rfl
 .obtain⟨⟨z,n⟩,r,⟨ao,ap,aq⟩,ar,as,au,av⟩:=id x;simp?[aO,aN,j8,aD,aC,aF,aE,bZ,Pm];refine a5 _ n _ ?_;simp?[aO,aN,j8,aD,aC,aF,aE,bZ,Pm];simp? only[aO,aN,j8,aD,aC,aF,aE,↓cH _ n,bZ,Pm];rcases i:Y.S with _|o
  .simp?[eK,b1];rewrite[cy _ n];refine⟨⟨rfl,by simp[bZ]⟩,g _ _ (by erw[i];rfl) ?_⟩;have E:c3 Y={Y with ZX:=L}:=by unfold c3;erw[i];rfl
   erw[E];have c:=x.Xn (d:=z) (c:={Y with ZX:=L}) rfl rfl;unfold bZ at c⊢;rw[i]at c⊢;exact c
  .simp?[eK,b1,eC,bZ,Pm];refine⟨Pp rfl,λC D=>?_⟩;have aQ:Z≠C:=cM r D;have s:=ah.WH (.WE []) D;rewrite[l' (a:=Z) (l:=C) (s _ _ r) (ak _ _ _) (nT _)];erw[nU];simp?[eK,b1,eC,bZ,Pm];erw[gE];have x:=x.WG s;refine⟨λag=>?_,λag=>?_⟩
   .rewrite[cy _ (s _ _ n)];refine⟨⟨rfl,by simp[bZ]⟩,g _ _ (by erw[i];rfl) ?_⟩;have E:c3 Y={Y with Z7:=L}:=by unfold c3;erw[i];simp only[ag,if_true]
    erw[E];have c:=x.Xn (d:=z) (c:={Y with Z7:=L}) rfl rfl;exact c
   .refine g _ _ (by erw[i];rfl) ?_;have E:c3 Y=Y:=by unfold c3;erw[i];simp only[ag];rfl
    erw[E];exact x
section
set_option tactic.hygienic true
noncomputable def eA:List Int:=[97,98,99,45]
def iB(a:dj):Prop:=(a.Y'=L/\(1<=a.W/\a.W<=3)/\∀b∈a.YK,b∈eA)\/(a.Y'=J/\a.YK=[a.W]/\a.W∈bn)
def cg:aw->Prop|.YG a=>a∈bn|.Yy a b _ _=>(1<=a/\a<=3)/\∀c∈b,c∈eA|.YP d s=>s=0/\d∈jT|_=>False
noncomputable def et(a:aB):List Int:=match a.S with|some b=>b.YK|none=>[]
def it(a:aB):List Int:=et a++a.v.flatMap dj.YK
structure d4(F:aB):Prop where
 S:∀P,F.S=O P->iB P
 v:∀P∈F.v,iB P
 YD:F.YD=33\/F.YD=256
 F:∀R∈F.F,cg R
noncomputable def bf:List dj->Nat|[]=>0|a::b=>bf b+(if a.Y' then 0 else 1)
noncomputable def qc:Option dj->Bool|none=>L|some a=>!a.Y'
noncomputable def pD(a:aB):Bool:=match a.v with|[]=>L|b::_=>!b.Y'
def mn(a:aB):Bool:=qc a.S&&pD a
noncomputable def qh(a:Bool):Nat:=if a then 1 else 0
def dH(a:aB):Nat:=bf a.v+(if a.YD=256 then 0 else 1)+qh (mn a)
def cG(a:aB):Nat:=if a.Yw then a.v.length+3*dH a+2 else 0
def eh(a:aB):List Int:=a.F.flatMap a0++(if a.Yw then it a else[])
noncomputable def hG(a:aB):Int:=match a.S with|none=>256|some b=>b.W
noncomputable def hx(a:aB):Int:=match a.v with|[]=>a.YD|b::_=>b.W
def kD(d:bp)(a:aB):aB:=match im d (hG a) (hx a)with|none=>c9 a|some (b,c)=>if b=0 then{c9 a with F:=(c9 a).F++[.YP c 0]}else i2 a (b-1) c
noncomputable def e2(b:bp):Nat->aB->aB|0,a=>a|f+1,a=>if a.Yw then e2 b f (kD b a)else a
theorem AY(a:Bool):qh a<=1:=by cases a<;>decide
theorem qt(a:aB):(ck a).YD=a.YD:=by
 unfold ck;split;·rfl
 .split<;>rfl
theorem ux(a:aB):(ck a).Yw=a.Yw:=by
 unfold ck;split;·rfl
 .split<;>rfl
theorem Jx(d:d4 Y):(ck Y).F.flatMap a0=Y.F.flatMap a0++et Y:=by
 unfold ck et;rcases e:Y.S with _|c;·simp
 .have:=d.S c e;rcases b:c.Y' with _|_
  .rcases this with⟨a,_⟩|⟨_,a,_⟩;·rw[b]at a;injection a
   .simp[b,a0,a]
  .simp[b,a0]
theorem BR(d:d4 Y):∀c∈(ck Y).F,cg c:=by
 unfold ck;rcases h:Y.S with _|g;·exact d.F
 .have:=d.S g h;rcases e:g.Y' with _|_
  .rcases this with⟨b,_⟩|⟨_,b,f⟩;·rw[e]at b;injection b
   .intro c a;simp only[e,Sa,if_false,Qh,P_]at a;rcases a with a|rfl;·exact d.F c a
    .exact f
  .rcases this with⟨_,b,f⟩|⟨b,_⟩
   .intro c a;simp only[e,if_true,Qh,P_]at a;rcases a with a|rfl;·exact d.F c a
    .exact⟨b,f⟩
   .rw[e]at b;injection b
theorem Jy(a:aB):(ck a).F.length<=a.F.length+1:=by
 unfold ck;split;·exact b5 (ai ag bk) rfl
 .split<;>simp
theorem l1(a:Y.v=[]):c9 Y={ck Y with Yw:=J}:=by unfold c9;erw[a];rfl
theorem jN{a:dj}{b:List dj}(c:Y.v=a::b):c9 Y={ck Y with S:=O a,v:=b}:=by unfold c9;erw[c];rfl
theorem p6(a:aB):dH (c9 a)<=dH a:=by
 rcases b:a.v with _|⟨c,d⟩
 .erw[l1 b];have:dH {ck a with Yw:=J}=dH a:=by unfold dH mn pD;simp only[nA,BQ,qt]
  erw[this];exact P2 _
 .erw[jN b];unfold dH mn pD;simp only[qt,b,bf,qc];rcases c.Y' with _|_;·simp only[Bool.not_false,TI,Sa,if_false];exact PO (Uf (AY _) _) (Ar.dW [_,_,_] [] (ai mP (.i h7 av)) rfl)
  .simp[qh]
theorem p7(b:d4 Y):d4 (c9 Y):=by
 rcases d:Y.v with _|⟨c,f⟩;·erw[l1 d];exact⟨λc a=>b.S c (by erw[<-BQ Y];exact a),λc a=>b.v c (by erw[<-nA Y];exact a),by show(ck Y).YD=_\/(ck Y).YD=_;erw[qt];exact b.YD,BR b⟩
 .erw[jN d];exact⟨λe a=>by injection a with a;subst a;exact b.v c (by erw[d];exact QS ..),λe a=>b.v e (by erw[d];exact PY _ a),by show(ck Y).YD=_\/(ck Y).YD=_;erw[qt];exact b.YD,BR b⟩
theorem nr(a:aB):(c9 a).F.length<=a.F.length+1:=by
 have:=Jy a;rcases b:a.v with _|⟨c,d⟩;·erw[l1 b];exact this
 .erw[jN b];exact this
theorem G6(a:aB):(c9 a).v.length<=a.v.length:=by
 rcases b:a.v with _|⟨c,d⟩;·erw[l1 b];show(ck a).v.length<=_;erw[nA,b];exact P2 _
 .erw[jN b];simp
theorem G7(b:Y.Yw=L):cG (c9 Y)<cG Y:=by
 have c:=p6 Y;unfold cG;erw[b,if_pos rfl];rcases a:Y.v with _|⟨g,d⟩;·erw[l1 a];simp
 .have e:(c9 Y).Yw=L:=by erw[jN a];show(ck Y).Yw=_;erw[ux,b];rfl
  have f:(c9 Y).v.length=d.length:=by erw[jN a];rfl
  erw[e,if_pos rfl,f,PL];exact bO a_ (a8 wI (.i (.i h8 kp) cD)) rfl c
theorem ns(d:d4 Y)(b:Y.Yw=L):eh (c9 Y)=eh Y:=by
 have c:=Jx d;rcases a:Y.v with _|⟨e,f⟩;·erw[l1 a];unfold eh it;simp only[Sa,if_false,b,if_true,c,a,List.flatMap_nil,P3]
 .erw[jN a];unfold eh it;simp only[ux,b,if_true,c,a,Qt,et,P9]
theorem Ab:∀(k:Nat){b:aB},d4 b->d4 (ii k b)|0,_,a=>a|k+1,_,a=>Ab k (p7 a)
theorem z':∀(k:Nat)(a:aB),dH (ii k a)<=dH a|0,_=>P2 _|k+1,a=>PO (z' k (c9 a)) (p6 a)
theorem z_:∀(k:Nat)(a:aB),(ii k a).v.length<=a.v.length|0,_=>P2 _|k+1,a=>PO (z_ k (c9 a)) (G6 a)
theorem AQ(a:k+3<=1\/k+3<=2/\z):False:=a.elim (λa=>Tj _ (Ue a)) λa=>Tj _ (Ue (Ue a.1))
theorem Aa:∀(k:Nat)(a:aB),(ii k a).F.length<=a.F.length+k|0,_=>P2 _|k+1,a=>by exact PO (Aa k (c9 a)) (PO (Si (nr a) k) (QW (Vu _ 1 k)))
theorem z8(b:Y.v≠[]):(c9 Y).Yw=Y.Yw:=by
 rcases a:Y.v with _|⟨c,d⟩;·exact absurd a b
 .erw[jN a];exact ux Y
theorem G8(b:d4 Y)(c:Y.Yw=L)(a:k<=1\/(k<=2/\Y.v≠[])):eh (ii k Y)=eh Y:=by match k,a with
 |0,_=>rfl
 |1,_=>exact ns b c
 |2,a=>
  have d:Y.v≠[]:=by
   rcases a with a|a;·exact(Ar.dC [] [] (ai cD aG) .K rfl a).elim
   .exact a.2
  show eh (c9 (c9 Y))=_;erw[ns (p7 b) (by rw[z8 d];exact c),ns b c];rfl
 |k+3,a=>exact(AQ a).elim
theorem GU(a b c):(dI a b c).F=a.F:=by unfold dI;split<;>rfl
theorem GV(a b c):(dI a b c).Yw=a.Yw:=by unfold dI;split<;>rfl
theorem z2(a:aB):(c3 a).YD=a.YD:=by
 unfold c3;split;·rfl
 .split<;>rfl
theorem GJ(a:aB):(c3 a).Yw=a.Yw:=by
 unfold c3;split;·rfl
 .split<;>rfl
theorem pY(a b c d):(dG a b c d).F=a.F:=by unfold dG;split<;>erw[GU]<;>exact z0 a
theorem t5(a b c d):(dG a b c d).Yw=a.Yw:=by unfold dG;split<;>erw[GV]<;>exact GJ a
theorem GD(a d e f):(dG a d e f).v.length<=a.v.length+1:=by
 have b:=jM a;unfold dG;split;·unfold dI;split<;>simp[b]
 .rename_i c;unfold dI;split<;>simp[b]
 .rename_i c;unfold dI;split<;>simp[c]<;>(exact b5 (ai ag (.i bk aG)) rfl)
theorem zU(a b c):(dG a L b c).v≠[]:=by unfold dG dI;split<;>simp
theorem zW(f a g h):it (dG f a g h)=it f:=by
 have c:=jM f;have d:=z1 f;unfold dG it e4;rcases e:f.S with _|i
 .split;·cases a<;>simp[dI,et,c,d,e]
  .rename_i b;cases a<;>simp[dI,et,c,d,e,b]
  .rename_i b;cases a<;>simp[dI,et,c,d,e,b]
 .split;·cases a<;>simp[dI,et,c,d,e]
  .rename_i b;cases a<;>simp[dI,et,c,d,e,b]
  .rename_i b;cases a<;>simp[dI,et,c,d,e,b]
def v_(a:aB):Prop:=qc a.S=L/\match a.v with|[]=>a.YD≠256|b::_=>b.Y'=J
theorem t7(a:aB)(b c d):dH (dI a b ⟨c,d,L⟩)=bf a.v+(if a.YD=256 then 0 else 1):=by cases b with|false=>rfl|true=>show bf a.v+0+(if a.YD=256 then 0 else 1)+qh (qc a.S&&J)=_;rw[Ww];rfl
theorem GC(k:v_ Y)(b i e):dH (dG Y b i e)+1<=dH Y:=by
 have h:=jM Y;have j:=z2 Y;obtain⟨l,a⟩:=k;have d:dH Y=bf Y.v+(if Y.YD=256 then 0 else 1)+1:=by
  have m:mn Y=L:=by
   unfold mn pD;rw[l];rcases f:Y.v with _|⟨c,g⟩;·rfl
   .rw[f]at a;have a:c.Y'=J:=a;show(!c.Y')=L;rw[a];rfl
  unfold dH;rw[m];rfl
 unfold dG;cases i with
 |true=>show dH (dI (c3 Y) b ⟨e,e4 Y b,L⟩)+1<=dH Y;rw[t7,h,j,d];exact P2 _
 |false=>
  rcases f:Y.v with _|⟨c,g⟩;·rw[f]at a d h;have a:¬Y.YD=256:=a;show dH (dI {c3 Y with YD:=256} b ⟨e,e4 Y b,L⟩)+1<=dH Y;rw[t7,d,if_neg a];show bf (c3 Y).v+0+1<=_;rw[h];decide
  .rw[f]at a d;have a:c.Y'=J:=a;show dH (dI {c3 Y with v:=g} b ⟨e,e4 Y b++c.YK,L⟩)+1<=dH Y;rw[t7,d];show bf g+(if(c3 Y).YD=256 then 0 else 1)+1<=bf g+(if c.Y'=L then 0 else 1)+(if Y.YD=256 then 0 else 1)+1;rw[j,a];exact b4 (ai mP (.i h7 aG)) rfl
theorem zV(h:d4 Y)(q:1<=d/\d<=3)(r:∀a∈et Y,a∈eA)(s:∀e k,Y.v=e::k->∀a∈e.YK,a∈eA)(i t):d4 (dG Y i t d):=by
 have u:=jM Y;have v:=z1 Y;have w:=z2 Y;have x:=z0 Y;have l:∀a∈e4 Y i,a∈eA:=by
  unfold e4;rcases y:Y.S with _|e;·intro a b;cases b
  .rcases i with _|_;·exactλa b=>r a (by unfold et;erw[y];exact b)
   .intro a b;cases b
 have m:∀(n:aB)(j:List Int),d4 n->(∀a∈j,a∈eA)->d4 (dI n i ⟨d,j,L⟩):=by
  intro n j f z;have o:iB ⟨d,j,L⟩:=.inl ⟨rfl,q,z⟩;unfold dI;split
  .refine⟨f.S,λe c=>?_,f.YD,f.F⟩;rcases PM.mp c with rfl|c;·exact o
   .exact f.v e c
  .exact⟨λe c=>by injection c with c;subst c;exact o,f.v,f.YD,f.F⟩
 have g:d4 (c3 Y):=⟨by erw[v];exact h.S,by erw[u];exact h.v,by erw[w];exact h.YD,by erw[x];exact h.F⟩;unfold dG;split;·exact m _ _ g l
 .exact m _ _ ⟨g.S,g.v,.inr rfl,g.F⟩ l
 .rename_i e k p;refine m _ _ ⟨g.S,λA c=>h.v A (by erw[p];exact PY _ c),g.YD,g.F⟩ λa b=>?_;rcases Qh.mp b with b|b;·exact l a b
  .exact s e k p a b
theorem yX{e f:Int}:∀{i:List d5},(∀c∈i,mu c)->kG i d=O (e,f)->d∈ig/\((e=0/\f∈jT)\/(e≠0/\e-1∈fz/\1<=f/\f<=3))
|[],_,a=>by cases a
|c::i,l,a=>by
 unfold kG at a;have p:=l c (QS ..);split at a
 .rename_i m;rcases p with⟨_,g,n⟩|⟨g,_⟩
  .rw[m.1]at g;refine⟨g,?_⟩;split at a
   .rename_i j;rcases n with⟨b,h,o⟩|⟨b,_⟩;·cases a;refine .inl ⟨rfl,?_⟩;erw[b];have:c.YC=0\/c.YC=1\/c.YC=2:=(bx bl h3 wM rfl h o);rcases this with k|k|k<;>erw[k]<;>decide
    .simp only[fz,PM,P0,or_false]at b;exact(bx kd mG .K rfl j b).elim
   .rename_i j;rcases n with⟨b,h,o⟩|⟨b,h⟩;·exact(bx kf (.w kd) .K rfl b j).elim
    .cases a;refine .inr ⟨?_,by erw[Int.add_sub_cancel];exact b,h⟩;simp only[fz,PM,P0,or_false]at b;exact bg mG (.w (aT bk aX)) rfl b
  .exact(bx iE kc .K rfl g m.2).elim
 .split at a;·exact yX (λc q=>l c (PY _ q)) a
  .cases a
theorem ur(g:d6 E){a b c:Int}(e:im E d a=O (b,c)):d∈kU/\a∈ig/\((b=0/\c∈jT)\/(b≠0/\b-1∈fz/\1<=c/\c<=3)):=by
 unfold im at e;split at e;·injection e
 .rename_i h;have:=yX (λa i=>g.Zi a (QR i)) e;refine⟨?_,this⟩;rcases g.YL d with f|⟨f,_⟩;·exact(ex (aT ag lL) wN .K rfl f h).elim
  .exact f
theorem iB.X8{a:dj}(g:iB a)(b:a.W∈kU):a.Y'=J/\∀d∈a.YK,d∈eA:=by
 rcases g with⟨_,c,_⟩|⟨c,h,e⟩;·simp only[kU,PM,P0,or_false]at b;exact(bx eo rM .K rfl c.2 b).elim
 .refine⟨c,?_⟩;erw[h];intro d f;rw[P_]at f;subst f;simp only[kU,bn,eA,PM,P0,or_false]at b e⊢;exact bx rM mF rQ rfl b e
theorem iB.X1{a:dj}(g:iB a)(b:a.W∈ig):a.Y'=J/\∀d∈a.YK,d∈eA:=by
 rcases g with⟨_,c,_⟩|⟨c,h,e⟩;·simp only[ig,PM,P0,or_false]at b;exact(bx eo oB .K rfl c.2 b).elim
 .refine⟨c,?_⟩;erw[h];intro d f;rw[P_]at f;subst f;simp only[ig,bn,eA,PM,P0,or_false]at b e⊢;exact bx oB mF rQ rfl b e
theorem Bj(i:d6 E)(f:d4 Y){j:Int}(a:im E (hG Y) (hx Y)=O (d,j)):v_ Y/\(∀g∈et Y,g∈eA)/\(∀a h,Y.v=a::h->∀g∈a.YK,g∈eA):=by
 refine cc (ur i a) λe c m=>⟨⟨?_,?_⟩,?_,?_⟩
 .unfold hG at e;rcases b:Y.S with _|a;·rfl
  .rw[b]at e;show(!a.Y')=L;erw[((f.S a b).X8 e).1];rfl
 .unfold hx at c;rcases b:Y.v with _|⟨a,h⟩;·rw[b]at c;intro k;have c:Y.YD∈ig:=c;rw[k]at c;revert c;decide
  .rw[b]at c;exact((f.v a (by erw[b];exact QS ..)).X1 c).1
 .unfold hG at e;unfold et;rcases b:Y.S with _|a;·intro g l;cases l
  .rw[b]at e;exact((f.S a b).X8 e).2
 .intro a h b;unfold hx at c;rw[b]at c;exact((f.v a (by erw[b];exact QS ..)).X1 c).2
theorem BX(a:d∈fz):(0<=d/\d<=11)/\(d/4).toNat<=2/\((d/4).toNat<=1\/Ps (d/2%2=1)=L):=by simp only[fz,PM,P0,or_false]at a;rcases a with rfl|rfl|rfl|rfl|rfl|rfl|rfl|rfl<;>decide
structure v5(P F:aB):Prop where
 z?:d4 F
 p?:Mine.Spec.cG F<Mine.Spec.cG P
 Zw:eh F=eh P
 WJ:F.F.length<=P.F.length+2
theorem zX(m:d4 Y)(e:Y.Yw=L){a:Int}(n:d∈fz)(o:1<=a/\a<=3)(p:v_ Y)(q:∀c∈et Y,c∈eA)(r:∀f s,Y.v=f::s->∀c∈f.YK,c∈eA):v5 Y (i2 Y d a)/\dH (i2 Y d a)+1<=dH Y:=by
 refine cc (BX n) λw g b=>?_;have h:=zV m o q r (Ps (d/2%2=1)) (Ps (d%2=1));have i:=t5 Y (Ps (d/2%2=1)) (Ps (d%2=1)) a;have j:=GC p (Ps (d/2%2=1)) (Ps (d%2=1)) a;have t:=GD Y (Ps (d/2%2=1)) (Ps (d%2=1)) a;have k:=z' (d/4).toNat (dG Y (Ps (d/2%2=1)) (Ps (d%2=1)) a);have u:=z_ (d/4).toNat (dG Y (Ps (d/2%2=1)) (Ps (d%2=1)) a);have l:=Aa (d/4).toNat (dG Y (Ps (d/2%2=1)) (Ps (d%2=1)) a);have v:=pY Y (Ps (d/2%2=1)) (Ps (d%2=1)) a;refine⟨⟨Ab _ h,?_,?_,?_⟩,?_⟩
 .unfold cG;erw[e,if_pos rfl];split;·unfold i2;exact Ar.d3 [_,_,_,_,_,_] [] a_ sZ (ai cv cR) (ai bj (.i fs aG)) (a8 wI (.i (.i fs (.G 3 cR)) cD)) rfl k u j t
  .exact b4 (a8 aX oI) rfl
 .unfold i2;rewrite[G8 h (by rw[i];exact e)];·unfold eh;erw[pY,i,zW];rfl
  .rcases b with b|b;·exact .inl b
   .exact .inr ⟨g,by erw[b];exact zU _ _ _⟩
 .unfold i2;rw[v]at l;exact Ar.cT [_,_] [_] (ai fN cD) (ai ag (.i ap fN)) sv rfl g l
 .unfold i2;exact b8 a_ (ai cv av) (ai bk av) rfl k j
theorem ts(g:d6 E)(b:d4 Y)(d:Y.Yw=L):v5 Y (kD E Y):=by
 unfold kD;have h:v5 Y (c9 Y):=⟨p7 b,G7 d,ns b d,by have:=nr Y;exact aQ iL sv rfl this⟩;rcases i:im E (hG Y) (hx Y)with _|j;·exact h
 .obtain⟨t,u⟩:=j;refine cc (ur g i) λk k l=>cc (Bj g b i) λm n o=>?_;dsimp only;rcases l with⟨e,f⟩|⟨e,f,p⟩
  .erw[if_pos e];obtain⟨c,q,r,v⟩:=h;refine⟨⟨c.S,c.v,c.YD,λs a=>?_⟩,q,?_,?_⟩
   .rcases Qh.mp a with a|a;·exact c.F s a
    .rw[P_]at a;subst a;exact⟨rfl,f⟩
   .erw[<-r];unfold eh;simp[a0,it,et]
   .have:=nr Y;simp only[PC,SZ];exact aQ iL (ai bk g0) rfl this
  .erw[if_neg e];exact(zX b d f p m n o).1
theorem tR(k:Nat)(a:Y.Yw=J):e2 E k Y=Y:=by
 rcases k with _|k;·rfl
 .unfold e2;erw[a];rfl
theorem tS(f:d6 E):∀(k c:Nat){a:aB},d4 a->cG a<=k->cG a<=c->e2 E k a=e2 E c a
|0,c,a,e,b,_=>by
 have:a.Yw=J:=by cases d:a.Yw with|false=>rfl|true=>unfold cG at b;rw[d,if_pos rfl]at b;exact(aQ rR .K rfl b).elim
 erw[tR c this];rfl
|k+1,0,a,e,_,b=>by
 have:a.Yw=J:=by cases d:a.Yw with|false=>rfl|true=>unfold cG at b;rw[d,if_pos rfl]at b;exact(aQ rR .K rfl b).elim
 erw[tR _ this];rfl
|k+1,c+1,a,e,b,g=>by unfold e2;cases d:a.Yw with|false=>rfl|true=>have s:=ts f e d;erw[if_pos rfl,if_pos rfl];have:=s.p?;exact tS f k c s.z? (b8 iL (a8 av ag) kt rfl b this) (b8 bA o8 kv rfl this g)
theorem zn(e:d6 E):∀(k:Nat){a:aB},d4 a->cG a<=k->d4 (e2 E k a)/\(e2 E k a).Yw=J/\eh (e2 E k a)=eh a/\(e2 E k a).F.length<=a.F.length+2*cG a
|0,a,d,b=>by refine⟨d,?_,rfl,by show a.F.length<=_;exact b4 wR rfl⟩;cases c:a.Yw with|false=>show a.Yw=J;exact c|true=>unfold cG at b;rw[c,if_pos rfl]at b;exact(aQ rR .K rfl b).elim
|k+1,a,d,b=>by unfold e2;cases c:a.Yw with|false=>exact⟨d,c,rfl,by show a.F.length<=_;exact b4 wR rfl⟩|true=>have s:=ts e d c;erw[if_pos rfl];have f:=s.p?;obtain⟨g,h,i,j⟩:=zn e k s.z? (b8 bA o8 kv rfl f b);exact⟨g,h,i.trans s.Zw,by have:=s.WJ;exact Ar.dc [_,_,_,_,_] [] bA (ai av (.i bj (.G 2 ag))) (ai bj (.i cR cD)) (ai av (.i cR mZ)) rfl f j this⟩
end
noncomputable def e'(b:List Int):List dj:=b.map λa=>⟨a,[a],J⟩
def c'(b:Bool)(a:List Int):aB:=if b then⟨U,e' a,33,[],J,J,L⟩else⟨(e' a).head?,(e' a).tail,33,[],J,J,L⟩
def ch(a:bp)(b:List Int):List aw:=if b=[]then[]else(e2 a (cG (c' (Ps (0<=a.YL 256)) b)) (c' (Ps (0<=a.YL 256)) b)).F
theorem E3(P:h=a2 an (a+1))(E:b G=O (.WE (e.map .a)))(af:e≠[])(ag:e.length<=1000)(ai:∀c d m R,cU b l c d m R (c' A e)->Q (.b c) R):mk h 11 [.b l,.b G,.g A,.a 33] b Q:=by
 refineλc w x aw ax=>a' P (i:=[O (.b c),O (.b l),O (.b G),O (.g A),O (.a 33),U]) rfl rfl λh P=>?_;have aj:G≠c:=by rintro rfl;rw[x]at E;injection E
 refine ba 2 (λF=>∀d n,c≠d->n c=O (.WO 11 w [(23,.b l),(40,.b d)])->n d=O (.WE ((e' e).reverse.map eC))->ah b (ao [c,d] n)->F [O (.b c),O (.b l),O (.b G),O (.g A),O (.a 33),U] n) ?_ λal y=>?_
 .rintro d n o z S T;refine ba 1 (λF=>∀q,q c=O (.WO 11 w [(23,.b l),(40,.b d),(41,eK (c' A e).S)])->q d=O (.WE ((c' A e).v.reverse.map eC))->ah b (ao [c,d] q)->F [O (.b c),O (.b l),O (.b G),O (.g A),O (.a 33),U] q) ?_ λal y=>?_
  .rintro q ap V aq;simp?[aO,aN,rg];rewrite[cy _ ap];refine⟨⟨rfl,Pp rfl⟩,Pp rfl,λm H=>?_⟩;have I:c≠m:=fx H;have W:d≠m:=cM ((aH _ _ (PB o)).trans V) H;have K:∀f,am (am q c f) m (.WE []) c=O f:=λf=>by exact((aH _ _ I).trans (ak _ _ _))
   refine nl (K _) rfl (Pp rfl) ?_;simp? only[];refine cK rfl (Pp rfl) ?_;simp? only[];refine cK rfl (Pp rfl) ?_;simp? only[];refine cK rfl (Pp rfl) (ai c d m _ ⟨⟨w,?_⟩,?_,⟨o,I,W⟩,λp f i=>?_,[],?_,?_⟩)
   .erw[ak];have j:(c' A e).YD=33/\(c' A e).ZX=J/\(c' A e).Z7=J/\(c' A e).Yw=L:=by unfold c';split<;>exact⟨rfl,rfl,rfl,rfl⟩
    unfold bZ;erw[j.1,j.2.1,j.2.2.1,j.2.2.2];rfl
   .exact((aH _ _ (PB o)).trans ((aH _ _ W).trans ((aH _ _ (PB o)).trans V)))
   .have s:=aq p f i;have g:p∉[c,d]:=λk=>by rw[ao.WK k]at s;injection s
    rw[ao.W0 g]at s;simp only[PM,P0,or_false,not_or]at g;have X:p≠m:=cM ((aH _ _ g.1).trans s) H;erw[ao.W0 (by simp only[PM,P0,or_false,not_or];exact⟨g.1,g.2,X⟩),aH _ _ g.1,aH _ _ X,aH _ _ g.1];exact s
   .erw[aH _ _ (PB I),ak];rfl
   .have j:(c' A e).F=[]:=by unfold c';split<;>rfl
    erw[j];trivial
  .simp?[aO,aN,rg,aD,aC,aF,aE];rcases A with _|_
   .rcases e with _|⟨B,t⟩;·exact absurd rfl af
    .have C:n d=O (.WE ((e' t).reverse.map eC++[eC ⟨B,[B],J⟩])):=by erw[S];show O (ca.WE ((⟨B,[B],J⟩::e' t).reverse.map eC))=_;erw[Ra,PU];rfl
     simp?[Pm];refine a5 _ z _ ?_;simp?[Pm];refine aY ((dp C).2.1) ?_;simp?[Pm];refine GP C _ ?_;simp?[Pm];refine aY S1 ?_;simp? only[↓cH _ z,Pm,(dp C).2.1,↓p1 C,S1,Uy];have ar:∀f,am n d f c=O (.WO 11 w [(23,.b l),(40,.b d)]):=λf=>by exact((aH _ _ o).trans z)
     rewrite[cy _ (ar _)];refine⟨⟨rfl,Pp rfl⟩,y _ ?_ ?_ ?_⟩;·erw[ak];simp[ci,g',c',e',eK]
     .erw[aH _ _ (PB o),ak];simp[c',e']
     .erw[ao.WS _ (by simp),ao.WS _ (by simp)];exact T
   .simp?[];rewrite[cy _ z];refine⟨⟨rfl,Pp rfl⟩,y _ ?_ ?_ ?_⟩;·erw[ak];simp[ci,g',c',eK]
    .exact((aH _ _ (PB o)).trans S)
    .erw[ao.WS _ (by simp)];exact T
 .simp? only[aO,aN,rg,aD,aC,aF,aE];refine cK rfl (Pp rfl) ?_;have as:∀f,am b c f G=O (.WE (e.map .a)):=λf=>by exact((aH _ _ aj).trans E)
  simp?[];refine Go (as _) _ ?_;simp?[];intro r Y;have Z:c≠r:=fx Y;have j:∀f u,am (am b c f) r (.WE u) r=O (.WE u):=λv v=>ak _ _ _;simp? only[↓cE (j _ _)];refine⟨by erw[Sn,Pt];unfold aJ;exact a7 dP dm rfl ag,?_⟩;refine jZ (k:=.x r _) (λv=>L) (λD=>.h [D,.h [D],.g J]) (j _ _) (λD au av M=>M) (λD au v av M=>?_) ?_;·exact⟨Pp rfl,Pp rfl,M⟩
  .intro d ac;have N:c≠d:=by exact cM ((aH _ _ Z).trans (ak _ _ _)) ac
   have K:∀f u t,am (am (am b c f) r u) d t c=O f:=λf u t=>by exact((aH _ _ N).trans ((aH _ _ Z).trans (ak _ _ _)))
   simp?[];rewrite[cy _ (K _ _ _)];refine⟨⟨rfl,by simp[ci]⟩,y d _ N ?_ ?_ (λp f i=>?_)⟩;·erw[ak];rfl
   .erw[aH _ _ (PB N),ak];congr 2;unfold e';erw[RM.mpr (λv v=>rfl),<-R0,<-R0,QX,QX];rfl
   .have g:p≠c:=by first|exact cM x i|exact hC i x|rintro rfl;rw[x]at i;injection i
    have ad:p≠r:=cM ((aH _ _ g).trans i) Y;have ae:p≠d:=cM ((aH _ _ ad).trans ((aH _ _ g).trans i)) ac;erw[ao.W0 (by simp only[PM,P0,or_false,not_or];exact⟨g,ae⟩),aH _ _ g,aH _ _ ae,aH _ _ ad,aH _ _ g];exact i
theorem Fw{c:dj}{b:List dj}(a:c∈b):c.YK.length<=(b.flatMap dj.YK).length:=by induction b with
 |nil=>cases a
 |cons e xs d=>
  erw[Qt,PC];rcases PM.mp a with rfl|a;·exact b4 sw rfl
  .have:=d a;exact bO a_ (ai ag (.i av ap)) rfl this
theorem iB.WP{e:dj}(h:iB e)(f:e.YK.length<=100):oj e:=by
 have i:∀a∈eA,0<=a/\a<=255:=by decide
 have g:∀a∈bn,0<=a/\a<=255:=by decide
 rcases h with⟨_,b,c⟩|⟨_,b,c⟩;·exact⟨(bx eo bL gv rfl b.2 b.1),λa d=>i a (c a d),f⟩
 .exact⟨g _ c,λa d=>by rw[b,P_]at d;erw[d];exact g _ c,f⟩
theorem z9:∀(k:Nat){a:aB},d4 a->a.Yw=L->(eh a).length<=100->a.F.length+k<=aJ->(k<=1\/(k<=2/\a.v≠[]))->rq k a
|0,_,_,_,_,_,_=>trivial
|k+1,a,d,e,b,g,c=>by
 have f:(et a).length<=100:=by unfold eh it at b;rw[e,if_pos rfl,PC,PC]at b;exact bO (ai lA c7) s2 rfl b
 refine⟨λi h=>(d.S i h).WP (by unfold et at f;rw[h]at f;exact f),(bO (ai iI av) kv rfl g),?_⟩;match k,c with
 |0,_=>trivial
 |1,c=>
  have j:a.v≠[]:=by
   rcases c with b|b;·exact(Ar.dC [] [] (ai (.i aG aG) aG) .K rfl b).elim
   .exact b.2
  exact z9 1 (p7 d) (by erw[z8 j];exact e) (by erw[ns d e];exact b) (by have:=nr a;exact b8 iL (ai (.i ap (.i aG aG)) av) (ai bk av) rfl this g) (.inl (P2 1))
 |k+2,c=>exact(AQ c).elim
theorem CJ(q:∀a∈e,a∈bn)(r:e≠[]):d4 (c' A e)/\dH (c' A e)<=e.length+2/\(c' A e).v.length<=e.length/\(c' A e).F=[]/\(c' A e).Yw=L/\eh (c' A e)=e:=by
 have i:∀b∈e' e,iB b:=by intro b c;refine az (P'.mp c) λa s t=>?_;obtain rfl:=t;exact .inr ⟨rfl,rfl,q a s⟩
 have u:∀d:List dj,bf d<=d.length:=by intro d;induction d with|nil=>exact P2 0|cons b f g=>unfold bf;split<;>simp<;>(first|exact aQ a_ iL rfl g|exact g)
 have k:(e' e).length=e.length:=by unfold e';exact Pt _
 have l:∀h:List Int,(e' h).flatMap dj.YK=h:=by intro h;induction h with|nil=>rfl|cons a f g=>show[a]++(e' f).flatMap dj.YK=_;erw[g];rfl
 have m:=u (c' A e).v;have n:=AY (mn (c' A e));have j:(c' A e).v.length<=e.length:=by
  cases A;·show(e' e).tail.length<=_;erw[List.length_tail];exact aQ bX (ai f6 ap) rfl k
  .show(e' e).length<=_;exact aQ bX a_ rfl k
 have o:(c' A e).Yw=L:=by cases A<;>rfl
 have p:(c' A e).F=[]:=by cases A<;>rfl
 refine⟨?_,?_,j,p,o,?_⟩
 .cases A;·exact⟨λb c=>i b (List.mem_of_mem_head? c),λb c=>i b (List.mem_of_mem_tail c),.inl rfl,fU⟩
  .exact⟨λw v=>aU v,i,.inl rfl,fU⟩
 .unfold dH;split<;>(first|exact f1 a_ m5 (ai bj aG) (ai (.i (.i av aX) bj) g0) rfl j m n|exact f1 a_ m5 (ai bj aG) (ai (.i h8 bj) g0) rfl j m n)
 .unfold eh it;erw[p,o,if_pos rfl];cases A
  .rcases e with _|⟨a,f⟩;·exact absurd rfl r
   .show[]++([a]++(e' f).flatMap dj.YK)=_;erw[l];rfl
  .show[]++([]++(e' e).flatMap dj.YK)=_;erw[l];rfl
theorem eI(g:d6 E)(h:∀b∈e,b∈bn):(ch E e).flatMap a0=e/\(∀i∈ch E e,cg i)/\(ch E e).length<=8*e.length+16:=by
 unfold ch;split;·rename_i c;subst c;exact⟨rfl,fU,Pp rfl⟩
 .rename_i c;refine wg (CJ (A:=Ps (0<=E.YL 256)) h c) λj k b l m f=>ry (zn g _ j (P2 _)) λn o a d=>⟨?_,n.F,?_⟩;·rw[f]at a;unfold eh at a;rw[o]at a;simpa using a
  .rw[l]at d;have:cG (c' (Ps (0<=E.YL 256)) e)<=4*e.length+8:=by unfold cG;erw[m,if_pos rfl];exact b8 a_ (ai av g0) wA rfl b k
   simp only[P6]at d;exact b8 (ai ag (.i aX mZ)) (ai ap xa) (ai ag se) rfl d this
theorem zR(xs:List aa)(a:aa):bQ (xs++[a]) (-1)=O a:=by
 unfold bQ;erw[if_neg (aR wO rfl),if_pos (by simp;exact b5 (aq aG fL) rfl)];have:((-1:Int)+((xs++[a]).length:Int)).toNat=xs.length:=by simp;exact b5 (a9 (.YR (.i lL fL)) ag) rfl
 erw[this];simp
theorem JM(a:d=1000\/d=-700\/d=333):-1073741823<=d/\d<=1073741823:=by rcases a with rfl|rfl|rfl<;>decide
theorem E2(v:h=a2 an (a+7))(bu:cV b l E)(M:d6 E)(ay:b G=O (.WE (e.map .a)))(bv:∀A∈e,A∈bn)(V:e.length<=100)(B:∀f C aW,ah b C->b f=U->C f=O (.WE (aW.map .b))->bd l C aW (ch E e)->Q (.b f) C):h 37 [.b l,.b G,.g L,.a 33] b Q:=by
 refine a' v (i:=[O (.b l),O (.b G),O (.g L),O (.a 33),U,U,U,U,U]) rfl rfl λh v=>ba 1 (λm=>∀F,ah b F->e≠[]->m [O (.b l),O (.b G),O (.g L),O (.a 33),U,U,U,U,U] F) ?_ λaf i=>?_
 .rintro F W aj;have az:=bu.WG W;refine O6 (id az) λaA bT bV al bW n bY=>?_;have H:ch E e=(e2 E (cG (c' (Ps (0<=E.YL 256)) e)) (c' (Ps (0<=E.YL 256)) e)).F:=by unfold ch;erw[if_neg aj];rfl
  have aX:=CJ (A:=Ps (0<=E.YL 256)) bv aj;rw[H]at B;generalize bw:c' (Ps (0<=E.YL 256)) e=r at B aX;refine wg aX λD aZ bx bz bB am=>ba 2 (λm=>∀f w s I,cU F l f w s I r->m [O (.b l),O (.b G),O (.g L),O (.a 33),O (.b f),O (.a (20*((e.length:Int)+1))),U,U,U] I) ?_ λaf i=>?_
  .rintro f w s I j;simp?[aO,aN,mh];erw[hb];have a0:cG r<=4*e.length+8:=by unfold cG;erw[bB,if_pos rfl];exact b8 a_ (ai av g0) wA rfl bx aZ
   refine⟨cG r+1,hs (λa1 m=>∀(c:aB)(x:Int)(y t o:Option aa) b,cU F l f w s b c->d4 c->eh c=e->a1=cG c->(dH c:Int)<=x->e2 E (cG c) c=e2 E (cG r) r->c.F.length+2*cG c<=2*cG r->m [O (.b l),O (.b G),O (.g L),O (.a 33),O (.b f),O (.a x),y,t,o] b) (λm=>∀(x:Int)(y t o:Option aa) b,cU F l f w s b (e2 E (cG r) r)->m [O (.b l),O (.b G),O (.g L),O (.a 33),O (.b f),O (.a x),y,t,o] b) (λar=>True) ?_ ?_ trivial _ (cG r) (b5 sl rfl) r _ _ _ _ _ j D am rfl (aQ sv (aq bm (.G 20 lB)) rfl aZ) rfl (by erw[bz];simp)⟩
   .intro a3 b0 b2 bC _ a1 bD c x y t o N j D am bE as a4 aG;obtain⟨⟨aA,n⟩,X,⟨a9,bb,bc⟩,Y,aH,aI,aK⟩:=id j;simp?[bZ,Pm];refine a5 _ n _ ?_;simp?[bZ,Pm];refine qw (λz=>?_) λz=>bC _ _ _ _ _ ?_
    .have K:=ts M D z;have au:(eh c).length<=100:=by erw[am];exact V
     have aL:(et c).length<=100/\(c.v.flatMap dj.YK).length<=100:=by unfold eh it at au;rw[z,if_pos rfl,PC,PC]at au;exact bO (ai lA c7) (.i s2 pp) rfl au
     have be:∀d,c.S=O d->oj d:=λd P=>(D.S d P).WP (by have:=aL.1;unfold et at this;rw[P]at this;exact this);have b3:2<=cG c:=by unfold cG;erw[z,if_pos rfl];exact b4 (ai cD oI) rfl
     have aw:c.F.length+4<=aJ:=by unfold aJ;exact f1 eG (ai ap (.i (.G 4 ag) gu)) (ai (.i av (.G 2 bj)) mZ) (ai (.i av cj) cP) rfl V a0 aG
     have p:∀(C:ab)(ax:Int)(y t o:Option aa),cU F l f w s C (kD E c)->(dH (kD E c):Int)<=ax->a3 [O (.b l),O (.b G),O (.g L),O (.a 33),O (.b f),O (.a ax),y,t,o] C:=by
      refineλC ax y t o u bF=>bD _ (by erw[bE];exact K.p?) _ ax y t o _ u K.z? (K.Zw.trans am) rfl bF ?_ ?_
      .have aM:e2 E (cG c) c=e2 E (cG c-1) (kD E c):=by erw[tS M (cG c) (cG c-1+1) D (P2 _) (b5 (ai ag oV) rfl)];show(if c.Yw=L then _ else _)=_;erw[z,if_pos rfl];rfl
       erw[<-a4,aM];exact tS M _ _ K.z? (P2 _) (by have:=K.p?;exact aQ bA ss rfl this)
      .exact PO (Si K.WJ _) (PO (PO (QW (Vv _ 2 _)) (Uf (PO (QW (Ug 2 _)) (Vq 2 K.p?)) _)) aG)
     refine ba 1 (λm=>m [O (.b l),O (.b G),O (.g L),O (.a 33),O (.b f),O (.a x),O (.a (hG c)),t,o] N) ?_ λaf i=>?_
     .refine ba 1 (λm=>∀R,ah N R->m [O (.b l),O (.b G),O (.g L),O (.a 33),O (.b f),O (.a x),O (.a (hG c)),O (.a (hx c)),o] R) ?_ λaf i=>?_
      .intro R bf;have j:=j.WG bf;have bG:cV R l E:=az.WG ((Y.WF (ao.WV _ _)).WF bf);simp?[aO,aN];refine Jd v (a:=a+4) bG M ?_;unfold kD at p;obtain⟨⟨aA,n⟩,X,⟨a9,bb,bc⟩,Y,aH,aI,aK⟩:=id j;rcases d:im E (hG c) (hx c)with _|bH;·rw[d]at p;dsimp only at p;simp?[qn,b1];exact t8 v (a:=a+1) j be (aQ sy a_ rfl aw) λS u=>p S _ _ _ _ u (by have:=p6 c;exact Ar.cT [_,_] [_] a_ (aq cS ag) mV rfl this as)
       .obtain⟨al,A⟩:=bH;rw[d]at p;refine cc (ur M d) λar ar g=>cc (Bj M D d) λbI bg bh=>?_;simp?[qn,b1,eO,fE];refine b7 (λB=>B) (λB=>by exact bU B) ?_;refine⟨λZ=>?_,λZ=>?_⟩
        .dsimp only at p;rw[if_pos Z]at p;refine t8 v (a:=a+1) j be (aQ sy a_ rfl aw) λS u=>?_;obtain⟨⟨b6,k⟩,aP,_,_,bi,aS,bJ⟩:=id u;simp?[bZ,Pm];refine a5 _ k _ ?_;simp?[bZ,Pm];refine aY ((dp aS).1) ?_;simp?[bZ,Pm];have aT:A∈jT:=by
          rcases g with⟨_,g⟩|⟨g,_⟩;·exact g
          .exact absurd Z g
         have bK:-1073741823<=A/\A<=1073741823:=by revert aT;simp only[jT,PM,P0,or_false];exact JM
         refine B1 v (a:=a+3) (l:=l) (Q:=λaU bk=>dA (an.WY h) (.W9 s) [aU] bk λar bL=>a3 [O (.b l),O (.b G),O (.g L),O (.a 33),O (.b f),O (.a x),O (.a (hG c)),O (.a (hx c)),O (.h [.a al,.a A])] bL) bK (aR sI rfl) λac bk bl T bM=>?_;rewrite[hU (bl _ _ aS)];have bN:bi.length=(c9 c).F.length:=bJ.WJ;have:=nr c;refine⟨by erw[Pt];exact f1 bX o8 (ai (.i av cj) bj) (ai ag bj) rfl bN this aw,?_⟩;exact p _ _ _ _ _ (u.XK bl T bM rfl bi aS) (by have:=p6 c;exact QU (by exact_mod_cast this) as)
        .dsimp only at p;rw[if_neg Z]at p;have g:al-1∈fz/\1<=A/\A<=3:=by
          rcases g with⟨g,_⟩|⟨_,g⟩;·exact absurd g Z
          .exact g
         obtain⟨b9,bq⟩:=zX D z g.1 g.2 bI bg bh;refine cc (BX g.1) λbP br ad=>⟨λbQ=>absurd bQ (Ar.cT [_,_] [_] mV (ai cv ag) mS rfl as bq),λar=>GB v (a:=a) j bP (z9 _ (zV D g.2 bg bh _ _) (by erw[t5];exact z) ?_ (by erw[pY];exact Ar.cT [_,_] [_] (ai fN cD) sy (ai sd ap) rfl br aw) ?_) ?_ ⟨?_,λd P=>?_⟩ λS u=>?_⟩;·unfold eh;erw[pY,t5,zW];exact au
         .rcases ad with ad|ad;·exact .inl ad
          .exact .inr ⟨br,by erw[ad];exact zU _ _ _⟩
         .have:c.v.length<=cG c:=by unfold cG;erw[z,if_pos rfl];exact b4 (ai ag oI) rfl
          exact Ar.d3 [_,_,_,_,_] [] a_ pp (ai bj xa) (ai (.i cR mZ) (.G 2 bj)) dP rfl this V a0 aG
         .unfold e4;have:=aL.1;unfold et at this;split
          .rename_i d P;rw[P]at this;dsimp only at this;split;·simp
           .exact a7 eG dP rfl this
          .simp
         .have:=Fw P;exact cp a_ s2 dP rfl this aL.2
         .exact p S _ _ _ _ u (Ar.cT [_,_] [_] mV (ai cv ag) (aq cS f6) rfl as bq)
      .simp?[aO,aN,aD,aC,aF,aE,bZ,Pm];refine a5 _ n _ ?_;simp?[aO,aN,aD,aC,aF,aE,bZ,Pm];refine⟨Pp rfl,λac T=>?_⟩;have aj:w≠ac:=cM X T;have q:=ah.WH (.WE []) T;rewrite[l' (a:=w) (l:=ac) (q _ _ X) (ak _ _ _) (nT _)];erw[nU];simp?[aO,aN,aD,aC,aF,aE,bZ,Pm];erw[gE];refine⟨λd=>?_,λd=>?_⟩
       .rewrite[cH _ (q _ _ n)];have bR:hx c=c.YD:=by
         unfold hx;rcases H:c.v with _|⟨_,_⟩;·rfl
         .rw[H]at d;injection d
        have k:=i _ q;rw[bR]at k;exact k
       .rewrite[cH _ (q _ _ n)];rcases H:c.v with _|⟨al,b_⟩;·rw[H]at d;injection d
        .have aP:=q _ _ X;rw[H]at aP;simp? only[bZ,Pm,↓ec aP,Ra,PU,Qj,Sk,zR,eC,eO];have k:=i _ q;unfold hx at k;rw[H]at k;exact k
     .simp?[aO,aN,aD,aC,aF,aE,bZ,Pm];refine a5 _ n _ ?_;simp?[aO,aN,aD,aC,aF,aE,bZ,Pm];simp? only[aO,aN,aD,aC,aF,aE,↓cH _ n,bZ,Pm];rcases bs:c.S with _|d;·simp?[eK,b1];unfold hG at i;rw[bs]at i;exact i
      .simp?[eK,b1,eC,eO,bZ,Pm];unfold hG at i;rw[bs]at i;exact i
    .erw[<-a4,tR _ z];exact j
   .intro x y t o N u;obtain⟨⟨aA,n⟩,X,⟨a9,bb,bc⟩,Y,aH,aI,aK⟩:=id u;simp?[bZ,Pm];refine a5 _ n _ ?_;simp?[bZ,Pm];refine B s N aH (W.WF (Y.WF (ao.WV _ _))) ?_ aI (aK.WG (ao.WV _ _));rcases d:b s with _|bS;·rfl
    .have:=Y _ _ (W _ _ d);rw[ao.WK (by simp)]at this;injection this
  .simp?[aO,aN,aD,aC,aF,aE,mh];refine aY ((eJ (p:=an.WY h) n (Z:=39) (f:=14) rfl)) ?_;simp?[aO,aN,aD,aC,aF,aE,mh];refine yQ v (a:=a+5) az ?_;simp?[];refine E3 v (a:=a+5) (Q:=λaU I=>cz .WJ [.b G] I λae N=>dK .WM ae (.a 1) N λae R=>dK .YO (.a 20) ae R λae S=>bo (an.WY h) af [O (.b l),O (.b G),O (.g L),O (.a 33),O aU,O ae,U,U,U] S (g7 Q)) (W _ _ ay) aj (a7 eG dP rfl V) λf w s I j=>?_;have aT:I G=O (.WE (e.map .a)):=ao.WV _ _ _ _ (j.afy _ _ (W _ _ ay));simp? only[↓ce aT];erw[Pt];refine⟨(a7 eG (.i (a8 (.Yx (.H 20)) f2) (a8 (.Yx fL) f2)) rfl V),i f w s _ ?_⟩;erw[<-bw];exact j
 .simp?[aD,aC,aF,aE,mh];refine⟨Pp rfl,λac T=>?_⟩;have q:=ah.WH (.WE []) T;rewrite[l' (a:=G) (l:=ac) (q _ _ ay) (ak _ _ _) (gC 8 e)];simp?[aD,aC,aF,aE,mh];erw[gE];refine⟨λd=>?_,λd=>?_⟩
  .refine⟨Pp rfl,λbt aV=>B bt _ [] (q.WF (ah.WH _ aV)) ?_ (ak _ _ _) ?_⟩
   .rcases aM:b bt with _|bS;·rfl
    .rw[q _ _ aM]at aV;injection aV
   .have:e=[]:=by
     rcases e with _|⟨_,_⟩;·rfl
     .injection d
    unfold ch;erw[if_pos this];trivial
  .refine i _ q ?_;rintro rfl;injection d
noncomputable def fI(c d:ab):Prop:=∀b a,c b=O a->(∀xs,a≠.WE xs)->d b=O a
theorem ah.XP(a:ah b T):fI b T:=λc d e f=>a c d e
theorem nL{b:List (Nat×aa)}:∀xs,ca.WO a l b≠.WE xs:=λd c=>by injection c
theorem Dt:∀xs,ca.WN a c≠.WE xs:=λd b=>by injection b
theorem fI.WF{a:ab}(f:fI b T)(g:fI T a):fI b a:=λc d h e=>g c d (f c d h e) e
theorem fI.WS(d:b a=O (.WE xs))(e:ca):fI b (Mine.am b a e):=λg h c f=>by erw[aH _ _ (λk=>by rw[k,d]at c;injection c with c;subst c;exact f _ rfl)];exact c
theorem bV.Xo(e:bV a b l W)(c:fI b T):bV a T l W:=by induction W with
 |ZT=>exact d7 e λd f g h i=>⟨d,f,g,c _ _ h nL,c _ _ i nL⟩
 |_=>obtain⟨d,j⟩:=e;exact⟨d,c _ _ j nL⟩
theorem bd.Xo(d:fI b T)(c:bd a b j u):bd a T j u:=bq.WR c λe e c=>c.Xo d
theorem cV.Xo(d:cV b a E)(c:fI b T):cV T a E:=by exact we d λe f g h i j k l m=>cc l λn o p=>wa e f g h i (c _ _ j nL) k ⟨n,c _ _ o Dt,p⟩ m
theorem ah.WK(d:ah b T)(c:T a=U):b a=U:=by
 rcases e:b a with _|f;·rfl
 .rw[d _ _ e]at c;injection c
theorem ah.WS(d:ah b T)(e:b a=U)(f:ca):ah b (Mine.am T a f):=λg h c=>by erw[aH _ _ (λk=>by rw[k,e]at c;injection c)];exact d _ _ c
theorem kJ(t:h=a2 an (a+8))(D:cV b l E)(K:d6 E)(m:b G=O (.WE (e.map .a)))(z:∀j∈e,j∈bn)(A:e.length<=100)(X:∀u B v,ah b B->b u=U->B u=O (.WE (v.map .b))->bd l B v (ch E e)->Q (.b u) B):h 38 [.b l,.b G,.g L,.g L] b Q:=by
 refine a' t (i:=[O (.b l),O (.b G),O (.g L),O (.g L),U,U,U,U]) rfl rfl λh t=>?_;have Y:∀M∈bn,0<=M/\M<=255:=by decide
 refine ba 1 (λn=>∀c,n [O (.b l),O (.b G),O (.g L),O (.g L),c,U,U,U] b) ?_ λN w=>?_
 .refineλc=>ba 3 (λn=>∀f g x,ah b x->b f=U->b g=U->f≠g->x f=O (.WE [])->x g=O (.WE [])->n [O (.b l),O (.b G),O (.g L),O (.g L),c,O (.b f),O (.b g),O (.g L)] x) ?_ λN w=>?_
  .rintro f g x P r s C Z ac;refine O4 (id D) λar as au av aw R ax ay aA S ad aB=>?_;have aG:G≠g:=by rintro rfl;rw[s]at m;injection m
   refine ba 1 (λn=>∀c i,ah b i->i f=O (.WE [])->i g=O (.WE (e.map .a))->n [O (.b l),O (.b G),O (.g L),O (.g L),c,O (.b f),O (.b g),O (.g L)] i) ?_ λN w=>?_
   .rintro c i k o p;simp?[aO,aN,hT,Pm];refine aY ((dp o).2.2) ?_;simp?[aO,aN,hT,Pm];refine a5 _ (k _ _ R) _ ?_;simp?[aO,aN,hT,Pm];refine kO ad ?_;simp?[aO,aN,hT,Pm];refine E2 t (a:=a) (D.WG k) K p z A λu aI v F ae S T=>?_;have af:f≠u:=cM o ae;simp?[aO,aN,hT,Pm];rewrite[l_ (F _ _ o) S];have ag:v.length<=aJ:=by have:=(eI K z).2.2;erw[T.WJ];unfold aJ;exact cp eG hk h_ rfl A this
    refine⟨af,by erw[Pt];simpa using ag,?_⟩;refine X f _ v ((k.WF F).WS r _) r (by erw[ak];rfl) (T.Xo (fI.WS (F _ _ o) _))
   .simp?[aD,aC,aF,aE,aO,aN,hT];refine aY (cE (P _ _ m)) ?_;simp?[aD,aC,aF,aE,aO,aN,hT];refine ir (λH n=>∀(y:List Int)(d:List Int)(c:Option aa) i,e=y++d->H=d.map .a->ah b i->i f=O (.WE [])->i g=O (.WE (y.map .a))->n [O (.b l),O (.b G),O (.g L),O (.g L),c,O (.b f),O (.b g),O (.g L)] i) (λI=>True) (λI=>True) ?_ ?_ trivial trivial _ [] e c _ rfl rfl P Z ac
    .intro aj al am _ ao _ _;rintro y d c i rfl q k o p;rcases d with _|⟨j,d⟩;·injection q
     .cases q;refine⟨k _ _ m,aY rfl ?_⟩;simp?[];refine aY ((eJ (p:=an.WY h) (k _ _ R) (Z:=47) (f:=13) rfl)) ?_;simp?[];refine CU t (a:=a+6) (D.WG k) (z j (by simp)) ?_;simp?[];refine aY ((dp p).1) ?_;simp?[];refine mo p _ _ ?_;simp?[];refine⟨by erw[Pt];rw[PC]at A;unfold aJ;exact aQ (ai d8 c7) dm rfl A,?_⟩;refine ao (y++[j]) d _ _ (by simp) rfl (k.WS s _) (((aH _ _ C).trans o)) (by erw[ak,PU];rfl)
    .rintro y d c i V q k o p;rcases d with _|⟨_,_⟩;·refine⟨k _ _ m,?_⟩;simp?[];rw[P3]at V;rw[<-V]at p;exact w c _ k o p
     .injection q
  .simp?[aD,aC,aF,aE,aO,aN,hT];refine⟨Pp rfl,λf r=>⟨Pp rfl,λg s=>?_⟩⟩;have C:f≠g:=fx s;refine w f g _ ((ah.WH _ r).WF (ah.WH _ s)) r ((ah.WH _ r).WK s) C (((aH _ _ C).trans (ak _ _ _))) (ak _ _ _)
 .simp?[aD,aC,aF,aE,hT];refine aY (cE m) ?_;simp?[aD,aC,aF,aE,hT];refine ir (λH n=>∀c,(∃d:List Int,H=d.map .a/\∀j∈d,j∈bn)->n [O (.b l),O (.b G),O (.g L),O (.g L),c,U,U,U] b) (λI=>True) (λI=>True) ?_ ?_ trivial trivial _ _ ⟨e,rfl,z⟩
  .refineλaj al am ap _ _ _=>λc aq=>az aq λd q W=>?_;rcases d with _|⟨j,d⟩;·injection q
   .cases q;refine⟨m,aY rfl ?_⟩;simp?[];refine eM t (Y j (W j (by simp))) ?_;simp?[];exact ap _ ⟨d,rfl,λj m=>W j (PY _ m)⟩
  .rintro c _;refine⟨m,?_⟩;simp?[];exact w c
theorem Ok(c:as)(f e g d b Q)(i:b a=O (.WE xs))(j:∀h,au c e d b h=h (.b a) b):eH c (.R f (.Xe e) g) d b Q=b_ (dg c g) f (.x a xs) (gj 0 xs) d b Q:=by show au c e d b _=_;erw[j];exact bI i
theorem Og(d:as)(g f h e b Q)(j:b a=O (.WN l c))(k:∀i,au d f e b i=i (.b a) b):eH d (.R g (.Xu f) h) e b Q=b_ (dg d h) g (.ZV a l c) (io c) e b Q:=by show au d f e b _=_;erw[k];exact bI j
theorem zs{a:Int}(b:a<=d):dq d a=[]:=by unfold dq;refine bG (show(a-d).toNat=0 by exact dO cJ oM rfl b) ?_;rfl
theorem nq{a:Int}(b:d<a):dq d a=.a d::dq (d+1) a:=by unfold dq;refine bG (show(a-d).toNat=(a-(d+1)).toNat+1 by exact dO dk (a9 sa (.i (.YR ly) aG)) rfl b) ?_;erw[List.range_succ_eq_map,Qj,QX];refine congr (congrArg List.cons (by simp)) (Sm λi c=>?_);show aa.a (d+((i+1:Nat):Int))=.a (d+1+i);congr 1;exact gY (aT (.i ag h6) (.i bk bm)) rfl
theorem i0(a b:Int):(dq a b).length=(b-a).toNat:=by unfold dq;simp
theorem i8{k:aI}{l:ej}{Q:bb->al->ab->Prop}{c:Int}(g:Int->(al->ab->Prop)->Prop)(r:(al->ab->Prop)->Prop)(s:(aa->al->ab->Prop)->Prop)(v:∀i (h:bb->al->ab->Prop),d<=i->i<c->g (i+1) (h .WL)->g (i+1) (h .Yz)->r (h .YA)->s (λj=>h (.p j))->g i λb a=>dh.WP .YM a/\aP (cA l (.a i) b) λw=>bo p k w a h)(x:∀i,d<=i->(i=d\/i<=c)->c<=i->g i λb a=>dh.WP .YM a/\Q .WL b a)(y:r λb a=>Q .WL b a)(z:s λj b a=>Q (.p j) b a):g d λb a=>b_ (dg p k) l .YM (dq d c) b a Q:=by
 have A:∀m i,d<=i->(i=d\/i<=c)->m=dq i c->g i λb a=>b_ (dg p k) l .YM m b a Q:=by intro m;induction m with
  |nil=>
   intro i n t f;rcases Su i c with e|e;·rw[nq e]at f;injection f
   .exact x i n t e
  |cons D E B=>
   intro i n t f;rcases Su i c with e|e;·rw[nq e]at f;cases f;have u:=B (i+1) (dO cJ lH rfl n) (.inr (dO dk sA rfl e)) rfl;exact v i (λC o q=>gD C (b_ (dg p k) l .YM (dq (i+1) c) o q Q) (Q .WL o q) (λj=>Q (.p j) o q)) n e u u y z
   .rw[zs e]at f;injection f
 exact A _ d (QL _) (.inl rfl) rfl
theorem MT{a:Int}{Q:List aa->ab->Prop}(f:Int->List aa->ab->Prop)(n:∀i us b,d<=i->i<a->f i us b->∀k:aa->ab->Prop,(∀g h,f (i+1) (us++[g]) h->k g h)->K (.a i) b k)(o:∀i us b,d<=i->(i=d\/i<=a)->a<=i->f i us b->Q us b)(p:f d [] b):dS (λm b Q=>Q (.g L) b) K .YM (dq d a) b Q:=by
 have:=vn (K:=λm b Q=>Q (.g L) b) (i:=K) (k:=.YM) (λq us b=>∃i,d<=i/\(i=d\/i<=a)/\q=dq i a/\f i us b) (λw x us b=>?_) (dq d a) [] b Q ?_ ⟨d,QL _,.inl rfl,rfl,p⟩;·exact this
 .refineλr=>rx r λi j m e l=>⟨trivial,λk y s z=>?_⟩;rcases Su i a with c|c;·rw[nq c]at e;cases e;erw[t_];exact n i us b j c l _ λg h t=>s g h ⟨i+1,(dO cJ lH rfl j),.inr (dO dk sA rfl c),rfl,t⟩
  .rw[zs c]at e;injection e
 .refineλus b u=>rx u λi j v e l=>⟨trivial,o i us b j v ?_ l⟩;rcases Su i a with c|c;·rw[nq c]at e;injection e
  .exact c
theorem bY.WR(c:bY b a l)(d:l<=k):bY b a k:=by exact hf c λe f g h i j m n=>wb e f g h i j m (Ar.cT [_,_] [_] a_ lG (aq ag cS) rfl d n)
theorem bC.XQ{d:Nat->Prop}(e:bC d b T)(f:b a=U)(g:ca):bC d b (Mine.am T a g):=λi j c h=>by erw[aH _ _ (λk=>by rw[k,f]at c;injection c)];exact e _ _ c h
theorem bC.WK{c:Nat->Prop}(e:bC c b T)(f:¬c a)(d:T a=U):b a=U:=by
 rcases g:b a with _|h;·rfl
 .rw[e _ _ g f]at d;injection d
theorem bY.WG(c:bY b a l)(d:ah b T):bY T a l:=by exact d7 c λe f g h c=>oh e f g (d _ _ h) c
theorem bY.WI(c:bY b a l):b a≠U:=by refine d7 c λe f g d c=>?_;erw[d];simp
theorem vh{a:d5}(b:128<=a.YE):∀c:List d5,he (c++[a])
|[]=>⟨λk=>((bx ks kd .K rfl k b).elim),trivial⟩
|d::xs=>⟨λe=>by simp,vh b xs⟩
theorem Dl:∀{b c:List d5},he b->he c->he (b++c)|[],_,_,a=>a|_::_,_,⟨a,d⟩,e=>⟨λk=>by have:=a k;simp[this],Dl d e⟩
theorem zo(B:h=a2 an (a+2))(ay:bY b l G)(S:G<=90000)(s:∀f n c,bY n l (G+7)->bC (·=l) b n->b f=U->f≠l->n f=O (.WE (c.map cF))->c≠[]->c.length<=2->(∀y∈c,mu y/\y.YE<=128)->he c->Q (.b f) n):h 72 [.b l,o] b Q:=by
 refine a' B (i:=[O (.b l),O o,U,U,U,U,U,U]) rfl rfl λh B=>?_;simp?[DV];refine⟨Pp rfl,λf H=>?_⟩;have az:l≠f:=λe=>ay.WI (e▸H);refine dy B (a:=a) (ay.WG (ah.WH _ H)) (a7 pq ky rfl S) (aR lI rfl) λw af T z I C=>?_;simp? !only[];refine⟨(bx bl ju oP rfl T z),?_⟩;have V:¬(f=l):=λg=>az g.symm;refine i8 (λi K=>∀(c:List d5)(aj al ao W:Option aa) n,(c.length:Int)=i->bY n l (G+1+3*c.length)->bC (·=l) b n->n f=O (.WE (c.map cF))->(∀y∈c,mu y/\y.YE<=128)->(i=1+w->he c)->K [O (.b l),O o,O (.b f),O (.a (1+w)),aj,al,ao,W] n) (λX=>True) (λX=>True) ?_ ?_ trivial trivial [] _ _ _ _ _ rfl I ((ah.WH _ H).WQ.WF C) (C _ _ (ak _ _ _) V) fU λg=>((bx bl (aT aX d9) .K rfl T g).elim)
 .refineλi aA aU x aV _ _ _ c aj al ao W af q I C ar as _=>⟨trivial,aY rfl (ba 2 (λK=>∀(j:Int)(d:Int) D,((d<3/\0<=d/\j=128)\/(3<=d/\j∈fz))->bY D l (G+2+3*c.length)->bC (·=l) af D->K [O (.b l),O o,O (.b f),O (.a (1+w)),O (.a i),O (.a d),O (.a j),W] D) ?_ λaW M=>?_)⟩
  .rintro j d D aB N P;refine ba 1 (λK=>∀(m:Int) t,((j=128/\0<=m/\m<=2)\/(j∈fz/\1<=m/\m<=3))->bY t l (G+3+3*c.length)->bC (·=l) af t->K [O (.b l),O o,O (.b f),O (.a (1+w)),O (.a i),O (.a d),O (.a j),O (.a m)] t) ?_ λaW M=>?_
   .rintro m t aZ E Y;have aI:=Y _ _ ar V;have a0:∀(k Z:Int)(ac:ab),(k=if i=1+w-1 then 128 else 0)->Z∈ig->bY ac l (G+4+3*c.length)->bC (·=l) t ac->dA (an.WY h) (.W9 f) [.h [.a k,.a Z,.a j,.a m]] ac λX u=>aA .WL [O (.b l),O o,O (.b f),O (.a (1+w)),O (.a i),O (.a d),O (.a j),O (.a m)] u:=by
     intro k Z ac ad a1 a4 aK;have a5:=aK _ _ aI V;rewrite[hU a5];refine⟨by erw[Pt];unfold aJ;exact en ju ko o3 dm rfl z q x,?_⟩;have aL:k=0\/k=128:=by erw[ad];split<;>simp
     refine aV (c++[⟨k,Z,j,m⟩]) _ _ _ _ _ (by simp;exact q) ?_ ?_ ?_ ?_ ?_;·refine hf a4 λa8 a9 a_ bb bc bd be r=>wb a8 a9 a_ (((aH _ _ az).trans bb)) bc bd be ?_;erw[PC,SZ];exact Ar.dC [_,_] [_] (aq ag (.W xd)) (aq ag (.W (.i bk (.G 3 cv)))) rfl r
     .exact(C.WF (Y.WF aK)).XQ H _
     .erw[ak,PU];rfl
     .intro y F;rcases Qh.mp F with F|F;·exact as y F
      .rw[P_]at F;subst F;exact⟨.inl ⟨aL,a1,aZ⟩,aL.elim (λg=>QU (R8 g) (by decide)) λg=>R8 g⟩
     .refineλR=>vh ?_ _;show 128<=k;erw[ad,if_pos (dO (aT bk pn) (aT ag (.u pn aG)) rfl R)];exact aR (aq jx jx) rfl
    have aM:∀(k:Int),(k=if i=1+w-1 then 128 else 0)->∀p,t p=U->h 71 [.b l,.a 5] (am t p (.WE [.a 97,.a 98,.a 99,.a 45,.a 33])) λae u=>eN (.b p) ae u λae bf=>[.a k,ae,.a j,.a m].length<=100/\dA (an.WY h) (.W9 f) [.h [.a k,ae,.a j,.a m]] bf λX u=>aA .WL [O (.b l),O o,O (.b f),O (.a (1+w)),O (.a i),O (.a d),O (.a j),O (.a m)] u:=by intro k ad p v;have bh:¬(p=l):=λe=>E.WI (e▸v);refine dy B (a:=a) (E.WG (ah.WH _ v)) (Ar.d3 [_,_] [_,_] ju pq sE o3 (ai oZ cQ) rfl z S q x) (aR xp rfl) λg u au av aw aP=>?_;rewrite[ec (aP _ _ (ak _ _ _) bh)];have R:g=0\/g=1\/g=2\/g=3\/g=4:=(bx sX bl (.B ey (.B lq (.B lp (.B ln rJ)))) rfl av au);have bi:bC (·=l) t u:=(ah.WH _ v).WQ.WF aP;have aw:bY u l (G+4+3*c.length):=aw.WR (b4 (ai (.i oZ aG) xd) rfl);rcases R with e|e|e|e|e<;>erw[e]<;>refine⟨Pp rfl,?_⟩<;>exact a0 k _ u ad (by decide) aw bi
    simp? only[aO,aN,(dp aI).1];refine⟨λax=>⟨Pp rfl,λp v=>?_⟩,λax=>⟨Pp rfl,λp v=>?_⟩⟩;·exact aM 128 (by erw[if_pos ax];rfl) p v
    .exact aM 0 (by erw[if_neg ax];rfl) p v
   .simp?[aO,aN,aD,aC,aF,aE];refine bU ?_;refine⟨λr=>?_,λr=>?_⟩
    .rcases aB with⟨_,A,bj⟩|⟨A,_⟩;·exact M d _ (.inl ⟨bj,A,(bg fu h3 rfl r)⟩) (N.WR (b4 (ai o1 oZ) rfl)) P
     .exact(bx (aq c1 ag) fu .K rfl A r).elim
    .rcases aB with⟨A,_⟩|⟨_,A⟩;·exact(bx fu (.w fu) .K rfl A r).elim
     .refine dy B (a:=a) N (Ar.d3 [_,_] [_,_] ju pq sE o3 (ai o1 cQ) rfl z S q x) (aR iO rfl) λg t au av E Y=>?_;simp?[];exact M (1+g) _ (.inr ⟨A,(bg bl pc rfl au),(bg fu sC rfl av)⟩) (E.WR (b4 (ai (.i o1 aG) oZ) rfl)) (P.WF Y)
  .simp?[aD,aC,aF,aE];refine dy B (a:=a) I (Ar.d3 [_,_] [_,_] ju pq sE o3 (ai (.i bk kp) cQ) rfl z S q x) (aR (.i (aq aG jz) (aq jz c7)) rfl) λd D bm bn N P=>?_;simp?[];refine b7 (λs=>s) (λs=>by exact eD (λs=>by exact NV (λX s=>by exact fB (ak _ _ _) _ _ s) s) s) ?_;refine⟨λr=>M 128 d _ (.inl ⟨r,bm,rfl⟩) (N.WR (b4 wB rfl)) P,λr=>⟨Pp rfl,λp v=>?_⟩⟩;have R:d=3\/d=4\/d=5\/d=6\/d=7\/d=8\/d=9\/d=10:=(bx (a3 ag jz) (.w fu) (.B ln (.B rJ (.B rI (.B rH (.B rF (.B (aT ag gu) (.B (aT ag iF) (aT ag o0)))))))) rfl bn r);have aQ:=ah.WH (.WE [.a 0,.a 1,.a 2,.a 3,.a 5,.a 6,.a 7,.a 11]) v;have E:bY (am D p (.WE [.a 0,.a 1,.a 2,.a 3,.a 5,.a 6,.a 7,.a 11])) l (G+2+3*c.length):=(N.WR (b4 wB rfl)).WG aQ;rcases R with e|e|e|e|e|e|e|e<;>subst e<;>exact M _ _ _ (.inr ⟨by first|exact aR (aq c1 c1) rfl|exact aR (aq c1 cj) rfl|exact aR (aq c1 ft) rfl|exact aR (aq c1 hm) rfl|exact aR (aq c1 hj) rfl|exact aR (aq c1 gu) rfl|exact aR (aq c1 iF) rfl|exact aR (aq c1 o0) rfl,by decide⟩) E (P.WF aQ.WQ)
 .refineλi aU x aS c aj al ao W n q I C ar as bo=>⟨trivial,?_⟩;simp?[];refine s f n c (I.WR (Ar.dc [_,_] [_,_] ju ko r2 (ai (.i cv (.G 3 ag)) (.i ap hj)) rfl z q x)) C H V ar ?_ (en ju ko r2 kx rfl z q x) as (bo (Ar.dc [] [_,_] bl (aq d9 ap) r2 (aT ap d9) rfl T aS x));rintro rfl;simp at q;exact Ar.dc [] [_,_] bl (aT aX ap) (aq d9 ap) .K rfl T q aS
theorem K2(c:h=a2 an (a+2))(e:-1073741823<=d/\d<=1073741823)(f:Q (.g L) b):h 6 [.a d] b Q:=by refine a' c (i:=[O (.a d)]) rfl rfl λh c=>?_;simp?[D1];exact eM c e f
theorem vu(f:h=a2 an (a+3)){xs:List Int}(j:vs=xs.map .a)(k:∀c∈xs,-1073741823<=c/\c<=1073741823)(l:Q .WK b):h 7 [.h vs] b Q:=by
 subst j;refine a' f (i:=[O (.h (xs.map .a)),U]) rfl rfl λh f=>?_;simp?[D8];refine ir (λm n=>∀c,(∃d:List Int,m=d.map .a/\∀e∈d,-1073741823<=e/\e<=1073741823)->n [O (.h (xs.map .a)),c] b) (λo=>True) (λo=>True) ?_ ?_ trivial trivial _ _ ⟨xs,rfl,k⟩
 .refineλs t u p _ _ _=>λc q=>az q λd g i=>?_;rcases d with _|⟨e,d⟩;·injection g
  .cases g;refine⟨trivial,aY rfl ?_⟩;simp?[];refine K2 f (i e (by simp)) ?_;simp?[];exact p _ ⟨d,rfl,λe r=>i e (PY _ r)⟩
 .rintro c _;refine⟨trivial,?_⟩;simp?[];exact l
noncomputable def gL(s b:Int->Int)(a:Int):aa:=.h [.a (300000+1000*a),.a 400000,.a 0,.a 0,.a (s a),.a (b a)]
def ed(s b:Int->Int)(c:List Int):List (Int×aa):=c.map λa=>(a,gL s b a)
theorem kS(s b:Int->Int)(a:Int):∀e:List Int,be (ed s b e) a=if a∈e then O (gL s b a)else U
|[]=>rfl
|c::xs=>by
 show(if c=a then O (gL s b c)else be (ed s b xs) a)=_;by_cases d:c=a;·subst d;simp
 .erw[if_neg d,kS s b a xs];simp[PB d]
theorem zZ(s a:Int->Int)(b:Int):∀d:List Int,b∉d->c2 (ed s a d) b (gL s a b)=ed s a (d++[b])|[],_=>rfl|c::xs,e=>by show(if c=b then(c,gL s a b)::ed s a xs else(c,gL s a c)::c2 (ed s a xs) b (gL s a b))=_;rw[PM,not_or]at e;erw[if_neg (PB e.1),zZ s a b xs e.2];rfl
noncomputable def oo(s b:Int->Int)(c:Nat):Prop:=∀a,(s a=0\/s a=1)/\(0<=b a/\b a<=255)/\(s a=1->b a<c)
theorem qP:∀a∈bn,0<=a/\a<=255:=by decide
theorem Nd(f:h=a2 an (a+4)){s d:Int->Int}(i:b l=O (.WN G (ed s d bn)))(y:oo s d Z)(j:Q .WK b):h 8 [.b l,.a Z] b Q:=by
 refine a' f (i:=[O (.b l),O (.a Z),U,U,U,U]) rfl rfl λh f=>?_;simp?[Ea];erw[Og _ _ _ _ _ _ _ i (λz=>by simp? only[])];refine ir (λA B=>∀n o p q,(∃e:List Int,A=io (ed s d e)/\∀c∈e,c∈bn)->B [O (.b l),O (.a Z),n,o,p,q] b) (λk=>True) (λk=>True) ?_ ?_ trivial trivial _ _ _ _ _ ⟨bn,rfl,λk i=>i⟩
 .refineλC D z u _ _ _=>λn o p q E=>az E λe v r=>?_;rcases e with _|⟨c,e⟩;·injection v
  .obtain⟨rfl,rfl⟩:C=.h [.a c,gL s d c]/\D=io (ed s d e):=by cases v;exact⟨rfl,rfl⟩
   have m:=r c (by simp);have t:=qP c m;refine cc (y c) λw F H=>⟨i,aY rfl ?_⟩;simp?[cA,PL,P6,Qn,Q5,QJ,Q6,PP,PR,PQ];refine eM f t ?_;simp? only[gL,PL,P6,R6,R4,R5,PP,PR,PQ,eq_self,true_implies,false_implies,not_true_eq_false,not_false_eq_true,and_true,true_and,and_self,implies_true,reduceCtorEq,decide_true,decide_false];refine⟨λg=>absurd rfl g,λk=>kF _ _ _ U (O (.a 4)) U (O 4) rfl rfl ?_⟩;simp?[];refine vu f (a:=a) (xs:=[300000+1000*c,400000,0,0]) rfl ?_ ?_;·intro K x;simp only[PM,P0,or_false]at x;rcases x with rfl|rfl|rfl|rfl<;>(first|exact bx bl ll (.i (aq jo xc) (aq xc iQ)) rfl t.1 t.2|exact aR (.i (aq jo (.H 400000)) (aq (.H 400000) iQ)) rfl|exact aR w9 rfl)
   simp?[cA,PL,P6,Qn,Q5,QJ,Q6,PP,PR,PQ];refine aY (show bQ [aa.a (300000+1000*c),.a 400000,.a 0,.a 0,.a (s c),.a (d c)] 4=O (.a (s c))from rfl) ?_;simp?[cA,PL,P6,Qn,Q5,QJ,Q6,PP,PR,PQ];refine aY (show bQ [aa.a (300000+1000*c),.a 400000,.a 0,.a 0,.a (s c),.a (d c)] 5=O (.a (d c))from rfl) ?_;simp?[cA,PL,P6,Qn,Q5,QJ,Q6,PP,PR,PQ];simp? !only[show bQ [aa.a (300000+1000*c),.a 400000,.a 0,.a 0,.a (s c),.a (d c)] 4=O (.a (s c))from rfl,show bQ [aa.a (300000+1000*c),.a 400000,.a 0,.a 0,.a (s c),.a (d c)] 5=O (.a (d c))from rfl];refine eM f (bg sp (.i bl eo) rfl w) ?_;simp?[];refine bU ?_;refine⟨λg=>((bx ln sp .K rfl g w).elim),λk=>eM f F ?_⟩;simp?[];refine b7 (λj=>by exact bU j) (λj=>j) ?_;refine⟨λg=>⟨λI=>?_,λk=>?_⟩,λg=>?_⟩;·have:=H g;exact(fr mV iK .K rfl I this).elim
   .exact u _ _ _ _ ⟨e,rfl,λc m=>r c (PY _ m)⟩
   .exact u _ _ _ _ ⟨e,rfl,λc m=>r c (PY _ m)⟩
 .rintro n o p q _;refine⟨i,?_⟩;simp?[];exact j
theorem Nc(n:h=a2 an (a+1)){s f:Int->Int}(d:b l=O (.WN G (ed s f bn)))(q:oo s f Z)(r:Q .WK b):h 9 [.b l] b Q:=by
 refine a' n (i:=[O (.b l),U,U,U]) rfl rfl λh n=>?_;simp?[vY];refine aY (FI d) ?_;simp?[vY];refine ir (λt u=>∀g i j,(∃e:List Int,t=e.map .a/\∀c∈e,c∈bn)->u [O (.b l),g,i,j] b) (λk=>True) (λk=>True) ?_ ?_ trivial trivial _ _ _ _ ⟨bn,by unfold ed;rewrite[QX];rfl,λk d=>d⟩
 .refineλA B C v _ _ _=>λg i j w=>az w λe o p=>?_;rcases e with _|⟨c,e⟩;·injection o
  .cases o;have m:=p c (by simp);refine cc (q c) λx D E=>⟨d,aY rfl ?_⟩;simp? !only[];erw[hb];refine⟨0+1,?_⟩;erw[xJ];have y:be (ed s f bn) c=O (gL s f c):=by erw[kS,if_pos m];rfl
   simp?[T',gL];refine qD d _ _ ?_;simp?[T',gL];simp? only[↓nM d,y,T',↓CL d,gL,show bQ [aa.a (300000+1000*c),.a 400000,.a 0,.a 0,.a (s c),.a (f c)] 4=O (.a (s c))from rfl];exact⟨λz=>absurd z (bg sp (.w lp) rfl x),λk=>v _ _ _ ⟨e,rfl,λc m=>p c (PY _ m)⟩⟩
 .rintro g i j _;refine⟨d,?_⟩;simp?[];exact r
structure li(F:List d5):Prop where
 Zi:∀P∈F,mu P/\(P.YE=255->0<=P.YC/\P.YC<F.length)
 Z8:he F
 WJ:F.length<=100
theorem L0{m:Type}{i:aI}{j:ej}{e:dh}{Q:bb->al->ab->Prop}(f:m->aa)(c:Nat->List m->(al->ab->Prop)->Prop)(q:(al->ab->Prop)->Prop)(r:(aa->al->ab->Prop)->Prop)(t:∀k l d (g:bb->al->ab->Prop),c (k+1) d (g .WL)->c (k+1) d (g .Yz)->q (g .YA)->r (λh=>g (.p h))->c k (l::d) λb a=>e.WP a/\aP (cA j (.h [.a k,f l]) b) λu=>bo p i u a g)(v:∀k,c k [] λb a=>e.WP a/\Q .WL b a)(w:q λb a=>Q .WL b a)(x:r λh b a=>Q (.p h) b a)(xs:List m):∀k,c k xs λb a=>b_ (dg p i) j e (gj k (xs.map f)) b a Q:=QH (motive:=λxs=>∀k,c k xs λb a=>b_ (dg p i) j e (gj k (xs.map f)) b a Q) v (λl d s k=>t k l d (λy n o=>gD y (b_ (dg p i) j e (gj (k+1) (d.map f)) n o Q) (Q .WL n o) (λh=>Q (.p h) n o)) (s _) (s _) w x) xs
theorem right_codes:∀x∈ig,x=33\/x∈bn:=by decide
theorem low_codes{x:Int}(a:1<=x)(b:x<=3):x∈bn:=by
 have:x=1\/x=2\/x=3:=by omega
 rcases this with rfl|rfl|rfl<;>decide
theorem M'(D:h=a2 an (a+2)){s V:Int->Int}{i:List d5}(W:b l=O (.WN G (ed s V bn)))(y:b Z=O (.WE (i.map cF)))(E:li i)(e:Q .WK b):h 10 [.b Z,.h eb,.b l,.a 33] b Q:=by
 refine a' D (i:=[O (.b Z),O (.h eb),O (.b l),O (.a 33),U,U,U,U,U,U,U,U]) rfl rfl λh D=>?_;simp?[rf];refine dt y _ ?_;simp?[rf];simp? only[rf,↓ce y,Pt];erw[Ok _ _ _ _ _ _ _ y (λB=>by simp? only[])];refine L0 cF (λk xs p=>∀F H f j m n o,xs=i.drop k->p [O (.b Z),O (.h eb),O (.b l),O (.a 33),O (.a i.length),F,H,f,j,m,n,o] b) (λq=>True) (λq=>True) ?_ ?_ trivial trivial i 0 _ _ _ _ _ _ _ rfl
 .intro k c av B I aj _ _ F H f j m n o v
  .have z:k<i.length:=by
    rcases Rg k i.length with z|z;·exact z
    .rw[Rm z]at v;injection v
   have K:=P8 z;have M:=Dn K;rw[M]at v;injection v with al X;rw[<-al]at K M;obtain⟨C,Y⟩:=E.Zi c (SX K);have ac:=vi k E.Z8;rw[M]at ac;have am:=E.WJ;refine⟨y,aY rfl ?_⟩;have N:∀f j m n o,B .WL [O (.b Z),O (.h eb),O (.b l),O (.a 33),O (.a i.length),O (.a k),O (cF c),f,j,m,n,o] b:=λf j m n o=>I _ _ f j m n o X;have ad:∀f j m n o,B .Yz [O (.b Z),O (.h eb),O (.b l),O (.a 33),O (.a i.length),O (.a k),O (cF c),f,j,m,n,o] b:=λf j m n o=>aj _ _ f j m n o X;have ao:∀w∈[c.YE,c.Zg,c.YZ,c.YC],0<=w/\w<=255:=by
    intro w v;simp only[PM,P0,or_false]at v;rcases C with⟨g,u,d⟩|⟨g,u,d⟩;·simp only[ig,fz,PM,P0,or_false]at u d;rcases v with rfl|rfl|rfl|rfl<;>(first|exact bg lD gv rfl g|exact bg oB gv rfl u|exact dO wn gv rfl d|exact dO wn (.i iD (aq ap mX)) rfl d)
    .have:=Y g;rcases v with rfl|rfl|rfl|rfl<;>(first|exact bg iE gv rfl g|exact bg ey gv rfl u|exact bg ey gv rfl d|exact Ar.dc [_] [_] eG bl iK gv rfl am this.1 this.2)
   refine ba 2 (λp=>∀f,p [O (.b Z),O (.h eb),O (.b l),O (.a 33),O (.a i.length),O (.a k),O (cF c),f,j,m,n,o] b) ?_ λP r=>?_
   .rintro f;unfold cF at N ad;have ae:∀d,d∈bn->(be (ed s V bn) d).isSome=L:=λd R=>by erw[kS,if_pos R];rfl
    refine ba 2 (λp=>c.YE<=128->p [O (.b Z),O (.h eb),O (.b l),O (.a 33),O (.a i.length),O (.a k),O (.h [.a c.YE,.a c.Zg,.a c.YZ,.a c.YC]),f,O (.a c.YE),O (.a c.Zg),O (.a c.YZ),O (.a c.YC)] b) ?_ λP r=>?_
    .rintro ar;rcases C with⟨g,u,d⟩|⟨g,_⟩
     .refine ba 1 (λp=>p [O (.b Z),O (.h eb),O (.b l),O (.a 33),O (.a i.length),O (.a k),O (.h [.a c.YE,.a c.Zg,.a c.YZ,.a c.YC]),f,O (.a c.YE),O (.a c.Zg),O (.a c.YZ),O (.a c.YC)] b) ?_ λP r=>?_
      .refine ba 1 (λp=>p [O (.b Z),O (.h eb),O (.b l),O (.a 33),O (.a i.length),O (.a k),O (.h [.a c.YE,.a c.Zg,.a c.YZ,.a c.YC]),f,O (.a c.YE),O (.a c.Zg),O (.a c.YZ),O (.a c.YC)] b) ?_ λP r=>?_
       .simp?[aO,aN];refine b7 (λe=>by exact bU e) (λe=>e) ?_;refine⟨λx=>⟨λt=>?_,λq=>N _ _ _ _ _⟩,λq=>N _ _ _ _ _⟩;have A:=ac.1 x;rcases Rg (k+1) i.length with S|S;·exact(Ar.d3 [_,_] [_] ks (a8 bk ap) (aq cS (.i mO aG)) lD .K rfl x S t g).elim
        .exact absurd (Rm S) A
       .simp?[aO,aN,aD,aC,aF,aE];refine b7 (λe=>e) (λe=>by exact b7 (λe=>by exact eD (λe=>by exact bU e) e) (λe=>e) e) ?_;have as:(eb.length:Int)=3:=rfl;refine⟨λt=>?_,λt=>?_⟩
        .have:c.YC∈bn:=d.elim (λd=>absurd d.1 (Int.ne_of_lt t)) λd=>low_codes d.2.1 d.2.2
         rewrite[qb W];erw[ae _ this];simp?[aO,aN,aD,aC,aF,aE];refine b7 (λe=>by exact eD (λe=>by exact bU e) e) (λe=>e) ?_;refine⟨λA=>((bx kd ks .K rfl A t).elim),λq=>r⟩
        .have T:c.YZ=128/\0<=c.YC/\c.YC<=2:=by
          rcases d with d|⟨d,_⟩;·exact d
          .simp only[fz,PM,P0,or_false]at d;exact ex (.w ks) mG oR rfl t d
         refine⟨λA=>⟨⟨by decide,by erw[T.1];decide⟩,λaf=>?_,λq=>r⟩,λA=>(r)⟩;rw[as]at af;exact(Ar.dc [] [_,_] kf (aq ap cD) (aq c1 (.i (.G 256 (.u ag jx)) ap)) .K rfl T.1 T.2.2 af).elim
      .simp?[aO,aN,aD,aC,aF,aE];refine il _ _ _ _ ?_;simp?[aO,aN,aD,aC,aF,aE];refine bU ?_;refine⟨λt=>?_,λq=>r⟩;have:c.Zg∈bn:=(right_codes _ u).resolve_left t
       rewrite[qb W];erw[ae _ this];exact r
     .exact(bx iE kc .K rfl g ar).elim
    .simp? !only[cF];refine⟨λx=>⟨⟨by decide,by rcases C with⟨g,_⟩|⟨_,_,g⟩<;>(first|exact ex po lD sm rfl x g|exact bg ey iJ rfl g)⟩,λt=>?_,λq=>ad _ _ _ _ _⟩,λx=>r (bg (.w po) kc rfl x)⟩;rcases C with⟨g,_⟩|⟨g,_,u⟩;·exact(bx po lD .K rfl x g).elim
     .have:=Y g;exact(en ey (a3 ap bm) (aq bm xb) .K rfl u this.2 t).elim
   .simp? only[aD,aC,aF,aE,cF,PL,P6,R6,R4,R5,PP,PR,PQ,eq_self,true_implies,false_implies,not_true_eq_false,not_false_eq_true,and_true,true_and,and_self,implies_true,reduceCtorEq,decide_true,decide_false];refine hL (λq ah p=>∀w,(∀d∈ah,0<=d/\d<=255)->p [O (.b Z),O (.h eb),O (.b l),O (.a 33),O (.a i.length),O (.a k),O (.h [.a c.YE,.a c.Zg,.a c.YZ,.a c.YC]),w,j,m,n,o] b) (λq=>True) (λq=>True) ?_ ?_ trivial trivial [c.YE,c.Zg,c.YZ,c.YC] _ ao;·refineλd au ah B I _ _ _ w ai=>⟨trivial,?_⟩;simp?[];refine eM D (ai d (.head _)) ?_;simp?[];exact I _ λd R=>ai d (.tail _ R)
    .refineλau w _=>⟨trivial,?_⟩;simp?[];exact r w
 .refineλk F H f j m n o _=>⟨y,?_⟩;simp?[];exact e
theorem ML(e:b a=O (.WN l c))(Q):cz .WN [.b a] b Q=∀d l,b d=U->Q (.b d) (am b d (.WN l c)):=bI e
noncomputable def jQ(b:List d5):Int:=match b.getLast? with|none=>-1|some a=>if a.YE=255 then 256*a.YZ+a.YC else-1
theorem t4(xs:List aa):bQ xs (-1)=xs.getLast?:=by
 rcases a:xs.getLast? with _|b;·rw[So]at a;subst a;rfl
 .obtain⟨c,rfl⟩:=List.getLast?_eq_some_iff.mp a;exact zR _ _
theorem Jv(k:h=a2 an (a+1)){d:List d5}(f:b l=O (.WE (d.map cF)))(m:li d)(c:Q (.a (jQ d)) b):h 11 [.b l] b Q:=by
 refine a' k (i:=[O (.b l),U,U,U,U]) rfl rfl λh k=>?_;simp?[q_];refine dt f _ ?_;simp?[q_];refine b7 (λc=>c) (λc=>by exact fB f _ _ c) ?_;simp? only[q_,↓ce f,Pt,↓ec f,t4];refine⟨λi=>?_,λi=>?_⟩;·have:d=[]:=Rl (a7 sF jk rfl i);subst this;exact c
 .rcases e:d.getLast? with _|n;·rw[So]at e;subst e;exact absurd rfl i
  .unfold jQ at c;rw[e]at c;dsimp only at c;have o:=(m.Zi n (To e)).1;simp? !only[VM,e,Qy,cF];refine⟨λg=>?_,λg=>?_⟩
   .rw[if_pos g]at c;refine⟨⟨by decide,?_⟩,c⟩;rcases o with⟨j,_⟩|⟨_,_,j⟩;·exact ex iE lD sm rfl g j
    .erw[j];decide
   .rw[if_neg g]at c;exact c
noncomputable def gM:Pr:=⟨#[102,97]⟩
theorem Lm(a:Q (.E ⟨#[97]⟩) b):eN (.E (Q' "abcdefghjklmnopqrstuvwxyz")) (.a ((1-1)%25)) b Q:=by exact bG (show Q' "abcdefghjklmnopqrstuvwxyz"=⟨#[97,98,99,100,101,102,103,104,106,107,108,109,110,111,112,113,114,115,116,117,118,119,120,121,122]⟩from by decide+kernel) ⟨by decide,a⟩
theorem L8(c:h=a2 an (a+1))(d:Q (.E gM) b):h 15 [.a 1] b Q:=by refine a' c (i:=[O (.a 1),U,U]) rfl rfl λh c=>?_;simp?[D4];refine⟨by decide,Lm ?_⟩;simp?[];erw[hb];refine⟨0+1,?_⟩;erw[xJ];simp?[PP,PR,PQ];refine Ai rfl ?_;refine bG (show Q' "f"=⟨#[102]⟩from by decide+kernel) ?_;erw[N1];exact⟨by decide,d⟩
theorem IJ(a Q):b3 .t (.E gM) (.E (Q' "")) a Q=Q (.g J) a:=by
 refine bG (show Q' ""=⟨#[]⟩from by decide+kernel) ?_;have:dv (.E gM) (.E ⟨#[]⟩) a=O J:=by show(if bu 9 (.E gM)&&bu 9 (.E ⟨#[]⟩)then O (dx (.E gM) (.E ⟨#[]⟩))else U)=_;refine bG (show bu 9 (.E gM)=L from by decide+kernel) (bG (show bu 9 (.E ⟨#[]⟩)=L from by decide+kernel) ?_);rfl
 exact ma this Q
def l9(s c:Int->Int)(b:List d5):bp:=⟨b,λa=>if a=256 then jQ b else if a∈bn/\s a=1 then c a else-1⟩
theorem LX{s c:Int->Int}{d:List d5}(i:li d)(n:∀a∈bn,s a=1->a∈eA/\0<=c a/\∃b,d[(c a).toNat]?=O b/\b.YE<=128):d6 (l9 s c d):=by
 refine⟨λc o=>(i.Zi c o).1,i.Z8,λa=>?_⟩;show(if a=256 then jQ d else if a∈bn/\s a=1 then c a else-1)=-1\/(a∈kU/\∃k:Nat,(if a=256 then jQ d else if a∈bn/\s a=1 then c a else-1)=k/\_);by_cases m:a=256
 .subst m;erw[if_pos rfl];unfold jQ;rcases p:d.getLast? with _|b;·exact .inl rfl
  .dsimp only;obtain⟨e,g⟩:=i.Zi b (To p);by_cases f:b.YE=255
   .erw[if_pos f];obtain⟨h,j⟩:=g f;rcases e with⟨l,_⟩|⟨_,_,l⟩;·exact(bx iE lD .K rfl f l).elim
    .refine .inr ⟨by decide,b.YC.toNat,(ex ey iD (aT xb (.W jq)) rfl l h),?_⟩;have:b.YC.toNat<d.length:=(fr bl iK km rfl h j);exact⟨_,P8 this,λq=>absurd rfl q⟩
   .erw[if_neg f];exact .inl rfl
 .erw[if_neg m];by_cases e:a∈bn/\s a=1;·erw[if_pos e];obtain⟨g,f,b,h,j⟩:=n a e.1 e.2;refine .inr ⟨?_,(c a).toNat,(bg bl (aT ag (.W fN)) rfl f),b,h,λr=>j⟩;simp only[eA,kU,PM,P0,or_false]at g⊢;exact bg rQ rM rfl g
  .erw[if_neg e];exact .inl rfl
theorem LM(s c:Int->Int)(e:List d5):ER (ed s c bn) (l9 s c e):=by
 refine⟨λb i a=>?_,λb a f=>?_,λb a=>?_⟩
 .rw[kS]at a;split at a
  .rename_i g;injection a with a;subst a;refine OA _ _ _ _ rfl (λf=>?_);show(if b=256 then jQ e else if b∈bn/\s b=1 then c b else-1)=_;erw[if_neg f];by_cases d:s b=1;·erw[if_pos d,if_pos ⟨g,d⟩];rfl
   .erw[if_neg d,if_neg (λh=>d h.2)];rfl
  .injection a
 .rw[kS]at a;split at a;·injection a
  .rename_i g;show(if b=256 then jQ e else if b∈bn/\s b=1 then c b else-1)=_;erw[if_neg f,if_neg (λh=>g h.1)];rfl
 .erw[kS,if_pos a];rfl
theorem L7(d:h=a2 an (a+5)){s g:Int->Int}{m:List d5}(t:b l=O (.WE (m.map cF)))(x:li m)(y:b G=O (.WN Z (ed s g bn)))(z:oo s g m.length)(E:∀c u,ah b u->b c=U->cV u c (l9 s g m)->Q (.b c) u):mk h 1 [.a 1,.E gM,.a 655360,.h [.a 0,.a 200000,.a 100000,.a 50000],.b G,.b l,.h eb,.a 33] b Q:=by
 refineλc n i N P=>a' d (i:=[O (.b c),O (.a 1),O (.E gM),O (.a 655360),O (.h [.a 0,.a 200000,.a 100000,.a 50000]),O (.b G),O (.b l),O (.h eb),O (.a 33)]) rfl rfl λh d=>?_;have A:=ah.WH (.WO 1 n []) i;have v:=A _ _ t;have w:=A _ _ y;refine ba 7 (λo=>o [O (.b c),O (.a 1),O (.E gM),O (.a 655360),O (.h [.a 0,.a 200000,.a 100000,.a 50000]),O (.b G),O (.b l),O (.h eb),O (.a 33)] (am b c (.WO 1 n []))) ?_ λB p=>?_
 .skip;refine ba 6 (λo=>∀e,ah b e->(∃j,e c=O (.WO 1 n [(9,.a 1),(10,.E gM),(11,.a 655360),(12,.a 655360),(13,.a 0),(14,.b j)]))->o [O (.b c),O (.a 1),O (.E gM),O (.a 655360),O (.h [.a 0,.a 200000,.a 100000,.a 50000]),O (.b G),O (.b l),O (.h eb),O (.a 33)] e) ?_ λB p=>?_
  .rintro e k ⟨j,r⟩;refine ba 1 (λo=>∀e,ah b e->(∃f Z,c≠f/\e c=O (.WO 1 n [(9,.a 1),(10,.E gM),(11,.a 655360),(12,.a 655360),(13,.a 0),(14,.b j),(15,.b f)])/\e f=O (.WN Z (ed s g bn)))->o [O (.b c),O (.a 1),O (.E gM),O (.a 655360),O (.h [.a 0,.a 200000,.a 100000,.a 50000]),O (.b G),O (.b l),O (.h eb),O (.a 33)] e) ?_ λB p=>?_
   .refineλe k F=>cn F λf Z q r H=>?_;simp?[aO,aN,ml];refine tl (k _ _ t) _ ?_;simp?[aO,aN,ml];rewrite[cy _ r];refine⟨⟨rfl,Pp rfl⟩,cK rfl (Pp rfl) ?_⟩;simp? only[];refine cK rfl (Pp rfl) ?_;simp?[];refine Jv d (a:=a+3) (l:=l) (k.WS i _ _ _ t) x ?_;simp? only[];refine cK rfl (Pp rfl) ?_;simp? only[];refine cK rfl (Pp rfl) ?_;simp? only[];refine cK rfl (Pp rfl) (E c _ (k.WS i _) i ⟨n,_,f,Z,ed s g bn,ak _ _ _,?_,⟨?_,?_,LM s g m⟩,?_,?_,?_,?_,?_⟩);·simp[ci,bS,g']
    .simp[ci,bS,g']
    .exact((aH _ _ (PB q)).trans H)
    .simp[ci,bS,g'];rfl
    .simp[ci,bS,g']
    .simp[ci,bS,g']
    .simp[ci,bS,g',l9]
    .simp[ci,bS,g']
   .simp?[aD,aC,aF,aE,aO,aN,ml];have I:=k _ _ y;rewrite[ML I];intro f Z C;have q:c≠f:=cM r C;refine nl (show am e f (.WN Z (ed s g bn)) c=_ from by exact((aH _ _ q).trans r)) rfl (Pp rfl) (p _ ((k.WF (ah.WH _ C)).WS i _) ⟨f,Z,q,?_,?_⟩);·erw[ak];rfl
    .erw[aH _ _ (PB q),ak];rfl
  .simp? only[aD,aC,aF,aE,aO,aN,ml];refine cK rfl (Pp rfl) ?_;simp? only[];refine cK rfl (Pp rfl) ?_;simp? only[];refine cK rfl (Pp rfl) ?_;simp? only[];refine cK rfl (Pp rfl) ?_;simp? only[];refine cK rfl (Pp rfl) ?_;intro j D;have K:c≠j:=fx D;refine nl (show am (am b c _) j _ c=_ from by exact((aH _ _ K).trans (ak _ _ _))) rfl (Pp rfl) (p _ ?_ ⟨j,?_⟩);·exact(((ah.WZ b).WS i _).WF (ah.WH _ D)).WS i _
   .erw[ak];rfl
 .simp?[aD,aC,aF,aE,ml];refine eM d (by decide) ?_;simp?[];erw[IJ];simp?[];refine eM d (by decide) ?_;simp?[];refine eM d (by decide) ?_;simp? only[PL,P6,R6,R4,R5,PP,PR,PQ,eq_self,true_implies,false_implies,not_true_eq_false,not_false_eq_true,and_true,true_and,and_self,implies_true,reduceCtorEq,decide_true,decide_false];refine⟨λM=>by simp at M,λR=>?_⟩;refine vu d (a:=a+1) (xs:=[0,200000,100000,50000]) rfl (by decide) ?_;simp?[];refine vu d (a:=a+1) (xs:=jT) rfl (by decide) ?_;simp?[];refine dt v _ ?_;simp?[];simp? only[↓ce v,Pt];refine Nd d (a:=a) w z ?_;simp?[];refine Nc d (a:=a+3) w z ?_;simp?[];exact M' d (a:=a+2) w v x p
noncomputable def np(s b:Int->Int)(a:Int):aa:=.h [.a a,.a (300000+1000*a),.a 400000,.a 0,.a 0,.a (s a),.a (b a)]
theorem L6(n:h=a2 an (a+6)){s g:Int->Int}{r:List d5}(t:b G=O (.WE (bn.map (np s g))))(B:b l=O (.WE (r.map cF)))(C:li r)(D:oo s g r.length)(E:∀o u,ah b u->b o=U->cV u o (l9 s g r)->Q (.b o) u):h 16 [.a 1,.b G,.h [.a 0,.a 200000,.a 100000,.a 50000],.b l,.h eb,.a 33] b Q:=by
 refine a' n (i:=[O (.a 1),O (.b G),O (.h [.a 0,.a 200000,.a 100000,.a 50000]),O (.b l),O (.h eb),O (.a 33),U,U]) rfl rfl λh n=>ba 3 (λv=>∀i c j d,ah b d->d i=O (.WN c (ed s g bn))->v [O (.a 1),O (.b G),O (.h [.a 0,.a 200000,.a 100000,.a 50000]),O (.b l),O (.h eb),O (.a 33),O (.b i),j] d) ?_ λR F=>?_;·rintro i c j d e k;simp?[aO,aN,vU];refine L8 n (a:=a+4) ?_;simp?[];exact L7 n (a:=a) (e _ _ B) C k D λo H I K M=>E o H (e.WF I) (e.WK K) M
 .simp?[aD,aC,aF,aE,vU];refine eM n (by decide) ?_;simp?[];intro i c x;have y:=ah.WH (.WN c []) x;simp? only[↓cE (y _ _ t)];refine qI (np s g) (λz v=>∀f c j d,bn=f++z->ah b d->d i=O (.WN c (ed s g f))->v [O (.a 1),O (.b G),O (.h [.a 0,.a 200000,.a 100000,.a 50000]),O (.b l),O (.h eb),O (.a 33),O (.b i),j] d) (λw=>True) (λw=>True) ?_ ?_ trivial trivial bn [] c _ _ rfl y (ak _ _ _)
  ··intro p z S N _ _ _ f c j d m e k;have A:p∉f:=by
     have:bn.Nodup:=by decide
     rw[m]at this;exactλq=>(Uk.mp this).2.2 p q p (by simp) rfl
    refine⟨e _ _ t,aY rfl ?_⟩;simp? only[np,PL,P6,eO,↓nM k,kS,if_neg A,Vo];refine⟨λw=>⟨λw=>⟨Pp rfl,by simp[aJ],?_⟩,λq=>absurd (by simp) q⟩,λq=>absurd (by simp) q⟩;refine kF _ _ _ (O (.a 1)) (O (.a 7)) (O 1) (O 7) rfl rfl ?_;simp?[np,PL,P6,eO,Vo];rewrite[lV k];refine⟨?_,λc=>?_⟩
    .have:f.length<=bn.length:=by erw[m];simp
     unfold ed;erw[Pt];exact PO this (Pp rfl)
    .refine N (f++[p]) c _ _ (by erw[m];simp) (e.WS x _) ?_;erw[ak];exact congrArg (λP=>O (ca.WN c P)) (zZ s g p f A)
  .intro f c j d m e k;·refine⟨e _ _ t,?_⟩;simp?[];rw[P3]at m;rw[<-m]at k;exact F i c j _ e k
theorem i7(d a:Int)(b:aa):∀h:List (Int×aa),be (c2 h d b) a=if d=a then O b else be h a
|[]=>rfl
|(k,f)::e=>by
 show be (if k=d then(k,b)::e else(k,f)::c2 e d b) a=_;by_cases g:k=d
 .erw[if_pos g];subst g;show(if k=a then O b else be e a)=if k=a then O b else(if k=a then O f else be e a);by_cases c:k=a;·erw[if_pos c,if_pos c];rfl
  .erw[if_neg c,if_neg c,if_neg c];rfl
 .erw[if_neg g];show(if k=a then O f else be (c2 e d b) a)=if d=a then O b else(if k=a then O f else be e a);erw[i7 d a b e];by_cases c:k=a;·subst c;erw[if_pos rfl,if_neg (λi=>g i.symm),if_pos rfl];rfl
  .erw[if_neg c,if_neg c];rfl
theorem pZ(a:Int)(b:aa):∀d:List (Int×aa),(c2 d a b).length<=d.length+1|[]=>P2 _|(k,e)::c=>by show(if k=a then(k,b)::c else(k,e)::c2 c a b).length<=_;have:=pZ a b c;split<;>simp only[PL]<;>(first|exact b5 (ai bk (.i bk aG)) rfl|exact aQ iL (ai bk (.i cv aG)) rfl this)
structure EG(F:List d5)(P:List (Int×aa))(k:Nat):Prop where
 Zi:∀R∈F,mu R/\R.YE<=128
 Z8:he F
 WJ:F.length<=2*k
 YL:∀S ab,be P S=O ab->S∈eA/\∃ac:Nat,ab=.a ac/\∃ad,F[ac]?=O ad
 ahx:P.length<=k
def jJ(a:List (Int×aa))(b:Int):Int:=if(be a b).isSome then 1 else 0
def jK(a:List (Int×aa))(b:Int):Int:=match be a b with|some (.a c)=>c|_=>0
theorem JG(M:h=a2 an (a+7))(as:bY b l G)(ax:G<=80000)(N:∀ae ay bg,bY ay l (G+40)->bC (·=l) b ay->b ae=U->ae≠l->cV ay ae bg->d6 bg->Q (.b ae) ay):h 73 [.b l] b Q:=by
 refine a' M (i:=[O (.b l),U,U,U,U,U]) rfl rfl λh M=>ba 2 (λP=>∀g n w e d o q,bY q l (G+32)->bC (·=l) b q->(b g=U/\g≠l)->q g=O (.WE (d.map cF))->q n=O (.WN w e)->EG d e 4->P [O (.b l),O (.b g),O (.b n),o,U,U] q) ?_ λbN az=>?_
 .rintro g n w e d o q R S ⟨T,B⟩ V D k;refine ba 1 (λP=>∀g E o aA y,bY y l (G+40)->bC (·=l) b y->y g=O (.WE (E.map cF))->y n=O (.WN w e)->g≠l->li E->(∃bh,E=d++bh)->P [O (.b l),O (.b g),O (.b n),o,aA,U] y) ?_ λbN az=>?_
  .rintro bi E cc aA y C r aW bj cd bo ⟨bh,bp⟩;have aX:∀c s,be e c=O s->c∈eA/\∃p:Nat,s=.a p/\p<d.length/\∃F,E[p]?=O F/\F.YE<=128:=by intro c s z;obtain⟨t,p,A,F,H⟩:=k.YL c s z;have bq:=(Rv.mp H).1;refine⟨t,p,A,bq,F,?_,(k.Zi F (SX H)).2⟩;erw[bp,Rw bq];exact H
   have bO:d.length<=E.length:=by erw[bp];simp
   have au:=k.WJ;have bP:oo (jJ e) (jK e) E.length:=by
    intro c;unfold jJ jK;rcases W:be e c with _|s;·exact⟨.inl rfl,by decide,λj=>by cases j⟩
    .obtain⟨t,p,rfl,H,_⟩:=aX c s W;refine⟨.inr rfl,?_,λu=>?_⟩;·show 0<=(p:Int)/\(p:Int)<=255;exact cp bA o7 (.i mU (aq bm mX)) rfl H au
     .show(p:Int)<_;exact b8 bA jw sn rfl H bO
   have bQ:d6 (l9 (jJ e) (jK e) E):=by
    refine LX bo λc u X=>?_;unfold jJ at X;rcases W:be e c with _|s;·rw[W]at X;cases X
    .obtain⟨t,p,rfl,H,F,aB,bR⟩:=aX c s W;unfold jK;erw[W];exact⟨t,by show 0<=(p:Int);exact b5 mU rfl,F,by show E[(p:Int).toNat]?=_;erw[R3];exact aB,bR⟩
   simp?[aO,aN,ra];refine⟨Pp rfl,λaf aI=>?_⟩;have cf:af≠l:=λj=>C.WI (j▸aI);have bS:=ah.WH (.WE []) aI;have aw:n≠af:=cM bj aI;refine⟨Pp rfl,ir (λaZ P=>∀aj i o Y,bn=aj++i->aZ=i.map .a->ah y Y->Y af=O (.WE (aj.map (np (jJ e) (jK e))))->P [O (.b l),O (.b bi),O (.b n),o,aA,O (.b af)] Y) (λu=>True) (λu=>True) ?_ ?_ trivial trivial _ [] bn _ _ rfl rfl bS (ak _ _ _)⟩
   .intro s a0 br aK _ _ _;rintro aj i o Y t A v al;rcases i with _|⟨c,i⟩;·injection A
    .obtain⟨rfl,rfl⟩:s=.a c/\a0=i.map .a:=by cases A;exact⟨rfl,rfl⟩
     refine⟨trivial,aY rfl ?_⟩;have aL:=v _ _ bj;have bs:=qP c (by erw[t];simp);have bT:(be e c).getD (.a 0)=.a (jK e c):=by
      unfold jK;rcases W:be e c with _|s;·rfl
      .obtain⟨t,p,rfl,_⟩:=aX c s W;rfl
     have bt:∀j:Int,j=jJ e c->dA (an.WY h) (.W9 af) [.h [.a c,.a (300000+1000*c),.a 400000,.a 0,.a 0,.a j,.a (jK e c)]] Y λu bV=>br .WL [O (.b l),O (.b bi),O (.b n),O (.a c),aA,O (.b af)] bV:=by
      rintro j rfl;rewrite[hU al];refine⟨?_,aK (aj++[c]) i _ _ (by erw[t];simp) rfl (v.WS aI _) (by erw[ak,PU];rfl)⟩;have:aj.length<=bn.length:=by erw[t];simp
      erw[Pt];exact PO this (Pp rfl)
     simp?[];refine aY ((dp al).1) ?_;simp?[];refine eD (λN=>by refine qD aL _ _ ?_;simp?[];exact N) ?_;simp? only[(dp al).1,↓nM aL,(iV aL),↓nP aL,bT];refine⟨⟨by decide,(bx bl ll iJ rfl bs.1 bs.2)⟩,e6 _ _ _ ⟨λX=>?_,λX=>?_⟩⟩;·exact⟨Pp rfl,bt 1 (by unfold jJ;erw[X];rfl)⟩
     .exact⟨Pp rfl,bt 0 (by unfold jJ;erw[X];rfl)⟩
   .rintro aj i o Y t A v al;rcases i with _|⟨_,_⟩
    .refine⟨trivial,?_⟩;simp?[];rw[P3]at t;rw[<-t]at al;refine⟨Pp rfl,Pp rfl,L6 M (a:=a) al (v _ _ aW) bo bP λae bu bv a1 a4=>N ae bu _ (C.WG (v.WF bv)) (r.WF (v.WF bv).WQ) ?_ ?_ a4 bQ⟩;·exact r.WK (λj=>by subst j;exact((C.WG v).WI a1)) (v.WK a1)
     .exactλj=>(C.WG v).WI (j▸a1)
    .injection A
  .have bW:li d:=⟨λx m=>⟨(k.Zi x m).1,λj=>by have:=(k.Zi x m).2;exact(bx iE kc .K rfl j this).elim⟩,k.Z8,by have:=k.WJ;exact a7 (ai ag (.G 2 cj)) eG rfl this⟩;simp?[aD,aC,aF,aE,aO,aN,ra];refine dy M (a:=a+5) R (a7 jy (ai xv cQ) rfl ax) (aR iO rfl) λbX y bZ b0 C r=>?_;simp?[];refine bU ?_;have Z:n≠l:=by rintro rfl;refine d7 R λbw bz bB aM u=>?_;rw[D]at aM;cases aM
   refine⟨λu=>?_,λu=>az g d o U _ (C.WR (b5 (ai sg (.i ag mQ)) rfl)) (S.WF r) (r _ _ V B) (r _ _ D Z) B bW ⟨[],by simp⟩⟩;have ac:=r _ _ V B;simp? only[↓ce ac,Pt];refine zo M (a:=a+4) C (a7 jy (ai sg rL) rfl ax) λf Y I aP ao b1 a4 b2 bD ar aS bE=>?_;have b3:=ao _ _ ac B;simp?[];rewrite[dL b3 b2];have au:=k.WJ;refine⟨by simp only[Pt];unfold aJ;exact cp kx o7 sx rfl ar au,λc z=>?_⟩;refine⟨Pp rfl,Pp rfl,λbF a5=>?_⟩;have b6:c≠bF:=fx a5;simp?[];rewrite[dL (a:=c) (l:=bF) (((aH _ _ b6).trans (ak _ _ _))) (ak _ _ _)];refine⟨by simp only[PC,Pt,PL,P6];unfold aJ;exact cp kx o7 (ai (.i lM h9) cP) rfl ar au,λbG bH=>?_⟩;have v:=((ah.WH (.WE (d.map cF++I.map cF)) z).WF (ah.WH (.WE [.h [.a 255,.a 0,.a 0,.a d.length]]) a5)).WF (ah.WH (.WE (d.map cF++I.map cF++[.h [.a 255,.a 0,.a 0,.a d.length]])) bH);have b9:bG≠l:=by exact hC bH (((ah.WH _ z).WF (ah.WH _ a5)) _ _ (Option.eq_some_of_isSome (Option.isSome_iff_ne_none.mpr aP.WI)))
   refine az bG (d++I++[⟨255,0,0,d.length⟩]) o _ _ ((aP.WG v).WR (b5 (ai (.i sg hj) (.i ag mQ)) rfl)) ((S.WF (r.WF ao)).WF v.WQ) ?_ (v _ _ (ao _ _ (r _ _ D Z) Z)) b9 ⟨λx m=>?_,vh (show(128:Int)<=255 by decide) _,?_⟩ ⟨I++[⟨255,0,0,d.length⟩],by simp⟩;·erw[ak,PU,PU];rfl
   .rcases Qh.mp m with m|m
    .rcases Qh.mp m with m|m;·exact⟨(k.Zi x m).1,λj=>by have:=(k.Zi x m).2;exact(bx iE kc .K rfl j this).elim⟩
     .exact⟨(aS x m).1,λj=>by have:=(aS x m).2;exact(bx iE kc .K rfl j this).elim⟩
    .rw[P_]at m;subst m;refine⟨.inr ⟨rfl,rfl,rfl⟩,λu=>⟨by show 0<=(d.length:Int);exact b5 mU rfl,?_⟩⟩;show(d.length:Int)<_;simp only[PC,PL,P6];exact b4 (a3 bm (.W (.i d8 h9))) rfl
   .simp only[PC,PL,P6];exact cp kx o7 (ai (.i lM h9) c7) rfl ar au
 .simp?[aD,aC,aF,aE,ra];refine⟨Pp rfl,λg T n w aw=>?_⟩;have a8:g≠n:=fx aw;have bI:=(ah.WH (.WE []) T).WF (ah.WH (.WN w []) aw);have B:g≠l:=λj=>as.WI (j▸T);have Z:n≠l:=λj=>as.WI (j▸((ah.WH (.WE []) T).WK aw));simp? !only[];refine⟨Pp rfl,ir (λaZ P=>∀(i:List Int)(g:Nat)(w:Nat)(e:List (Int×aa))(d:List d5)(o:Option aa) q,aZ=i.map .a->(∀c∈i,c∈eA)->i.length<=4->bY q l (G+8*(4-i.length))->bC (·=l) b q->(b g=U/\g≠l)->q g=O (.WE (d.map cF))->q n=O (.WN w e)->EG d e (4-i.length)->P [O (.b l),O (.b g),O (.b n),o,U,U] q) (λu=>True) (λu=>True) ?_ ?_ trivial trivial _ [97,98,99,45] g w [] [] U _ rfl (by decide) (by decide) ((as.WG bI).WR (b4 (ai ag (.i ag (.G 8 pk))) rfl)) bI.WQ ⟨T,B⟩ (by erw[aH _ _ a8,ak];rfl) (ak _ _ _) ⟨fU,trivial,Pp rfl,λu u as=>aU as,Pp rfl⟩⟩
  .intro s a0 br aK _ _ _;rintro i g w e d o q A aT K R S ⟨T,B⟩ V D k;rcases i with _|⟨c,i⟩;·injection A
   .obtain⟨rfl,rfl⟩:s=.a c/\a0=i.map .a:=by cases A;exact⟨rfl,rfl⟩
    rw[PL]at K R k;refine⟨trivial,aY rfl ?_⟩;simp?[];refine dy M (a:=a+5) R (aQ jy (ai wt cQ) rfl ax) (aR iO rfl) λbX y bZ b0 C r=>?_;have ac:=r _ _ V B;have a9:=r _ _ D Z;have a_:=k.WJ;have bb:=k.ahx;simp?[];refine b7 (λN=>by refine dt ac _ ?_;simp?[];refine F2 a9 _ _ _ ?_;simp?[];exact N) (λN=>N) ?_;simp? only[↓ce ac,Pt,↓lV a9];refine⟨λu=>⟨by unfold aJ;exact aQ (ai ag mK) dm rfl bb,λbc=>?_⟩,λu=>?_⟩
    .have ao:bC (·=l) b (am y n (.WN bc (c2 e c (.a d.length)))):=(S.WF r).XQ ((ah.WH (.WE []) (by assumption)).WK aw) _;have a8:g≠n:=by rintro rfl;rw[V]at D;cases D
     have aP:bY (am y n (.WN bc (c2 e c (.a d.length)))) l (G+8*(4-(i.length+1))+1):=by exact d7 C λbw bz bB aM b_=>oh bw bz bB (((aH _ _ (PB Z)).trans aM)) b_
     refine zo M (a:=a+4) aP (aQ jy (ai (.i wt aG) rL) rfl ax) λf bu I bJ aV b1 a4 b' bD ar aS bE=>?_;have aW:=aV g _ (((aH _ _ a8).trans ac)) B;simp?[];rewrite[dL aW b'];refine⟨by simp only[Pt];unfold aJ;exact b8 kx (ai ap (.G 2 (.u cj h8))) sx rfl ar a_,λbK bd=>?_⟩;have bf:=ah.WH (.WE (d.map cF++I.map cF)) bd;have bL:bK≠l:=λj=>bJ.WI (j▸bd);refine aK i bK bc (c2 e c (.a d.length)) (d++I) _ _ rfl (λc z=>aT c (PY _ z)) (a7 mT g1 rfl K) ((bJ.WG bf).WR (aQ mT (ai (.i wo hj) wG) rfl K)) ((ao.WF aV).WF bf.WQ) ⟨(ao.WF aV).WK bL bd,bL⟩ (by erw[ak,PU];rfl) (bf _ _ (aV _ _ (ak _ _ _) Z)) ⟨λx m=>?_,Dl k.Z8 bE,?_,λbM ca ad=>?_,?_⟩
     .rcases Qh.mp m with m|m;·exact k.Zi x m
      .exact aS x m
     .erw[PC];exact em kx (ai cv cj) (ai av (.G 2 mK)) (ai jr (.G 2 pk)) rfl ar K a_
     .rw[i7]at ad;by_cases z:c=bM
      .subst z;rw[if_pos rfl]at ad;injection ad with ad;subst ad;refine⟨aT c (by simp),d.length,rfl,?_⟩;rcases I with _|⟨x,_⟩;·exact absurd rfl bD
       .exact⟨x,by simp⟩
      .rw[if_neg z]at ad;obtain⟨t,p,H,F,aB⟩:=k.YL bM ca ad;exact⟨t,p,H,F,by erw[Rw (Rv.mp aB).1];exact aB⟩
     .have:=pZ c (.a d.length) e;exact em mT o8 (ai av (.u cj bk)) (ai ap (.u cj ag)) rfl K this bb
    .exact aK i g w e d _ _ rfl (λc z=>aT c (PY _ z)) (a7 mT g1 rfl K) (C.WR (aQ mT (ai wo wG) rfl K)) (S.WF r) ⟨T,B⟩ ac a9 ⟨k.Zi,k.Z8,(aQ (ai ag (.G 2 mK)) (ai ag (.G 2 pk)) rfl a_),k.YL,(aQ (ai ag mK) (ai ag pk) rfl bb)⟩
  .rintro i g w e d o q A aT K R S cb V D k;rcases i with _|⟨_,_⟩;·refine⟨trivial,?_⟩;simp?[];exact az g n w e d o _ (R.WR (by simp)) S cb V D k
   .injection A
noncomputable def bF(a:Int):Int:=if a=65 then 97 else if 97<=a/\a<=122 then a else 0
theorem uy(j:h=a2 an (a+1))(c:Q (.a (bF d)) b):h 76 [.a d] b Q:=by
 refine a' j (i:=[O (.a d)]) rfl rfl λh j=>?_;unfold bF at c;simp?[DU];refine b7 (λc=>c) (λc=>by exact b7 (λc=>by exact bU c) (λc=>c) c) ?_;refine⟨λe=>by rw[if_pos e]at c;exact c,λe=>?_⟩;rw[if_neg e]at c;refine⟨λf=>⟨λg=>?_,λg=>?_⟩,λf=>?_⟩;·rw[if_pos ⟨f,g⟩]at c;exact c
 .rw[if_neg (λi=>g i.2)]at c;exact c
 .rw[if_neg (λi=>f i.1)]at c;exact c
theorem JE(e:h=a2 an (a+1))(d:bV l b G W)(c:Q (.a (a0 W).length) b):h 77 [.b G] b Q:=by refine a' e (i:=[O (.b G)]) rfl rfl λh e=>?_;simp?[q'];refine e8 d _ ?_;simp?[q'];refine b7 (λc=>c) (λc=>by refine e8 d _ ?_;simp?[q'];exact bU c) ?_;induction W with
 |YG g=>simp?[bH,PP,PR,PQ];refine ic rfl ?_;exact c
 |Yy g i j k=>obtain⟨m,f⟩:=d;simp?[bH,PP,PR,PQ,Pm];refine f' rfl (ic rfl (a5 _ f _ ?_));simp?[bH,PP,PR,PQ,Pm];simp? only[bH,R6,R4,R5,PP,PR,PQ,eq_self,true_implies,false_implies,not_true_eq_false,not_false_eq_true,and_true,true_and,and_self,implies_true,reduceCtorEq,decide_true,decide_false,↓cH _ f,Pm,Pt];exact c
 |_=>simp?[bH,PP,PR,PQ];refine f' rfl (f' rfl ?_);exact c
noncomputable def bh(f:List Int):aa:=.h (f.map .a)
theorem p3(a:Nat)(f:List Int):bu (a+1) (bh f)=L:=by show bu (a+1) (.h (f.map .a))=L;exact gC a f
theorem xQ(f a:List Int):dx (bh f) (bh a)=Ps (f=a):=nf f a
theorem A4(f:List Int)(c:ab):∀b:List (List Int),gc (bh f) c (b.map bh)=O (Ps (f∈b))
|[]=>by simp[gc]
|a::b=>by
 erw[Qj];show(dv (bh a) (bh f) c).bind (λe=>(gc (bh f) c (b.map bh)).map (e||·))=_;have g:dv (bh a) (bh f) c=O (Ps (a=f)):=by show(if bu 9 (bh a)&&bu 9 (bh f)then O (dx (bh a) (bh f))else U)=_;erw[p3,p3,xQ];rfl
 erw[g,A4 f c b];show O (Ps (a=f)||Ps (f∈b))=_;simp only[PM];congr 1;erw[Wv];congr 1;by_cases d:a=f;·simp[d]
 .simp[d,PB d]
theorem Iw{c:List (List Int)}(f:List Int)(d:b a=O (.WE (c.map bh)))(Q):b3 .ZE (bh f) (.b a) b Q=Q (.g (Ps (¬f∈c))) b:=by refine(MZ d (A4 f b c) Q).trans ?_;erw[decide_not];rfl
theorem A0{h i:Int}(k:∀a j,ah b j->b a=U->j a=O (.WE (if h=i then[.a d]else[]))->Q (.b a) j):[aa.a d].length<=100/\∀f,b f=U->dK .YO (.b f) (.a (if Ps (h=i)=L then 1 else 0)) (am b f (.WE [.a d])) Q:=by
 refine⟨Pp rfl,λf g=>?_⟩;rewrite[qi (ak _ _ _)];by_cases c:h=i;·refine⟨by simp[c],λa e=>k a _ ((ah.WH _ g).WF (ah.WH _ e)) ((ah.WH _ g).WK e) ?_⟩;erw[ak,if_pos c];simp[c]
 .refine⟨by simp[c],λa e=>k a _ ((ah.WH _ g).WF (ah.WH _ e)) ((ah.WH _ g).WK e) ?_⟩;erw[ak,if_neg c];simp[c]
noncomputable abbrev bN:=List Int×List Int
def g3(a:bN):aa:=.h [bh a.1,bh a.2]
structure gm(F:bN):Prop where
 h?:∃P R S:List Int,F.1=P++R++S/\((P=[]/\S=[])\/(P=[0]/\S=[])\/(P=[]/\S=[0]))/\1<=R.length/\R.length<=3/\∀aa∈R,97<=aa/\aa<=100
 WJ:F.2.length=F.1.length+1
 aix:∀ab∈F.2,0<=ab/\ab<=3
theorem gm.XO{b:bN}(c:gm b):b.1.length<=4:=by refine hf c.h? λf g h d e i a j=>?_;erw[d,PC,PC];rcases e with⟨rfl,rfl⟩|⟨rfl,rfl⟩|⟨rfl,rfl⟩<;>simp<;>(first|exact a7 fi g1 rfl a|exact a7 fi (ai d9 cj) rfl a|exact a)
structure rp(F:List bN):Prop where
 Zw:∀P∈F,gm P
 U?:(F.map Rf).Nodup
theorem pF(u:h=a2 an (a+1)){k m:Int}{Q:List aa->ab->Prop}(v:bY b l G)(w:(G:Int)+m<=100000)(x:1<=k/\k<=100)(R:0<=m)(s:(aa->ab->Prop)->aa->ab->Prop)(y:∀z b f,h 71 [.b l,.a k] b (s f)->K z b f)(A:∀f e b,f (.a (d+e)) b->s f (.a e) b)(B:∀(c:List Int) g,bY g l (G+m.toNat)->bC (·=l) b g->c.length=m.toNat->(∀e∈c,d<=e/\e<d+k)->Q (c.map .a) g):dS (λS b Q=>Q (.g L) b) K .YM (dq 0 m) b Q:=by
 refine MT (λi us g=>EC λ(c:List Int)=>EF (us=c.map .a) ((c.length:Int)=i) (bY g l (G+c.length)) (bC (·=l) b g) (∀e∈c,d<=e/\e<d+k)) ?_ ?_ ⟨[],rfl,rfl,v,bC.WZ _ _,fU⟩
 .intro i us t C o D f E;obtain⟨c,rfl,n,p,q,r⟩:=D;refine y _ _ _ (dy u p (Ar.dc [_,_] [_,_] dk (aT bm ag) (aq (.i cS ap) cQ) (ai lM cQ) rfl o n w) x λa T F H I M=>A _ _ _ (E _ _ ⟨c++[d+a],by erw[PU];rfl,by simp;exact n,I.WR (by simp;exact b4 (ai mP iI) rfl),q.WF M,λe j=>?_⟩));rcases Qh.mp j with j|j;·exact r e j
  .rw[P_]at j;exact Ar.dc [] [_,_,_,_] bl dk (aT av (.i bj ag)) (.i (aq bj av) (a3 av (.i bj ap))) rfl F H j
 .intro i us t C o N P;obtain⟨c,rfl,n,p,q,r⟩:=P;exact B c t (p.WR (Ar.cT [_,_] [_,_] (aT bm ag) (.B ey cJ) (ai lM (.i ap jq)) rfl n o)) q (en cJ ko mR mW rfl N n o) r
theorem JD(H:h=a2 an (a+2))(a4:bY b l G)(aj:G<=80000)(r:0<=d/\d<=5)(D:∀f al c,bY al l (G+60)->bC (·=l) b al->b f=U->f≠l->al f=O (.WE (c.map g3))->rp c->c.length<=8->Q (.b f) al):h 74 [.b l,.a d] b Q:=by
 refine a' H (i:=[O (.b l),O (.a d),U,U,U,U,U,U,U,U]) rfl rfl λh H=>?_;simp?[DW];refine⟨Pp rfl,Pp rfl,Pp rfl,Pp rfl,Pp rfl,Pp rfl,Pp rfl,λf ao=>⟨(bx op bl r8 rfl r.2 r.1),?_⟩⟩;have ay:f≠l:=λu=>a4.WI (u▸ao);have a5:=ah.WH (.WE [.h [.h [.a 97],.h [.a 0,.a 1]],.h [.h [.a 99],.h [.a 1,.a 0]]]) ao;refine i8 (λi v=>∀(c:List bN)(aA:Option aa)(aB:Option aa)(ar:Option aa)(I:Option aa) n,bY n l (G+10*i.toNat)->bC (·=l) b n->n f=O (.WE (c.map g3))->rp c->(c.length:Int)<=2+i->v [O (.b l),O (.a d),O (.b f),aA,aB,ar,I,U,U,U] n) (λy=>True) (λy=>True) ?_ ?_ trivial trivial [([97],[0,1]),([99],[1,0])] _ _ _ _ _ ((a4.WG a5).WR (b5 (ai ag (.i ag (.G 10 (.YR aX)))) rfl)) a5.WQ (by erw[ak];rfl) ⟨?_,by decide⟩ (by simp)
 .intro i bQ a8 E a_ _ _ _;rintro c aA aB ar I n aI aK aL W K;refine⟨trivial,aY rfl (ba 1 (λv=>∀(g:Nat)(o:List Int) z,bY z l (G+10*i.toNat+4)->bC (·=l) n z->z g=O (.WE (o.map .a))->g≠l->1<=o.length->o.length<=3->(∀aM∈o,97<=aM/\aM<=100)->v [O (.b l),O (.a d),O (.b f),O (.a i),O (.b g),ar,I,U,U,U] z) ?_ λbb X=>?_)⟩
  .rintro g o z aP aS as aT br s bs;refine ba 2 (λv=>∀(g:Nat)(p:List Int)(e:Int) k,bY k l (G+10*i.toNat+5)->bC (·=l) n k->k g=O (.WE (p.map .a))->g≠l->(∃M N:List Int,p=M++o++N/\((M=[]/\N=[])\/(M=[0]/\N=[])\/(M=[]/\N=[0])))->v [O (.b l),O (.a d),O (.b f),O (.a i),O (.b g),O (.a e),I,U,U,U] k) ?_ λbb X=>?_
   .rintro g p e k P R A aT ⟨M,N,bc,bd⟩;have au:p.length<=4:=by erw[bc,PC,PC];rcases bd with⟨rfl,rfl⟩|⟨rfl,rfl⟩|⟨rfl,rfl⟩<;>simp<;>(first|exact a7 fi g1 rfl s|exact a7 fi (ai d9 cj) rfl s|exact s)
    refine ba 1 (λv=>∀(w:Nat)(S:List Int) j,bY j l (G+10*i.toNat+10)->bC (·=l) n j->j g=O (.WE (p.map .a))->j w=O (.WE (S.map .a))->S.length=p.length+1->(∀B∈S,0<=B/\B<=3)->v [O (.b l),O (.a d),O (.b f),O (.a i),O (.b g),O (.a e),O (.b w),U,U,U] j) ?_ λbb X=>?_
    .rintro w S j T F aw bt bu bv;have aU:=F _ _ aL ay;simp? only[aO,aN,↓jH aw,↓cE aU];refine⟨by erw[Pt];unfold aJ;exact en dk m_ pe dm rfl E r.2 K,?_⟩;refine jZ (k:=.x f _) (λy=>L) (λt=>match t with|.h (m::_)=>m|_=>t) aU (λt Y x C=>C) (λt Y y x C=>?_) ?_;·refine az (P'.mp Y) λaV y bw=>?_;obtain rfl:=bw;exact C
     .intro m Z;have bz:(SY (λt=>match t with|.h (m::_)=>m|_=>t) (Uu (λy=>L) (c.map g3)))=(c.map Rf).map bh:=by erw[RM.mpr (λy y=>rfl),QX,QX];rfl
      erw[bz];have bA:am j m (.WE ((c.map Rf).map bh)) g=O (.WE (p.map .a)):=ah.WH _ Z _ _ aw;have bB:am j m (.WE ((c.map Rf).map bh)) w=O (.WE (S.map .a)):=ah.WH _ Z _ _ bt;have aW:am j m (.WE ((c.map Rf).map bh)) f=O (.WE (c.map g3)):=ah.WH _ Z _ _ aU;refine bG (show aa.h (p.map .a)=bh p from rfl) ?_;simp?[aO,aN];rewrite[Iw p (ak _ _ _)];simp?[];refine b7 (λD=>by refine aY ((dp aW).1) ?_;simp?[];refine tl bA _ ?_;simp?[];refine tl bB _ ?_;simp?[];refine eD (λD=>by refine mo aW _ _ ?_;simp?[];exact D) ?_;exact D) (λD=>D) ?_;have be:=aK.WF (F.WF (ah.WH (.WE ((c.map Rf).map bh)) Z).WQ);have bf:bY (am j m (.WE ((c.map Rf).map bh))) l (G+10*(i+1).toNat):=(T.WG (ah.WH _ Z)).WR (fK bl (ai (.i oG o0) (.i ag (.G 10 (.YR bk)))) rfl a8);refine⟨λbD=>⟨Pp rfl,by erw[Pt];unfold aJ;exact en dk m_ pe dm rfl E r.2 K,?_⟩,λy=>?_⟩
      .refine a_ (c++[(p,S)]) _ _ _ _ _ ?_ (be.XQ ao _) ?_ ⟨?_,?_⟩ (by simp;exact fK pe (aq fL (.i cD bk)) rfl K);·exact d7 bf λbE bF bH bI bJ=>oh bE bF bH (((aH _ _ (PB ay)).trans bI)) bJ
       .erw[ak,PU];rfl
       .intro aV q;rcases Qh.mp q with q|q;·exact W.Zw aV q
        .rw[P_]at q;subst q;exact⟨⟨M,o,N,bc,bd,br,s,bs⟩,bu,bv⟩
       .erw[PU];rewrite[Uk];refine⟨W.U?,by simp,λbi bK t Y=>?_⟩;rw[Qj,Sk,P_]at Y;subst Y;exactλu=>bD (u▸bK)
      .exact a_ c _ _ _ _ _ bf be aW W (fK pe (aq bm (.i cD bk)) rfl K)
    .simp?[aD,aC,aF,aE,aO,aN];refine dt A _ ?_;simp?[aD,aC,aF,aE,aO,aN];simp? only[aD,aC,aF,aE,aO,aN,↓ce A,Pt];refine⟨(a7 g1 rV rfl au),by erw[i0];unfold aJ;exact a7 g1 wp rfl au,?_⟩;refine pF H (a:=a) (d:=0) P (Ar.d3 [_,_] [_,_] dk jy (ai ap cj) m_ (aq (.i (.W (.i oG ft)) lB) cQ) rfl E aj au r.2) (aR mY rfl) (b5 (aq aX fL) rfl) (λx=>x) (λt b x m=>m) (λx u b C=>by rw[Q7]at C;exact C) λac j T F ax aZ=>?_;intro w ad;have V:=ah.WH (.WE (ac.map .a)) ad;refine X w ac _ ((T.WG V).WR (Ar.dC [_,_] [_] g1 (ai (.i (.i wH ft) (.YR fL)) (.i wH o0)) rfl au)) ((R.WF F).WF V.WQ) (V _ _ (F _ _ A aT)) (ak _ _ _) (aQ (a9 ag (.YR lB)) iN rfl ax) (λB ae=>by have:=aZ B ae;exact bx bl (a3 ag (.i aX cj)) (.i bl eo) rfl this.1 this.2)
   .refine ba 1 (λv=>∀(e:Int) k,bY k l (G+10*i.toNat+5)->bC (·=l) n k->k g=O (.WE (o.map .a))->v [O (.b l),O (.a d),O (.b f),O (.a i),O (.b g),O (.a e),I,U,U,U] k) ?_ λbR bL=>?_
    .rintro e k P R A;simp only[aD,aC,aF,aE,aO,aN];simp?[];refine A0 λaM j bj bS aw=>?_;simp?[];rewrite[dL aw (bj _ _ A)];refine⟨by erw[Pt];split<;>simp[aJ]<;>(first|exact a7 fi pb rfl s|exact a7 fi dm rfl s),λB ae=>?_⟩;have bn:=bj.WF (ah.WH (.WE ((if e=2 then[aa.a 0]else[])++o.map .a)) ae);refine A0 λw bT a0 ad bM=>?_;simp?[];rewrite[dL (a0 _ _ (ak _ _ _)) bM];refine⟨by erw[PC,Pt];split<;>split<;>simp[aJ]<;>(first|exact a7 fi (ai d9 wl) rfl s|exact a7 fi pb rfl s|exact a7 fi (ai ag wl) rfl s|exact a7 fi dm rfl s),λbO bo=>?_⟩;have bP:=ah.WH (.WE ((if e=2 then[aa.a 0]else[])++o.map .a++if e=3 then[aa.a 0]else[])) bo;have bp:=(bn.WF a0).WF bP;refine X bO ((if e=2 then[0]else[])++o++(if e=3 then[0]else[])) e _ (P.WG bp) (R.WF bp.WQ) ?_ ?_ ⟨_,_,rfl,?_⟩;·erw[ak,PU,PU];split<;>split<;>rfl
     .exactλu=>(P.WG (bn.WF a0)).WI (u▸bo)
     .by_cases as:e=2;·subst as;exact .inr (.inl ⟨rfl,rfl⟩)
      .erw[if_neg as];by_cases A:e=3;·erw[if_pos A];exact .inr (.inr ⟨rfl,rfl⟩)
       .erw[if_neg A];exact .inl ⟨rfl,rfl⟩
    .simp?[aD,aC,aF,aE,aO,aN];exact dy H (a:=a) aP (en dk jy m_ (ai (.i oG cj) cQ) rfl E aj r.2) (aR mY rfl) λe k bU bV P R=>bL e _ P (aS.WF R) (R _ _ as aT)
  .simp?[aD,aC,aF,aE];refine dy H (a:=a) aI (en dk jy m_ (ai oG cQ) rfl E aj r.2) (aR iO rfl) λB z a1 af aP aS=>?_;simp?[];refine⟨(bx fu bl oP rfl af a1),by erw[i0];unfold aJ;exact bg fu (ai (.YR (.u d9 aX)) cP) rfl af,?_⟩;refine pF H (a:=a) (d:=97) aP (Ar.d3 [_] [_,_,_] fu (a3 ap av) jy (aq av ft) (aq (.i (.W (.i oF aG)) d9) cQ) rfl af E aj r.2) (aR mY rfl) (bg bl (aq aX d9) rfl a1) (λx bi z=>dK .WM (.a 97) bi z x) (λt b x m=>m) (λx u b C=>C) λac j T F ax aZ=>?_;intro w ad;have V:=ah.WH (.WE (ac.map .a)) ad;exact X w ac _ ((T.WG V).WR (gX fu (ai (.i (.i oF aG) (.YR d9)) (.i oF cj)) rfl af)) ((aS.WF F).WF V.WQ) (ak _ _ _) (λu=>T.WI (u▸ad)) (fr bl w2 fQ rfl a1 ax) (fr fu w2 fi rfl af ax) (λB ae=>by have:=aZ B ae;exact bx h4 xe sG rfl this.1 this.2)
 .intro i a8 bq E;rintro c aA aB ar I n aI aK aL W K;refine⟨trivial,?_⟩;simp?[];exact D f n c (aI.WR (Ar.cT [_] [_,_] op mR (ai oF (.i ag jn)) rfl r.2 bq)) aK ao ay aL W (en op (aq bm (.i cD ap)) mR m7 rfl r.2 K bq)
 .intro aV q;rcases PM.mp q with rfl|q;·exact⟨⟨[],[97],[],rfl,.inl ⟨rfl,rfl⟩,by decide,by decide,by decide⟩,rfl,by decide⟩
  .rw[P_]at q;subst q;exact⟨⟨[],[99],[],rfl,.inl ⟨rfl,rfl⟩,by decide,by decide,by decide⟩,rfl,by decide⟩
variable{C:List bN}
section
set_option tactic.hygienic true
noncomputable def Lf(a:Option aa):Option Int:=match a with|some (.a b)=>O b|_=>U
def eL(a:List (Int×aa))(s b:Int):Option Int:=Lf (be a (256*s+b))
noncomputable def b6(a:List (Int×aa)):Int->List Int->Option Int|s,[]=>O s|s,b::c=>match eL a s b with|none=>U|some d=>b6 a d c
structure eF(P:List (Int×aa))(R:Int):Prop where
 Xq:∀k ab,be P k=O ab->∃s S F:Int,k=256*s+S/\(0<=s/\s<R)/\(0<=S/\S<=255)/\ab=.a F/\1<=F/\F<R
 ZS:∀k ac F,be P k=O (.a F)->be P ac=O (.a F)->k=ac
 Z3:1<=R
noncomputable def ji(f:List Int):Prop:=∀a∈f,0<=a/\a<=255
theorem jF(a:List (Int×aa)):∀(s:Int)(f c:List Int),b6 a s (f++c)=(b6 a s f).bind λb=>b6 a b c
|_,[],_=>rfl
|s,e::d,c=>by show(match eL a s e with|none=>U|some b=>b6 a b (d++c))=_;cases g:eL a s e with
 |none=>unfold b6;erw[g];rfl
 |some b=>
  dsimp only;erw[jF a b d c];have:b6 a s (e::d)=b6 a b d:=by show(match eL a s e with|none=>U|some b=>b6 a b d)=_;erw[g];rfl
  erw[this];rfl
theorem ne(a:List (Int×aa))(s b:Int):b6 a s [b]=eL a s b:=by unfold b6;cases eL a s b<;>rfl
theorem qp{s b:Int}(a:eL c s d=O b):be c (256*s+d)=O (.a b):=by
 unfold eL at a;rcases e:be c (256*s+d)with _|f;·rw[e]at a;exact aU a
 .rw[e]at a;rcases f with _|_|i|_|_|⟨_,_⟩|_;·exact aU a
  .exact aU a
  .exact congrArg (λg=>O (aa.a g)) (PS a)
  .exact aU a
  .exact aU a
  .exact aU a
  .exact aU a
theorem nd(e:eF c d):∀{h:List Int}{s b:Int},0<=s/\s<d->b6 c s h=O b->0<=b/\b<d
|[],s,b,f,a=>by cases a;exact f
|k::l,s,b,f,a=>by
 unfold b6 at a;split at a;·cases a
 .rename_i m i;obtain⟨_,_,n,_,_,_,j,g⟩:=e.Xq _ _ (qp i);cases j;exact nd e ⟨(bg bL bl rfl g.1),g.2⟩ a
theorem B0{c a b:Int}(e:256*d+a=256*c+b)(f:0<=a/\a<=255)(k:0<=b/\b<=255):d=c/\a=b:=by omega
theorem xM(l:eF c d):∀(k:Nat){b i:List Int}{f:Int},b.length<=k->ji b->ji i->b6 c 0 b=O f->b6 c 0 i=O f->b=i:=by
 have n:∀{b:List Int}{g f:Int},b6 c 0 (b++[g])=O f->1<=f/\∃s,b6 c 0 b=O s/\be c (256*s+g)=O (.a f):=by
  intro b g f e;rw[jF]at e;rcases j:b6 c 0 b with _|s;·rw[j]at e;injection e
  .rw[j]at e;have e:b6 c s [g]=O f:=e;rw[ne]at e;have e:=qp e;refine hf (l.Xq _ _ e) λo o G o o o a p=>?_;injection a with a;subst a;exact⟨p.1,s,rfl,e⟩
 intro k;induction k with
 |zero=>
  intro b i f m j q h a;have:b=[]:=Rl (a7 m9 jk rfl m);subst this;injection h with h;subst h;rcases RN i with rfl|⟨u,g,rfl⟩;·rfl
  .rw[Ry]at a;have:=(n a).1;exact(Ar.dC [] [] mC .K rfl this).elim
 |succ k x=>
  intro b i f m j q h a;rcases RN b with rfl|⟨H,g,rfl⟩
  .injection h with h;subst h;rcases RN i with rfl|⟨u,g,rfl⟩;·rfl
   .rw[Ry]at a;have:=(n a).1;exact(Ar.dC [] [] mC .K rfl this).elim
  .rw[Ry]at h j m⊢;obtain⟨y,z,p,A⟩:=n h;rcases RN i with rfl|⟨u,v,rfl⟩;·injection a with a;subst a;exact(Ar.dC [] [] mC .K rfl y).elim
   .rw[Ry]at a q⊢;obtain⟨I,B,w,C⟩:=n a;have D:=l.ZS _ _ _ A C;have E:=j g (by simp);have F:=q v (by simp);have K:=nd l ⟨QL 0,by have:=l.Z3;exact bg bL fv rfl this⟩ p;have M:=nd l ⟨QL 0,by have:=l.Z3;exact bg bL fv rfl this⟩ w;have:z=B/\g=v:=B0 D E F;obtain⟨rfl,rfl⟩:=this;erw[x (by simp at m;exact m) (λr t=>j r (by simp[t])) (λr t=>q r (by simp[t])) p w];rfl
def f0(b c:List (Int×aa)):Prop:=∀k a,be b k=O a->be c k=O a
theorem f0.WZ(a:List (Int×aa)):f0 a a:=λb b c=>c
theorem f0.WF{a b:List (Int×aa)}(e:f0 c a)(f:f0 a b):f0 c b:=λk d g=>f k d (e k d g)
theorem f0.XH{b:List (Int×aa)}(e:f0 c b):∀{f:List Int}{s d:Int},b6 c s f=O d->b6 b s f=O d
|[],_,_,a=>a
|g::j,s,d,a=>by
 unfold b6 at a⊢;split at a;·cases a
 .rename_i h i;have:eL b s g=O h:=by unfold eL;erw[e _ _ (qp i)];rfl
  erw[this];exact e.XH a
theorem Fm{s e:Int}(i:eF c d)(m:0<=s/\s<d)(r:0<=e/\e<=255)(n:be c (256*s+e)=U):eF (c2 c (256*s+e) (.a d)) (d+1)/\f0 c (c2 c (256*s+e) (.a d))/\be (c2 c (256*s+e) (.a d)) (256*s+e)=O (.a d):=by
 refine⟨⟨λk o a=>?_,λk z p a j=>?_,by have:=i.Z3;exact bg bL (aq aG bk) rfl this⟩,λk o a=>?_,by erw[i7,if_pos rfl];rfl⟩
 .rw[i7]at a;split at a;·rename_i g;injection a with a;subst a;exact OB s e d g.symm (ex bl dk w_ rfl m.1 m.2) r rfl i.Z3 (Ar.dW [] [_] (a3 ag bk) rfl)
  .exact hf (i.Xq k o a) λt u p v q w g f=>wb t u p v (ex bl dk w_ rfl q.1 q.2) w g (ex dk bL (.i bL (a3 ag cv)) rfl f.2 f.1)
 .rw[i7]at a j;split at a
  .rename_i g;cases a;split at j;·rename_i x;erw[<-g,<-x];rfl
   .refine hf (i.Xq _ _ j) λb b y b b b h l=>?_;injection h with h;subst h;exact hg (a3 ag ag) (aT ap av) rfl l.2
  .split at j;·cases j;refine hf (i.Xq _ _ a) λb b y b b b h l=>?_;injection h with h;subst h;exact hg (a3 ag ag) (aT ap av) rfl l.2
   .exact i.ZS _ _ _ a j
 .erw[i7];split;·rename_i g;rw[g]at n;rw[n]at a;injection a
  .exact a
noncomputable def eZ(a:bN):List Int:=let b:=if a.1.head?=O 0 then a.2.set 0 0 else a.2;if a.1.getLast?=O 0 then b.set (b.length-1) 0 else b
structure fq(R S:List (Int×aa))(ab:List bN):Prop where
 WI:∀F ac,be S F=O ac->∃P∈ab,b6 R 0 P.1=O F/\ac=bh (eZ P)
 Zw:∀P∈ab,∃F,b6 R 0 P.1=O F/\be S F=O (bh (eZ P))
theorem fq.W'{f g:List (Int×aa)}(h:fq c g C)(i:f0 c f):fq f g C:=⟨λa j k=>by exact dY (h.WI a j k) λb d e l=>⟨b,d,i.XH e,l⟩,λb m=>by exact az (h.Zw b m) λa d e=>⟨a,i.XH d,e⟩⟩
theorem fq.WM{l:List (Int×aa)}{h:Int}{b:bN}(n:eF c d)(m:fq c l C)(o:∀e∈C,ji e.1)(p:ji b.1)(q:b.1∉C.map Rf)(i:b6 c 0 b.1=O h):fq c (c2 l h (bh (eZ b))) (C++[b]):=by
 refine⟨λj r f=>?_,λe a=>?_⟩
 .rw[i7]at f;split at f;·rename_i s;injection f with f;subst f;subst s;exact⟨b,by simp,i,rfl⟩
  .exact az (m.WI j r f) λe g k=>⟨e,by simp[g],k⟩
 .rcases Qh.mp a with a|a
  .refine az (m.Zw e a) λj g k=>⟨j,g,?_⟩;erw[i7];rewrite[if_neg];·exact k
   .rintro rfl;have:=xM n _ (P2 _) p (o e a) i g;exact q (by erw[this];exact Tp a)
  .rw[P_]at a;subst a;exact⟨h,i,by erw[i7,if_pos rfl];rfl⟩
theorem fq.X_{g:List (Int×aa)}{f:Int}(m:eF c d)(j:fq c g C)(n:∀e∈C,ji e.1)(o:ji e)(k:b6 c 0 e=O f):(∃a∈C,a.1=e/\be g f=O (bh (eZ a)))\/(e∉C.map Rf/\be g f=U):=by
 rcases l:be g f with _|p;·refine .inr ⟨λq=>?_,rfl⟩;refine az (P'.mp q) λa h r=>?_;obtain rfl:=r;refine az (j.Zw a h) λs b i=>?_;rw[k]at b;injection b with b;subst b;rw[l]at i;injection i
 .refine dY (j.WI f p l) λa h b i=>?_;have:=xM m _ (P2 _) (n a h) o b k;exact .inl ⟨a,h,this,by erw[i];rfl⟩
end
theorem uT(i:h=a2 an (a+2))(c:b l=O (.WE (e.map .a)))(o:e≠[])(g:∀d∈e,1<=d/\d<=255)(f:Q (.g L) b):h 58 [.b l] b Q:=by
 refine a' i (i:=[O (.b l),U]) rfl rfl λh i=>?_;simp?[mi];refine aY (qz c) ?_;simp?[mi];refine dt c _ ?_;simp?[mi];refine b7 (λf=>f) (λf=>by refine aY (cE c) ?_;simp?[mi];exact f) ?_;simp? only[mi,↓qz c,↓ce c,Pt,↓cE c];refine⟨λp=>absurd (Rl (a7 sF jk rfl p)) o,λk=>hL (λm n q=>∀j,(∀d∈n,1<=d/\d<=255)->q [O (.b l),j] b) (λk=>True) (λk=>True) ?_ ?_ trivial trivial e _ g⟩;·intro j m n u r _ _ _;rintro s g;refine⟨c,?_⟩;simp?[];refine eM i (g j (by simp)) ?_;simp?[];exact r _ (λd t=>g d (PY _ t))
 .intro m;rintro s _;refine⟨c,?_⟩;simp?[];exact f
theorem zS(a:List Int)(k:Nat)(b:k<a.length):bQ (a.map .a) (k:Int)=O (.a a[k]):=by erw[ih,QT,P8 b];rfl
theorem gm.XC{d:bN}(e:gm d):ji d.1:=by
 refine hf e.h? λh i j f g k l b=>?_;intro c a;rw[f]at a;simp only[Qh]at a;rcases g with⟨rfl,rfl⟩|⟨rfl,rfl⟩|⟨rfl,rfl⟩<;>simp only[P0,P_,false_or,or_false]at a;·have:=b c a;exact bx h4 jj gv rfl this.1 this.2
 .rcases a with rfl|a;·exact aR sJ rfl
  .have:=b c a;exact bx h4 jj gv rfl this.1 this.2
 .rcases a with a|rfl;·have:=b c a;exact bx h4 jj gv rfl this.1 this.2
  .exact aR sJ rfl
theorem qT(a b:Nat):hO a (b:Int)=P1 b a:=by unfold hO;erw[if_neg (b5 (.w (a3 bm aX)) rfl)];exact b4 (a9 (.YR (.a? aX (.w bm cS))) (.w ag ap)) rfl
theorem pW(xs:List aa)(a b:Nat):c8 xs (O (a:Int)) (O (b:Int))=(xs.drop a).take (b-a):=by
 show(xs.drop (hO xs.length a)).take (hO xs.length b-hO xs.length a)=_;erw[qT,qT];rcases RX xs.length a with c|c;·erw[Rm c,SR c,Rm (P2 _)];simp
 .erw[RW c];rcases RX xs.length b with d|d;·erw[SR d,RJ (by simp),RJ (by simp;exact bO a_ (ai ag (.i gw av)) rfl d)];rfl
  .erw[RW d];rfl
theorem Lg(u:h=a2 an (a+1)){f:bN}(B:gm f)(C:∀q (e:List Int),b q=U->1<=e.length->(∀d∈e,97<=d/\d<=100)->Q (.b q) (am b q (.WE (e.map .a)))):h 59 [bh f.1] b Q:=by
 refine hf B.h? λg e r m v j M w=>a' u (i:=[O (bh f.1),U,U]) rfl rfl λh u=>?_;have k:f.1.length=g.length+e.length+r.length:=by erw[m,PC,PC];rfl
 have n:∀d∈e,d≠0:=λd x c=>by rw[c]at x;exact absurd (w 0 x).1 (by decide)
 obtain⟨D,E,y⟩:∃i:Int,f.1[0]?=O i/\((i=0/\g.length=1)\/(i≠0/\g.length=0)):=by
  erw[m];rcases e with _|⟨o,N⟩;·exact absurd j (Tj 0)
  .rcases v with⟨rfl,rfl⟩|⟨rfl,rfl⟩|⟨rfl,rfl⟩;·exact⟨o,rfl,.inr ⟨n o (.head _),rfl⟩⟩
   .exact⟨0,rfl,.inl ⟨rfl,rfl⟩⟩
   .exact⟨o,rfl,.inr ⟨n o (.head _),rfl⟩⟩
 obtain⟨F,G,z⟩:∃i:Int,f.1[f.1.length-1]?=O i/\((i=0/\r.length=1)\/(i≠0/\r.length=0)):=by
  erw[<-Sp,m];have p:e≠[]:=λc=>by rw[c]at j;exact absurd j (Tj 0)
  have A:e.getLast?=O (e.getLast p):=List.getLast?_eq_some_getLast p;rcases v with⟨rfl,rfl⟩|⟨rfl,rfl⟩|⟨rfl,rfl⟩;·exact⟨_,by erw[P3,Uo,A];rfl,.inr ⟨n _ (VL p),rfl⟩⟩
  .exact⟨_,by erw[P3,Uo,A];rfl,.inr ⟨n _ (VL p),rfl⟩⟩
  .exact⟨0,by erw[Uo];rfl,.inl ⟨rfl,rfl⟩⟩
 refine ba 2 (λs=>∀c,c=(g.length:Int)->s [O (bh f.1),O (.a c),O (.a f.1.length)] b) ?_ λH l=>?_
 .intro c t;subst t;refine ba 1 (λs=>∀c,c=((g.length+e.length:Nat):Int)->s [O (bh f.1),O (.a g.length),O (.a c)] b) ?_ λH l=>?_;·intro c t;subst t;simp?[aO,aN,rc,bh];refine kF _ _ _ _ _ (O (g.length:Int)) (O ((g.length+e.length:Nat):Int)) rfl rfl ?_;simp?[];erw[pW,<-Ru,<-Rt,show g.length+e.length-g.length=e.length from Nat.add_sub_cancel_left ..];refine bG (show(f.1.drop g.length).take e.length=e by rw[m,P9,Sq,Ui]) ?_;exactλi I=>C i e I j w
  .simp?[aO,aN,aD,aC,aF,aE,rc,bh];refine bU ⟨λK=>aY (c:=.a F) (by refine bG (show((f.1.length:Int)-1)=((f.1.length-1:Nat):Int) by exact dd kh s3 w6 rfl k j) ?_;erw[ih,QT,G];rfl) ?_,λc=>absurd (dd kh s3 (a3 cS bm) rfl k j) c⟩;simp?[];refine bU ⟨λc=>?_,λc=>?_⟩;·exact l _ (z.elim (λd=>(dd kh (a9 bj aG) (aT kj (.W fO)) rfl k d.2)) λd=>absurd c d.1)
   .exact l _ (z.elim (λd=>absurd d.1 c) λd=>(dd kh oq (aT bm (.W fO)) rfl k d.2))
 .simp?[aD,aC,aF,aE,rc,bh,cA,PL,P6,Qn,Q5,QJ,Q6];erw[Pt];refine bU ⟨λK=>aY (c:=.a D) (by refine bG (show(0:Int)=((0:Nat):Int)from rfl) ?_;erw[ih,QT,E];rfl) ?_,λc=>absurd (dd kh s3 o4 rfl k j) c⟩;simp?[];refine bU ⟨λc=>?_,λc=>?_⟩;·exact l _ (y.elim (λd=>by erw[d.2];rfl) λd=>absurd c d.1)
  .exact l _ (y.elim (λd=>absurd d.1 c) λd=>by erw[d.2];rfl)
theorem Na(i:h=a2 an (a+3)){c:bN}(k:gm c)(l:∀s,ah b s->Q .WK s):h 60 [bh c.1,bh c.2] b Q:=by
 refine a' i (i:=[O (.h (c.1.map .a)),O (.h (c.2.map .a)),U,U]) rfl rfl λh i=>?_;have e:=k.XC;have t:=k.WJ;have u:=k.XO;refine ba 2 (λm=>∀f,m [O (.h (c.1.map .a)),O (.h (c.2.map .a)),f,U] b) ?_ λC v=>?_
 .intro f;simp?[aO,aN,vX];refine Lg i (a:=a+1) k λw x y z A=>?_;simp?[];refine uT i (a:=a) (ak _ _ _) (by rintro rfl;simp at z) (λd n=>by have:=A d n;exact bx h4 jj (.i bL ll) rfl this.1 this.2) ?_;simp?[];refine b7 (λl=>l) (λl=>by refine il _ _ _ _ ?_;simp?[];exact bU l) ?_;simp? only[Pt];refine⟨λq=>((Ar.cT [_] [] (a3 hl bm) g1 .K rfl q u).elim),λj=>⟨λq=>absurd (aQ iN (aT bm lB) rfl t) q,λj=>hL (λj o m=>∀g,(∀d∈o,0<=d/\d<=3)->m [O (.h (c.1.map .a)),O (.h (c.2.map .a)),f,g] (am b w (.WE (x.map .a)))) (λj=>True) (λj=>True) ?_ ?_ trivial trivial c.2 _ k.aix⟩⟩;·refineλf p o B r _ _ _ g e=>⟨trivial,?_⟩;simp?[];refine eM i (by have:=e f (.head _);exact bx eo bl (.i bl (aq ag iF)) rfl this.2 this.1) ?_;simp?[];exact r _ λd n=>e d (.tail _ n)
  .refineλp g _=>⟨trivial,?_⟩;simp?[];exact l _ (ah.WH _ y)
 .simp?[aD,aC,aF,aE,vX];refine hL (λp o m=>∀g,(∀d∈o,0<=d/\d<=255)->m [O (.h (c.1.map .a)),O (.h (c.2.map .a)),g,U] b) (λj=>True) (λj=>True) ?_ ?_ trivial trivial c.1 _ e;·intro f p o B r _ _ _;rintro g e;refine⟨trivial,?_⟩;simp?[];refine eM i (e f (by simp)) ?_;simp?[];exact r _ (λd n=>e d (PY _ n))
  .intro p;rintro g _;refine⟨trivial,?_⟩;simp?[];exact v _
noncomputable def ep(a:List Int):Int:=a.foldl (λk b=>256*k+b) 0
theorem lQ(a:List Int)(b:Int):ep (a++[b])=256*ep a+b:=by unfold ep;erw[Uq];rfl
theorem s9:∀(k:Nat)(a:List Int),a.length<=k->(∀c∈a,1<=c/\c<=255)->0<=ep a/\ep a<256^a.length:=by intro k;induction k with
 |zero=>intro a b _;have:a=[]:=Rl (a7 m9 jk rfl b);subst this;decide
 |succ k g=>
  intro a b d;rcases RN a with rfl|⟨h,c,rfl⟩;·decide
  .rw[Ry]at b d⊢;erw[lQ];have e:=g h (by simp at b;exact b) (λi j=>d i (by simp[j]));have f:=d c (by simp);erw[PC,SZ,Int.pow_succ];exact⟨V9 (UG (by decide) e.1) (QU (by decide) f.1),V6 (Int.add_lt_add_left (V7 f.2 (show(255:Int)<256 by decide)) _) (QU (R8 (S2 256 _ 1).symm) (QU (Int.mul_le_mul_of_nonneg_left e.2 (by decide)) (R8 (Int.mul_comm ..))))⟩
theorem E4:∀(k:Nat){c f:List Int},c.length<=k->(∀b∈c,1<=b/\b<=255)->(∀b∈f,1<=b/\b<=255)->ep c=ep f->c=f:=by intro k;induction k with
 |zero=>
  intro c f j d e a;have:c=[]:=Rl (a7 m9 jk rfl j);subst this;rcases RN f with rfl|⟨l,b,rfl⟩;·rfl
  .rw[Ry]at a e;rw[lQ]at a;have m:=s9 _ l (P2 _) (λg h=>e g (by simp[h]));have i:=e b (by simp);have:ep []=0:=rfl;exact(Ar.d3 [] [_,_,_] ey hh (aq aX av) (aT ag (.i (.G 256 av) ap)) .K rfl this i.1 m.1 a).elim
 |succ k o=>
  intro c f j d e a;rcases RN c with rfl|⟨p,n,rfl⟩;·exact o (Pp rfl) d e a
  .rcases RN f with rfl|⟨l,b,rfl⟩;·rw[Ry]at a d;rw[lQ]at a;have m:=s9 _ p (P2 _) (λg h=>d g (by simp[h]));have i:=d n (by simp);have:ep []=0:=rfl;exact(Ar.d3 [] [_,_,_] ey iD (aq aG av) (aT (.i (.G 256 ap) av) ag) .K rfl this m.1 i.1 a).elim
   .rw[Ry]at a d j⊢;rw[Ry]at a e⊢;rw[lQ,lQ]at a;have i:=d n (by simp);have q:=e b (by simp);have:ep p=ep l/\n=b:=B0 a ⟨QU (by decide) i.1,i.2⟩ ⟨QU (by decide) q.1,q.2⟩;erw[o (by simp at j;exact j) (λg h=>d g (by simp[h])) (λg h=>e g (by simp[h])) this.1,this.2];rfl
theorem xF(j:h=a2 an (a+1))(f:b l=O (.WE (e.map .a)))(m:e.length<=7)(r:∀o∈e,1<=o/\o<=255)(s:Q (.a (ep e)) b):h 61 [.b l] b Q:=by
 refine a' j (i:=[O (.b l),U,U]) rfl rfl λh j=>?_;simp?[vO];refine aY (cE f) ?_;simp?[vO];refine hL (λc p t=>∀g,e=c++p->t [O (.b l),O (.a (ep c)),g] b) (λu=>True) (λu=>True) ?_ ?_ trivial trivial e _ rfl
 .intro i c p y v _ _ _ g d;subst d;refine⟨f,?_⟩;have q:=s9 _ c (P2 _) (λi w=>r i (by simp[w]));have x:(256:Int)^c.length<=256^7:=by
   have:c.length<=7:=by simp at m;exact aQ (ai iI hj) dD rfl m
   have:=Nat.pow_le_pow_right (n:=256) (by decide) this;exact_mod_cast this
  simp?[];refine⟨⟨by decide,(Ar.dc [] [_,_] bl dk (aq ap (.H 72057594037927936)) iJ rfl q.1 q.2 x)⟩,?_⟩;have k:=v (O (.a i)) (by simp);rw[lQ]at k;exact k
 .refineλc g d=>⟨f,?_⟩;simp?[];rw[P3]at d;erw[<-d];exact s
theorem BS(c:h=a2 an (a+2))(e:1<=d/\d<=63)(f:Q (.a d) b):h 62 [.a d] b Q:=by refine a' c (i:=[O (.a d)]) rfl rfl λh c=>?_;simp?[DT];refine vt c ?_;simp?[];exact bG (show max 1 (P1 63 d)=d by exact bx bL (aq ag hl) (aT (.a? aG (.w hl ag)) ag) rfl e.1 e.2) f
structure cb(P:ab)(ad R S ac:Nat)(ae:List (Int×aa))(af:Int)(ag ah:List (Int×aa)):Prop where
 T?:∃ai,P ad=O (.WO 14 ai [(60,.b R),(61,.b S),(62,.a af),(63,.b ac)])
 alx:∃F,P R=O (.WN F ae)
 akz:∃F,P S=O (.WN F ag)
 aly:∃F,P ac=O (.WN F ah)
 Zu:R≠S/\R≠ac/\S≠ac
theorem cb.WG{f g:List (Int×aa)}(h:cb b a l G Z c d f g)(e:ah b T):cb T a l G Z c d f g:=by obtain⟨⟨i,j⟩,⟨t1,k⟩,⟨m,n⟩,⟨o,p⟩,q⟩:=h;exact⟨⟨i,e _ _ j⟩,⟨t1,e _ _ k⟩,⟨m,e _ _ n⟩,⟨o,e _ _ p⟩,q⟩
theorem cb.WS{f g:List (Int×aa)}(i:cb b a l G Z c d f g){h:Nat}(e:h∉[a,l,G,Z])(j:ca):cb (am b h j) a l G Z c d f g:=by obtain⟨⟨k,m⟩,⟨t1,n⟩,⟨o,p⟩,⟨q,r⟩,s⟩:=i;simp only[PM,P0,or_false,not_or]at e;exact⟨⟨k,((aH _ _ (PB e.1)).trans m)⟩,⟨t1,((aH _ _ (PB e.2.1)).trans n)⟩,⟨o,((aH _ _ (PB e.2.2.1)).trans p)⟩,⟨q,((aH _ _ (PB e.2.2.2)).trans r)⟩,s⟩
theorem cb.XV{h i:List (Int×aa)}(j:cb b a l G Z c d h i){f:Nat}(e:b f=U):f∉[a,l,G,Z]:=by
 obtain⟨⟨p,k⟩,⟨t1,m⟩,⟨q,n⟩,⟨r,o⟩,s⟩:=j;intro g;simp only[PM,P0,or_false]at g;rcases g with rfl|rfl|rfl|rfl;·rw[k]at e;injection e
 .rw[m]at e;injection e
 .rw[n]at e;injection e
 .rw[o]at e;injection e
theorem cb.XN{i j:List (Int×aa)}(k:cb b a l G Z c d i j):a≠l/\a≠G/\a≠Z:=by
 obtain⟨⟨m,e⟩,⟨t1,f⟩,⟨n,g⟩,⟨o,h⟩,p⟩:=k;refine⟨?_,?_,?_⟩<;>rintro rfl;·rw[e]at f;cases f
 .rw[e]at g;cases g
 .rw[e]at h;cases h
theorem GK(r:h=a2 an (a+1))(v:∀c d e f n,ah b n->(∀s∈[c,d,e,f],b s=U)->cb n c d e f [] 1 [] []->Q (.b c) n):mk h 14 [] b Q:=by
 refineλc w k C D=>a' r (i:=[O (.b c)]) rfl rfl λh r=>?_;simp?[Ei];intro d t1 t;have g:c≠d:=fx t;rewrite[cy _ (show am (am b c _) d _ c=_ from by exact((aH _ _ g).trans (ak _ _ _)))];refine⟨⟨rfl,Pp rfl⟩,?_⟩;simp?[];intro e x o;have i:c≠e:=fx o;have l:d≠e:=cM ((aH _ _ (PB g)).trans (ak _ _ _)) o;rewrite[cy _ (show am (am _ c _) e _ c=_ from by exact((aH _ _ i).trans (ak _ _ _)))];refine⟨⟨rfl,by simp[ci]⟩,?_⟩;simp? only[];refine cK rfl (Pp rfl) ?_;simp?[];intro f y m;have j:c≠f:=fx m;have p:e≠f:=cM ((aH _ _ (PB i)).trans (ak _ _ _)) m;have q:d≠f:=cM ((aH _ _ (PB g)).trans ((aH _ _ l).trans ((aH _ _ (PB g)).trans (ak _ _ _)))) m;refine nl (show am (am _ c _) f _ c=_ from by exact((aH _ _ j).trans (ak _ _ _))) rfl (Pp rfl) ?_;have z:b d=U:=by erw[<-t,aH _ _ (PB g)];rfl
 have A:b e=U:=by erw[<-o,aH _ _ (PB i),aH _ _ (PB l),aH _ _ (PB i)];rfl
 have B:b f=U:=by erw[<-m,aH _ _ (PB j),aH _ _ (PB p),aH _ _ (PB j),aH _ _ (PB q),aH _ _ (PB j)];rfl
 refine v c d e f _ ?_ ?_ ⟨⟨w,?_⟩,⟨t1,?_⟩,⟨x,?_⟩,⟨y,?_⟩,l,q,p⟩;·exact(((((ah.WZ b).WS k _).WS z _|>.WS k _).WS A _|>.WS k _).WS B _).WS k _
 .intro s u;simp only[PM,P0,or_false]at u;rcases u with rfl|rfl|rfl|rfl<;>assumption
 .erw[ak];rfl
 .erw[aH _ _ (PB g),aH _ _ q,aH _ _ (PB g),aH _ _ l,aH _ _ (PB g),ak];rfl
 .erw[aH _ _ (PB i),aH _ _ p,aH _ _ (PB i),ak];rfl
 .erw[aH _ _ (PB j),ak];rfl
theorem x9(f:eF c d)(s b:Int):(be c (256*s+b)).getD (.a (-1))=.a ((eL c s b).getD (-1))/\((eL c s b).getD (-1)<0↔eL c s b=U):=by
 unfold eL;rcases e:be c (256*s+b)with _|j;·exact⟨rfl,λa=>rfl,λa=>by decide⟩
 .refine O9 (f.Xq _ _ e) λa a g a a a h i a=>?_;obtain rfl:=h;exact⟨rfl,λe=>absurd (show g<0 from e) (R7.mpr (QU (show(0:Int)<=1 by decide) i)),λe=>aU e.symm⟩
theorem Bi{s f b:Int}(g:eF c d)(h:eL c s f=O b):1<=b/\b<d:=by refine hf (g.Xq _ _ (qp h)) λa a j a a a e i=>?_;injection e with e;subst e;exact i
theorem FE{z:Nat}(v:h=a2 an (a+1)){A B:List (Int×aa)}{f:List Int}(C:cb b l G Z z c d A B)(p:eF c d)(D:d<=1000)(g:Q (.a ((b6 c 0 f).getD (-1))) b):h 64 [.b l,bh f] b Q:=by
 refine a' v (i:=[O (.b l),O (.h (f.map .a)),U,U]) rfl rfl λh v=>?_;obtain⟨⟨N,w⟩,⟨t1,m⟩,_⟩:=C;simp?[Eh];refine hL (λi n q=>∀r s,f=i++n->b6 c 0 i=O s->0<=s->s<d->q [O (.b l),O (.h (f.map .a)),O (.a s),r] b) (λP=>True) (λq=>∀x,q (.a ((b6 c 0 f).getD (-1))) x b) ?_ ?_ trivial ?_ f _ 0 rfl rfl (QL _) (by have:=p.Z3;exact bg bL fv rfl this)
 .intro j i n R E _ _ F r s e o H I;subst e;refine⟨trivial,?_⟩;obtain⟨K,y⟩:=x9 p s j;simp?[Pm];refine a5 _ w _ ?_;simp?[Pm];refine aY ((iV m)) ?_;simp?[Pm];refine eD (λg=>by refine qF m _ _ _ ?_;simp?[Pm];exact g) ?_;simp? only[↓cH _ w,Pm,(iV m),↓nP m,K];refine⟨⟨by decide,(Ar.dc [] [_,_] dk bl (aq ap gZ) iJ rfl I H D)⟩,λt=>?_,λt=>?_⟩
  .have e:b6 c 0 (i++j::n)=U:=by erw[jF,o];show b6 c s (j::n)=_;unfold b6;erw[y.mp t];rfl
   have k:=F;rw[e]at k;exact k _
  .rcases u:eL c s j with _|M;·exact absurd (y.mpr u) t
   .have:=Bi p u;refine E _ M (by simp) ?_ (bg bL bl rfl this.1) this.2;erw[jF,o];show b6 c s [j]=_;erw[ne,u];rfl
 .refineλi r s e o _ _=>⟨trivial,?_⟩;simp?[];rw[P3]at e;rw[e,o]at g;exact g
 .intro x;simp?[];exact g
theorem GA(a:List Int)(b:Int)(c:a≠[]):fT (a.map .a) 0 (.a b)=O ((a.set 0 b).map .a):=by unfold fT;erw[if_pos (aR ke rfl),if_pos (by cases a with|nil=>exact absurd rfl c|cons _ _=>simp),Ul];rfl
theorem Gy(a:List Int)(b:Int)(c:a≠[]):fT (a.map .a) (-1) (.a b)=O ((a.set (a.length-1) b).map .a):=by
 have d:1<=a.length:=by cases a with|nil=>exact absurd rfl c|cons _ _=>simp
 unfold fT;erw[if_neg (aR wO rfl),if_pos (by simp;exact a7 fQ (aq aG bm) rfl d),Ul];congr 2;simp;exact b5 (a9 (.YR (.i lL bm)) f6) rfl
theorem zT(f:List Int):bQ (f.map .a) 0=f.head?.map .a:=by cases f<;>rfl
theorem pX(f:List Int):bQ (f.map .a) (-1)=f.getLast?.map .a:=by erw[t4,VM];rfl
theorem cb.Yo{f:List (Int×aa)}{g h:List (Int×aa)}(i:cb b a l G Z c d g h)(j:Nat):cb (Mine.am b l (.WN j f)) a l G Z f d g h:=by have k:=i.XN;obtain⟨⟨m,n⟩,⟨t1,s⟩,⟨o,p⟩,⟨q,r⟩,e⟩:=i;exact⟨⟨m,((aH _ _ k.1).trans n)⟩,⟨j,ak _ _ _⟩,⟨o,((aH _ _ (PB e.1)).trans p)⟩,⟨q,((aH _ _ (PB e.2.1)).trans r)⟩,e⟩
theorem cb.Yn{j f g:List (Int×aa)}(h:cb b a l G Z c d j g)(i:Nat):cb (Mine.am b G (.WN i f)) a l G Z c d f g:=by have k:=h.XN;obtain⟨⟨m,n⟩,⟨t1,o⟩,⟨r,s⟩,⟨p,q⟩,e⟩:=h;exact⟨⟨m,((aH _ _ k.2.1).trans n)⟩,⟨t1,((aH _ _ e.1).trans o)⟩,⟨i,ak _ _ _⟩,⟨p,((aH _ _ (PB e.2.2)).trans q)⟩,e⟩
theorem cb.Yp{f j g:List (Int×aa)}(h:cb b a l G Z c d f j)(i:Nat):cb (Mine.am b Z (.WN i g)) a l G Z c d f g:=by have k:=h.XN;obtain⟨⟨m,n⟩,⟨t1,o⟩,⟨p,q⟩,⟨r,s⟩,e⟩:=h;exact⟨⟨m,((aH _ _ k.2.2).trans n)⟩,⟨t1,((aH _ _ e.2.1).trans o)⟩,⟨p,((aH _ _ e.2.2).trans q)⟩,⟨i,ak _ _ _⟩,e⟩
theorem N2{x:Nat}(aj:h=a2 an (a+4)){o X:List (Int×aa)}{e:bN}(ao:cb b l G Z x c d o X)(M:eF c d)(ar:fq c o C)(aS:∀Y∈C,ji Y.1)(D:gm e)(aT:e.1∉C.map Rf)(as:d<=900)(u:(c.length:Int)<=d)(bi:o.length<=1000)(Y:∀au g i aw,cb au l G Z x g i aw X->bC (·∈[l,G,Z,x]) b au->eF g i->fq g aw (C++[e])->i<=d+4->(g.length:Int)<=i->aw.length<=o.length+1->Q .WK au):h 65 [.b l,bh e.1,bh e.2] b Q:=by
 refine a' aj (i:=[O (.b l),O (.h (e.1.map .a)),O (.h (e.2.map .a)),U,U,U,U]) rfl rfl λh aj=>?_;have aU:e.2≠[]:=by rintro m;have:=D.WJ;rw[m]at this;simp at this
 refine ba 3 (λp=>∀n ac,ah b ac->b n=U->ac n=O (.WE (e.2.map .a))->p [O (.b l),O (.h (e.1.map .a)),O (.h (e.2.map .a)),O (.b n),U,U,U] ac) ?_ λax y=>?_
 .rintro n ac N P R;have bj:=ao.XV P;refine ba 2 (λp=>∀q,ah b q->q n=O (.WE ((eZ e).map .a))->p [O (.b l),O (.h (e.1.map .a)),O (.h (e.2.map .a)),O (.b n),U,U,U] q) ?_ λax y=>?_
  .rintro q ad v;refine ba 2 (λp=>∀g i j z w r,cb r l G Z x g i o X->bC (·∈[l,G,Z,x]) q r->eF g i->f0 c g->b6 g 0 e.1=O j->i<=d+4->(g.length:Int)<=i->p [O (.b l),O (.h (e.1.map .a)),O (.h (e.2.map .a)),O (.b n),O (.a j),z,w] r) ?_ λax y=>?_;·intro g i j z w r E S F ae T H I;obtain⟨⟨ay,A⟩,⟨t1,K⟩,⟨az,af⟩,⟨aA,aB⟩,_⟩:=id E;have bm:=S _ _ v bj;simp? only[aO,aN,mj,↓jH bm,↓cH _ A,Pm,↓lV af];refine⟨by unfold aJ;exact a7 dP dm rfl bi,λj=>?_⟩;refine Y _ g i _ (E.Yn j) (((ad.WQ).WF S).WF (bC.WS _ (by simp))) F (fq.WM F (ar.W' ae) aS D.XC aT T) H I (pZ _ _ _)
   .have al:=ao.WG ad;simp?[aD,aC,aF,aE,aO,aN,mj];refine hL (λC aV p=>∀g i s z w r,e.1=C++aV->cb r l G Z x g i o X->bC (·∈[l,G,Z,x]) q r->eF g i->f0 c g->b6 g 0 C=O s->((0<=s/\s<i))->i<=d+C.length->(g.length:Int)<=i->p [O (.b l),O (.h (e.1.map .a)),O (.h (e.2.map .a)),O (.b n),O (.a s),z,w] r) (λt=>True) (λt=>True) ?_ ?_ trivial trivial e.1 c d 0 _ _ _ rfl al (bC.WZ _ _) M (f0.WZ _) rfl ⟨QL _,by have:=M.Z3;exact bg bL fv rfl this⟩ (by simp) u
    .intro k C aV bJ bn _ _ _;rintro g i s z w r V E S F ae T ⟨aG,aI⟩ H I;refine⟨trivial,?_⟩;have bo:0<=k/\k<=255:=D.XC k (by erw[V];simp);have aW:C.length<=4:=by have:=D.XO;rw[V]at this;simp at this;exact aQ (ai iI cj) g1 rfl this
     obtain⟨⟨ay,A⟩,⟨t1,K⟩,⟨az,af⟩,⟨aA,aB⟩,_⟩:=id E;refine ba 2 (λp=>∀B W j z am,cb am l G Z x B W o X->bC (·∈[l,G,Z,x]) r am->eF B W->f0 g B->be B (256*s+k)=O (.a j)->W<=i+1->(B.length:Int)<=W->p [O (.b l),O (.h (e.1.map .a)),O (.h (e.2.map .a)),O (.b n),O (.a s),z,O (.a (256*s+k))] am) ?_ λax y=>?_
     .rintro B W j z am aZ bp a0 a1 a3 bq br;obtain⟨⟨ay,A⟩,⟨t1,K⟩,⟨az,af⟩,⟨aA,aB⟩,_⟩:=id aZ;simp?[aO,aN,Pm];refine a5 _ A _ ?_;simp?[aO,aN,Pm];refine Lp K _ _ (aY a3 ?_);simp?[aO,aN,Pm];have a4:eL B s k=O j:=by unfold eL;erw[a3];rfl
      have:=Bi a0 a4;refine bn B W j _ _ _ (by erw[V];simp) aZ (S.WF bp) a0 (ae.WF a1) ?_ ⟨(bg bL bl rfl this.1),this.2⟩ (by simp;exact Ar.cT [_] [_,_,_] lH wW (aq ag (.i av fL)) rfl bq H) br;erw[jF,a1.XH T];show b6 B s [k]=_;erw[ne,a4];rfl
     .simp?[aD,aC,aF,aE,Pm];refine eD (λY=>by refine a5 _ A _ ?_;simp?[aD,aC,aF,aE,Pm];refine Iy K _ _ ?_;simp?[aD,aC,aF,aE,Pm];exact Y) ?_;simp? only[aD,aC,aF,aE,↓cH _ A,Pm,↓qb K];refine⟨⟨by decide,(Ar.lc [_] [_,_,_] bl dk (aq av (.H 900)) g1 wW iJ rfl aG aI as aW H)⟩,e6 _ _ _ ⟨λm=>?_,λm=>?_⟩⟩
      .have bs:be g (256*s+k)=U:=by
        rcases u:be g (256*s+k)with _|a8;·rfl
        .rw[u]at m;injection m
       refine cc (Fm F ⟨aG,aI⟩ bo bs) λbt bu bv=>?_;rewrite[lV K];refine⟨by unfold aJ;exact Ar.d3 [_,_] [_,_] s4 g1 (aq cS ap) (aq ap mN) h_ rfl as aW I H,λj=>?_⟩;have aK:=E.Yo (f:=c2 g (256*s+k) (.a i)) j;obtain⟨⟨bw,a9⟩,_⟩:=id aK;simp?[Pm];refine a5 _ a9 _ ?_;simp?[Pm];rewrite[cy _ a9];refine⟨⟨rfl,Pp rfl⟩,?_⟩;have bx:=pZ (256*s+k) (.a i) g;refine y _ (i+1) i _ _ ?_ ((bC.WS _ (by simp)).WF (bC.WS _ (by simp))) bt bu bv (Ar.dW [] [_] (aq bk bk) rfl) (Ar.cT [_,_] [_] mV (ai ap bk) (aq cS bk) rfl I bx);have aL:=aK.XN;obtain⟨_,bz,bA,bB,bD⟩:=aK;exact⟨⟨bw,by erw[ak];rfl⟩,by erw[aH _ _ (PB aL.1)];exact bz,by erw[aH _ _ (PB aL.2.1)];exact bA,by erw[aH _ _ (PB aL.2.2)];exact bB,bD⟩
      .rcases u:be g (256*s+k)with _|a8;·rw[u]at m;injection m
       .refine hf (F.Xq _ _ u) λt t j t t t bE t=>?_;obtain rfl:=bE;exact y g i j _ _ E (bC.WZ _ _) F (f0.WZ _) u (Ar.dW [] [_] (aq ag bk) rfl) I
    .intro C;rintro g i s z w r V E S F ae T ⟨aG,aI⟩ H I;refine⟨trivial,?_⟩;simp?[];rw[P3]at V;rw[<-V]at T H;have:=D.XO;exact y g i s _ _ _ E S F ae T (Ar.cT [_] [_,_] g1 (aq ag sc) xl rfl this H) I
  .obtain⟨aM,f,a_⟩:∃aM f,e.1=aM::f:=by
    refine h1 D.h? λbK bM bO bb t v t=>?_;rcases bF:e.1 with _|⟨k,f⟩;·rw[bF]at bb;have:=congrArg QI bb;simp at this;exact(b8 fQ r6 .K rfl v this).elim
    .exact wd k f rfl
   obtain⟨bc,aP⟩:∃bc,e.1.getLast?=O bc:=by
    rcases bd:e.1.getLast? with _|k;·rw[So,a_]at bd;injection bd
    .exact⟨k,rfl⟩
   have aR:e.1.head?=O aM:=by erw[a_];rfl
   refine ba 1 (λp=>∀q,ah b q->q n=O (.WE ((if e.1.head?=O 0 then e.2.set 0 0 else e.2).map .a))->p [O (.b l),O (.h (e.1.map .a)),O (.h (e.2.map .a)),O (.b n),U,U,U] q) ?_ λbP bf=>?_
   .rintro q ad v;simp? only[aD,aC,aF,aE,aO,aN,mj,pX,aP,Qy];refine⟨λm=>?_,λm=>y _ ad ?_⟩;·rewrite[pJ v];erw[Gy _ _ (by split<;>simp[aU])];refine y _ (ad.WS P _) ?_;erw[ak];unfold eZ;erw[aP,m,if_pos rfl];rfl
    .unfold eZ;erw[aP,if_neg (λw=>m (PS w))];exact v
   .simp? only[aD,aC,aF,aE,aO,aN,mj,zT,aR,Qy];refine⟨λm=>?_,λm=>bf _ N ?_⟩;·rewrite[pJ R];erw[GA _ _ aU];refine bf _ (N.WS P _) ?_;erw[ak,aR,m,if_pos rfl];rfl
    .erw[aR,if_neg (λw=>m (PS w))];exact R
 .simp?[aD,aC,aF,aE,mj];refine Na aj (a:=a) D λac N=>?_;have al:=ao.WG N;obtain⟨⟨ay,A⟩,⟨t1,K⟩,⟨az,af⟩,⟨aA,aB⟩,_⟩:=id al;simp?[];refine aY ((eJ (p:=an.WY h) A (Z:=64) (f:=64) rfl)) ?_;simp?[];refine FE aj (a:=a+2) al M (bg s4 rB rfl as) ?_;simp?[Pm];refine a5 _ A _ ?_;simp?[Pm];refine qD af _ _ ?_;simp?[Pm];have bG:(be o ((b6 c 0 e.1).getD (-1))).isSome=J:=by
   rcases bH:b6 c 0 e.1 with _|j
   .rcases u:be o (-1)with _|a8;·show(be o (-1)).isSome=_;erw[u];rfl
    .refine dY (ar.WI _ _ u) λbI t R t=>?_;have:=(nd M ⟨QL 0,by have:=M.Z3;exact bg bL fv rfl this⟩ R).1;exact(Ar.dC [] [] (aq aX lL) .K rfl this).elim
   .rcases ar.X_ M aS D.XC bH with⟨bI,R,v,_⟩|⟨_,v⟩;·exact absurd (by erw[<-v];exact Tp R) aT
    .show(be o j).isSome=_;erw[v];rfl
  erw[bG];simp?[];exactλn P=>y n _ (N.WF (ah.WH _ P)) (N.WK P) (ak _ _ _)
noncomputable def bR(a:List Int):List Int:=0::(a++[0])
noncomputable def mx(d:bN->List Int)(e:List bN)(f:List Int)(i:Nat)(g:Int):Prop:=∃b∈e,∃a,a<=i/\b.1<+:f.drop a/\∃c,(d b)[i-a]?=O c/\g<=c
noncomputable def u1(c:List bN)(d:List Int)(i:Nat):List Int:=c.flatMap λa=>(Qq (i+1)).filterMap λb=>if a.1.isPrefixOf (d.drop b)then a.2[i-b]? else U
def fH(a:List bN)(b:List Int)(k:Nat):Int:=(u1 a (bR b) (k+1)).foldl max 0
theorem u_:∀(xs:List Int)(c b:Int),(b<=xs.foldl max c↔b<=c\/∃d∈xs,b<=d)
|[],c,b=>by simp
|d::xs,c,b=>by
 erw[QJ];rewrite[u_ xs (max c d) b];simp only[PM,exists_eq_or_imp];constructor
 .rintro(a|a)
  .rcases((hg lF so rfl a):b<=c\/b<=d)with a|a;·exact .inl a
   .exact .inr (.inl a)
  .exact .inr (.inr a)
 .rintro(a|a|a);·exact .inl (hg cJ lF rfl a)
  .exact .inl (hg cJ sz rfl a)
  .exact .inr a
theorem A7:d∈u1 C e i↔∃b∈C,∃a,a<=i/\b.1<+:e.drop a/\b.2[i-a]?=O d:=by
 unfold u1;rewrite[VB];constructor
 .refineλj=>az j λb g c=>az (VC.mp c) λa f c=>?_;rw[Ri]at f;split at c;·rename_i h;exact⟨b,g,a,(aQ kl a_ rfl f),VI.mp h,c⟩
  .injection c
 .intro k;obtain⟨b,g,a,f,l,h⟩:=k;refine⟨b,g,VC.mpr ⟨a,Ri.mpr (aQ a_ kl rfl f),?_⟩⟩;erw[if_pos (VI.mpr l)];exact h
theorem DP(m:1<=d):d<=fH C e k↔mx Prod.snd C (bR e) (k+1) d:=by
 unfold fH;rewrite[u_];constructor
 .rintro(a|⟨b,a,c⟩);·exact(bx rC bL .K rfl a m).elim
  .obtain⟨f,g,h,i,j,l⟩:=A7.mp a;exact⟨f,g,h,i,j,b,l,c⟩
 .rintro⟨f,g,h,i,j,b,l,c⟩;exact .inr ⟨b,A7.mpr ⟨f,g,h,i,j,l⟩,c⟩
theorem DO(a:List bN)(b:List Int)(k:Nat):0<=fH a b k:=by unfold fH;rewrite[u_];exact .inl (QL _)
theorem x_{b:Int}(f:0<=d)(g:0<=b)(e:∀c,1<=c->(c<=d↔c<=b)):d=b:=by
 rcases Int.lt_trichotomy d b with a|a|a;·have:=(e b (ex dk bl hh rfl a f)).mpr (QL _);exact(ex dk pv .K rfl a this).elim
 .exact a
 .have:=(e d (ex dk bl hh rfl a g)).mp (QL _);exact(ex dk pv .K rfl a this).elim
theorem ET(a:bN):(eZ a).length=a.2.length:=by unfold eZ;dsimp only;split<;>split<;>simp
theorem EU{a:bN}(b:a.1.head?=O 0->i≠0)(d:a.1.getLast?=O 0->i≠a.2.length-1):(eZ a)[i]?=a.2[i]?:=by
 unfold eZ;dsimp only;split<;>split<;>rename_i e c<;>simp only[VO,VH];·have:=b c;have:=d e;simp[PB this,PB (b c)]
 .have:=d e;simp[PB this]
 .have:=b c;simp[PB this]
theorem A_(b:1<=k)(a:k<=e.length):∃d∈e,(bR e)[k]?=O d:=by refine⟨e[k-1]'(cp a_ fQ (a8 f6 ap) rfl a b),Rk _,?_⟩;unfold bR;obtain⟨c,rfl⟩:∃c,k=c+1:=⟨k-1,(a7 fQ (a9 ag oV) rfl b)⟩;erw[VQ,Rw (aQ fM bA rfl a),P8 (aQ fM bA rfl a)];rfl
theorem Lu(y:∀a∈C,gm a)(t:∀m∈e,1<=m)(z:1<=k)(u:k+1<=e.length):mx eZ C (bR e) (k+1) d↔mx Prod.snd C (bR e) (k+1) d:=by
 have v:∀a∈C,∀b,b<=k+1->a.1<+:(bR e).drop b->(eZ a)[k+1-b]?=a.2[k+1-b]?:=by
  refineλa g b h w=>EU (λc n=>?_) (λc n=>?_)
  .have:b=k+1:=(cp iL (a9 (.u cv ag) aX) iN rfl h n);subst this;obtain⟨A,o⟩:=w;obtain⟨m,p,q⟩:=A_ (e:=e) (k:=k+1) (b5 (ai aG bk) rfl) u;have:((bR e).drop (k+1))[0]?=O 0:=by
    erw[<-o];rcases l:a.1 with _|⟨i,f⟩;·rw[l]at c;injection c
    .rw[l]at c;injection c with c;subst c;rfl
   rw[Tr,Vt,q]at this;injection this with this;subst this;have:=t 0 p;exact(Ar.dC [] [] mC .K rfl this).elim
  .obtain⟨A,o⟩:=w;have B:=(y a g).WJ;have x:1<=a.1.length:=by
    rcases l:a.1 with _|⟨i,f⟩;·rw[l]at c;injection c
    .simp
   obtain⟨m,p,q⟩:=A_ (e:=e) (k:=k) z (aQ fM a_ rfl u);have:((bR e).drop b)[a.1.length-1]?=O 0:=by erw[<-o,Rw (a7 fQ (a8 f6 ag) rfl x),<-Sp];exact c
   rw[Tr,show b+(a.1.length-1)=k by exact f1 fQ (a9 ap bk) (a9 (.u h8 bj) lK) (a9 (.i bj f6) av) rfl x B n,q]at this;injection this with this;subst this;have:=t 0 p;exact(Ar.dC [] [] mC .K rfl this).elim
 constructor;·rintro⟨a,g,b,h,j,i,r,s⟩;exact⟨a,g,b,h,j,i,by erw[<-v a g b h j];exact r,s⟩
 .rintro⟨a,g,b,h,j,i,r,s⟩;exact⟨a,g,b,h,j,i,by erw[v a g b h j];exact r,s⟩
noncomputable def b9(a b:Int):List Int:=(Qq (b-a).toNat).map λ(i:Nat)=>a+i
theorem kL(a b:Int):dq a b=(b9 a b).map .a:=by unfold dq b9;erw[QX];rfl
theorem A6{b a:Int}:a∈b9 d b↔d<=a/\a<b:=by
 unfold b9;rewrite[P'];constructor;·rintro⟨i,c,rfl⟩;rw[Ri]at c;exact gX rZ (.i (aq ap sc) (a3 sc ag)) rfl c
 .rintro⟨e,f⟩;exact⟨(a-d).toNat,Ri.mpr (Ar.cT [] [_,_,_] dk pu (a8 (.YR pj) (.YR gw)) rfl f e),(dO cJ wq rfl e)⟩
def dr(d:List bN)(e:Option (List Int×List Int))(a:List Int)(b c:Int):List Int:=match e with
|some (f,g)=>if f=a then(b9 b (a.length-c+1)).filter λk=>Ps (k∈g)else(b9 b (a.length-c+1)).filter λk=>Ps (fH d a k.toNat%2=1)
|none=>(b9 b (a.length-c+1)).filter λk=>Ps (fH d a k.toNat%2=1)
def i9(a b:List Int):List Int:=(b9 0 (a.length+1)).filter λk=>Ps (k∈b)
theorem pT{a:Int}(b:d<a):b9 d a=d::b9 (d+1) a:=by have:=nq b;rw[kL,kL]at this;have c:(b9 d a).map aa.a=(d::b9 (d+1) a).map .a:=this;exact Um (λf g e=>aa.a.inj e)|>.mp c
theorem i1{a:Int}(b:a<=d):b9 d a=[]:=by unfold b9;refine bG (show(a-d).toNat=0 by exact dO cJ oM rfl b) ?_;rfl
theorem Gs{c a e:Int}(o:Int->Bool)(p:a<=d)(q:c<=e):(((b9 a e).filter o).filter λk=>Ps (d<=k/\k<c))=(b9 d c).filter o:=by
 have t:∀(i:Nat)(a:Int),a<=d->(e-a).toNat=i->(b9 a e).filter (λk=>Ps (d<=k/\k<c))=b9 d c:=by intro i;induction i with
  |zero=>intro a j f;erw[i1 (d:=a) (dO oM cJ rfl f),i1 (d:=d) (Ar.dc [] [_,_,_,_] cJ (aq av bj) w3 (aq ag bj) rfl q j f)];rfl
  |succ i r=>
   intro a j f;erw[pT (d:=a) (gX lw hp rfl f)];rcases Su a d with l|l;·erw[Tt (by simp;exactλu=>absurd u (Int.not_le.mpr l)),r (a+1) (dO dk sA rfl l) (gX lw rS rfl f)];rfl
   .have:a=d:=(ex cJ pv (aT ap ag) rfl l j);subst this;clear r j p;have v:∀(m:Nat)(b:Int),a<=b->(e-b).toNat=m->(b9 b e).filter (λk=>Ps (a<=k/\k<c))=b9 b c:=by intro m;induction m with
     |zero=>intro b _ g;erw[i1 (d:=b) (dO oM cJ rfl g),i1 (d:=b) (Ar.cT [] [_,_,_] cJ w3 (aq ag av) rfl q g)];rfl
     |succ m s=>
      intro b n g;erw[pT (d:=b) (a:=e) (gX lw hp rfl g)];rcases Su b c with h|h;·erw[Us (by simp;exact Ar.cT [] [_,_,_] dk pu (.i pu dk) rfl h n),s (b+1) (dO cJ lH rfl n) (gX lw rS rfl g),<-pT h];rfl
      .erw[Tt (by simp;exactλw=>h),s (b+1) (dO cJ lH rfl n) (gX lw rS rfl g),i1 h,i1 (dO cJ lH rfl h)];rfl
    erw[<-pT (gX lw hp rfl f)];exact v _ a (QL _) rfl
 erw[<-t _ a p rfl,VT,VT];congr 1;funext k;erw[Wx];rfl
theorem hN{m:aa->ab->(aa->ab->Prop)->Prop}{k:dh}(d:Int->Bool)(f:Int->Int)(o:k.WP b){Q:List aa->ab->Prop}(p:∀i∈e,∀a:aa->ab->Prop,a (.g (d i)) b->K (.a i) b a)(q:∀i∈e,d i=L->∀a:aa->ab->Prop,a (.a (f i)) b->m (.a i) b a)(n:Q (((e.filter d).map f).map .a) b):dS K m k (e.map .a) b Q:=by
 have r:((e.map aa.a).filter λc=>match c with|.a i=>d i|_=>J)=(e.filter d).map .a:=by erw[Ur];rfl
 refine jZ (λc=>match c with|.a i=>d i|_=>J) (λc=>match c with|.a i=>.a (f i)|c=>c) o (λc g a h=>?_) (λc g s a h=>?_) ?_;·refine az (P'.mp g) λi j l=>?_;obtain rfl:=l;exact p i j a h
 .refine az (P'.mp g) λi j l=>?_;obtain rfl:=l;exact q i j s a h
 .erw[r,QX];rw[QX]at n;exact n
theorem uZ(d:b a=O (.WE (e.map .a)))(c:Int)(Q):b3 .Y9 (.a c) (.b a) b Q=Q (.g (Ps (c∈e))) b:=by exact M1 d (uk c b e) Q
theorem N4{w q r:Nat}(n:h=a2 an (a+3)){z s:List (Int×aa)}{g:List Int}(D:cb b l G Z w c d z s)(f:b q=O (.WE (e.map .a)))(o:b r=O (.WE (g.map .a)))(E:e≠[])(p:∀t∈e,1<=t/\t<=255)(u:e.length<=7)(F:∀j∈g,0<=j/\j<=e.length)(H:s.length<=1000)(I:∀x,cb x l G Z w c d z (c2 s (ep e) (bh (i9 e g)))->bC (·∈[l,G,Z,w]) b x->Q .WK x):h 66 [.b l,.b q,.b r] b Q:=by
 refine a' n (i:=[O (.b l),O (.b q),O (.b r),U,U]) rfl rfl λh n=>?_;simp?[rh];refine aY (qz f) ?_;simp?[rh];refine aY (qz o) ?_;simp?[rh];refine uT n (a:=a) f E p ?_;simp?[];refine dt f _ ?_;simp?[];refine bU ?_;simp? only[↓ce f,Pt];refine⟨λK=>((Ar.cT [_] [] (a3 hl bm) dD .K rfl K u).elim),λy=>?_⟩;refine aY (cE o) ?_;simp?[];refine hL (λA B M=>∀m,(∀j∈B,0<=j/\j<=e.length)->M [O (.b l),O (.b q),O (.b r),m,U] b) (λy=>True) (λy=>True) ?_ ?_ trivial trivial g _ F;·intro j A B Y N _ _ _;rintro m p;refine⟨o,?_⟩;simp?[];refine dt f _ ?_;simp?[];simp? only[↓ce f,Pt];refine eM n (p j (by simp)) ?_;simp?[];exact N _ (λt P=>p t (PY _ P))
 .intro A;rintro m _;refine⟨o,?_⟩;simp?[];refine dt f _ ?_;simp?[];simp? only[↓ce f,Pt];refine⟨(a7 dD rV rfl u),by erw[i0];unfold aJ;exact a7 dD wp rfl u,?_⟩;erw[kL];refine hN (k:=.YM) (λk=>Ps (k∈g)) (λk=>k) trivial (λi R S m=>?_) (λi R y S m=>m) ?_;·simp?[];rewrite[uZ o];exact m
  .intro ac T;have v:=ah.WH (.WE ((SY (λk=>k) (Uu (λk=>Ps (k∈g)) (b9 0 (↑e.length+1)))).map .a)) T;have C:=D.WG v;obtain⟨⟨ad,V⟩,⟨t1,ae⟩,⟨af,ag⟩,⟨ai,W⟩,_⟩:=id C;simp?[];rewrite[jH (ak _ _ _)];simp?[Pm];refine a5 _ V _ ?_;simp?[Pm];refine xF n (a:=a+1) (v _ _ f) u p ?_;simp?[];rewrite[lV W];refine⟨by unfold aJ;exact a7 dP dm rfl H,λX=>?_⟩;erw[Sl];refine I _ ?_ (bC.WF ?_ (bC.WS _ (by simp)));·have:=C.Yp (g:=c2 s (ep e) (bh (i9 e g))) X;rw[Sl]at this;exact this
   .rw[Sl]at v;exact v.WQ
theorem kM(xs:List aa)(a:Nat):c8 xs (O (a:Int)) U=xs.drop a:=by
 show(xs.drop (hO xs.length a)).take (xs.length-hO xs.length a)=_;erw[qT];rcases RX xs.length a with b|b;·erw[Rm b,SR b,Rm (P2 _)];simp
 .erw[RW b,RJ (by simp)];rfl
theorem jL(xs:List aa)(a:Nat):c8 xs U (O (a:Int))=xs.take a:=by
 show(xs.drop 0).take (hO xs.length a-0)=_;erw[qT,Uv,Nat.sub_zero];rcases RX xs.length a with b|b;·erw[SR b,RJ (P2 _),RJ b];rfl
 .erw[RW b];rfl
noncomputable def gq(b:List Int)(d:Nat)(e:Nat->Int->Prop):Prop:=b.length=d+1/\(∀a∈b,0<=a)/\∀i a c,b[i]?=O a->1<=c->(c<=a↔e i c)
theorem gq.Xy{d f:Nat->Int->Prop}(c:gq e a d)(h:∀i b,1<=b->(d i b↔f i b)):gq e a f:=⟨c.1,c.2.1,λi j b k g=>(c.2.2 i j b k g).trans (h i b g)⟩
theorem gq.Ys{m:Nat->Int->Prop}(q:gq e a m)(g:l<e.length):gq (e.set l (max e[l] d)) a λi f=>m i f\/(i=l/\f<=d):=by
 refine cc q λr n o=>⟨by erw[VH];exact r,λh b=>?_,λi h f b p=>?_⟩
 .rcases List.mem_or_eq_of_mem_set b with b|rfl;·exact n h b
  .have:=n _ (Rk g);exact dO bl (aq aX pf) rfl this
 .rw[VO]at b;by_cases j:l=i
  .subst j;rw[if_pos rfl,if_pos g]at b;injection b with b;subst b;have:=o l _ f (P8 g) p;constructor
   .intro c;rcases((hg lF so rfl c):f<=e[l]\/f<=d)with k|k;·exact .inl (this.mp k)
    .exact .inr ⟨rfl,k⟩
   .rintro(c|⟨_,c⟩);·have:=this.mpr c;exact hg cJ lF rfl this
    .exact hg cJ sz rfl c
  .rw[if_neg j]at b;have:=o i h f b p;constructor;·exactλc=>.inl (this.mp c)
   .rintro(c|⟨c,_⟩);·exact this.mpr c
    .exact absurd c.symm j
def h0(d:List bN)(e:List Int)(a i:Nat)(f:Int):Prop:=∃b∈d,a<=i/\b.1<+:e/\∃c,(eZ b)[i-a]?=O c/\f<=c
theorem Fj{f:List Int}(a:bh f=bh e):f=e:=by have:=aa.h.inj a;exact Um (λc d b=>aa.a.inj b)|>.mp this
theorem Gz(a:List Int)(b:Nat)(c:Int)(d:b<a.length):fT (a.map .a) (b:Int) (.a c)=O ((a.set b c).map .a):=by unfold fT;erw[if_pos (b5 mU rfl),if_pos (by rw[Pt];exact aQ bA eX rfl d),Ul];rfl
theorem GL{a b:List Int}(g:e<+:a++d::b):e<+:a\/a++[d]<+:e:=by
 have h:a++[d]<+:a++d::b:=⟨b,by simp⟩;rcases List.prefix_or_prefix_of_prefix g h with c|c
 .rcases Vy.mp c with f|f;·exact .inr (by erw[f];exact List.prefix_refl _)
  .exact .inl f
 .exact .inr c
theorem LN{bC S:Nat}(bD:h=a2 an (a+1)){bk bY:List (Int×aa)}(bZ:cb b l G Z bC c d bk bY)(aP:eF c d)(bl:fq c bk C)(aS:∀p∈C,gm p)(b0:d<=1000)(b1:b S=O (.WE (e.map .a)))(aU:∀q∈e,1<=q/\q<=255)(aV:e.length<=7)(aI:∀f bn g,ah b bn->b f=U->bn f=O (.WE (((g.drop 1).take (e.length+1)).map .a))->gq g (e.length+2) (mx eZ C (bR e))->Q (.b f) bn):h 67 [.b l,.b S] b Q:=by
 refine a' bD (i:=[O (.b l),O (.b S),U,U,U,U,U,U,U]) rfl rfl λh bD=>?_;have aK:(bR e).length=e.length+2:=by unfold bR;simp
 have b2:∀q∈bR e,0<=q/\q<=255:=by
  intro q Y;unfold bR at Y;rcases PM.mp Y with rfl|Y;·exact aR sJ rfl
  .rcases Qh.mp Y with Y|Y;·have:=aU q Y;exact bx bL ll gv rfl this.1 this.2
   .rw[P_]at Y;exact bg ey gv rfl Y
 refine ba 1 (λI=>∀T M,ah b M->M T=O (.WE ((bR e).map .a))->I [O (.b l),O (.b S),O (.b T),U,U,U,U,U,U] M) ?_ λac aL=>?_
 .rintro T M bo ar;refine ba 1 (λI=>∀r aW,ah M aW->M r=U->aW r=O (.WE ((QE (e.length+3) (0:Int)).map .a))->I [O (.b l),O (.b S),O (.b T),O (.b r),U,U,U,U,U] aW) ?_ λac aL=>?_
  .rintro r aW bp au b3;have cN:T≠r:=by exact cM ar au
   have bE:=bZ.WG bo;obtain⟨⟨cO,bq⟩,⟨t1,aZ⟩,⟨cP,bF⟩,⟨cQ,cR⟩,_⟩:=id bE;refine ba 1 (λI=>∀g aw N y z u W,ah M W->W r=O (.WE (g.map .a))->gq g (e.length+2) (mx eZ C (bR e))->I [O (.b l),O (.b S),O (.b T),O (.b r),aw,N,y,z,u] W) ?_ λac aL=>?_;·rintro g aw N y z u W ad ax w;simp?[aO,aN,ja];refine dt (ad _ _ ar) _ ?_;simp?[aO,aN,ja];simp? only[aO,aN,ja,↓ce (ad _ _ ar),Pt,aK];refine dz ax _ _ _ (O 1) (O ((e.length+2:Nat):Int)) rfl rfl (λf aU=>aI f _ g ((bo.WF ad).WF (ah.WH _ aU)) ((bo.WF ad).WK aU) ?_ w);erw[ak];congr 2;refine bG (show(1:Int)=((1:Nat):Int)from rfl) ?_;erw[pW,<-Ru,<-Rt];rfl
   .simp?[aD,aC,aF,aE,aO,aN,ja];refine dt (bp _ _ ar) _ ?_;simp?[aD,aC,aF,aE,aO,aN,ja];simp? only[aD,aC,aF,aE,aO,aN,ja,↓ce (bp _ _ ar),Pt,aK];refine⟨by exact a7 dD (.i (aq gx oU) (a3 oU f3)) rfl aV,?_⟩;refine i8 (λi I=>∀(f:Nat)(g:List Int)(aw:Option aa)(N:Option aa)(y:Option aa)(z:Option aa)(u:Option aa) W,i=f->ah M W->W r=O (.WE (g.map .a))->(gq g (e.length+2) (λi o=>∃j,j<f/\h0 C ((bR e).drop j) j i o))->I [O (.b l),O (.b S),O (.b T),O (.b r),aw,N,y,z,u] W) (λX=>True) (λX=>True) ?_ ?_ trivial trivial 0 _ _ _ _ _ _ _ rfl bp b3 ⟨by simp,λD P=>(by erw[List.eq_of_mem_replicate P];decide),λi D o P al=>⟨λm=>?_,λm=>by exact az m λj m X=>gX sU cJ rfl m⟩⟩
    .intro i b7 b9 bH b_ _ _ _;rintro f g aw N y z u W rfl ad ax w;refine⟨trivial,aY rfl ?_⟩;simp?[];refine dz (ad _ _ ar) _ _ _ (O (f:Int)) U rfl rfl ?_;intro br bI;have b':c8 ((bR e).map .a) (O (f:Int)) U=((bR e).drop f).map .a:=by erw[kM,Ru];rfl
     erw[b'];have ca:=ad.WF (ah.WH (.WE (((bR e).drop f).map .a)) bI);have bJ:r≠br:=by exact cM ax bI
     simp?[];refine aY (cE (ak _ _ _)) ?_;simp?[];have cc:∀p∈C,p.1≠[]:=by refineλp A m=>h1 ((aS p A).h?) λcd cf cg V X bs X=>?_;rw[m]at V;have:=congrArg QI V;simp at this;exact(b8 fQ r6 .K rfl bs this).elim
     have bK:∀(g:List Int)(B:ab)(N y z u:Option aa),ah M B->B r=O (.WE (g.map .a))->gq g (e.length+2) (λi o=>(∃j,j<f/\h0 C ((bR e).drop j) j i o)\/h0 C ((bR e).drop f) f i o)->b7 .WL [O (.b l),O (.b S),O (.b T),O (.b r),O (.a f),N,y,z,u] B:=by
      refineλg B N y z u x am ch=>b_ (f+1) g _ _ _ _ _ _ rfl x am (ch.Xy λi o al=>⟨?_,?_⟩)
      .rintro(⟨j,a0,n⟩|n);·exact⟨j,by exact aQ bA kl rfl a0,n⟩
       .exact⟨f,by exact b5 sl rfl,n⟩
      .refineλci=>az ci λj a0 n=>?_;rcases(by exact aQ kl (.B bA bX) rfl a0:j<f\/j=f)with v|rfl;·exact .inl ⟨j,v,n⟩
       .exact .inr n
     have cS:r∉[l,G,Z,bC]:=bE.XV au;refine hL (λE bM I=>∀g s y z u B,ah M B->B r=O (.WE (g.map .a))->B br=O (.WE (((bR e).drop f).map .a))->(bR e).drop f=E++bM->b6 c 0 E=O s->gq g (e.length+2) (λi o=>(∃j,j<f/\h0 C ((bR e).drop j) j i o)\/h0 C E f i o)->I [O (.b l),O (.b S),O (.b T),O (.b r),O (.a f),O (.a s),y,z,u] B) (λI=>∀g N y z u B,ah M B->B r=O (.WE (g.map .a))->gq g (e.length+2) (λi o=>(∃j,j<f/\h0 C ((bR e).drop j) j i o)\/h0 C ((bR e).drop f) f i o)->I [O (.b l),O (.b S),O (.b T),O (.b r),O (.a f),N,y,z,u] B) (λX=>True) ?_ ?_ ?_ trivial ((bR e).drop f) g 0 _ _ _ _ ca (by exact((aH _ _ bJ).trans ax)) (ak _ _ _) rfl rfl (w.Xy λi o al=>⟨λm=>.inl m,λm=>m.elim id λ⟨p,A,_,m,_⟩=>absurd (Vx.mp m) (cc p A)⟩)
     .refineλq E bM cU cj _ ck _ g s y z u B x am a1 ae ay w=>⟨a1,?_⟩;have cV:q∈bR e:=QR (i:=f) (by erw[ae];simp);have cl:ji (E++[q]):=by
       refineλm F=>b2 m (QR (i:=f) ?_);erw[ae];rcases Qh.mp F with F|F;·simp[F]
       .rw[P_]at F;simp[F]
      have cm:f+E.length+1<=e.length+2:=by have:=congrArg QI ae;rw[Qe,PC,PL,aK]at this;exact ff (a9 (.u jt ap) (.i av m2)) (ai (.i fO aG) jt) rfl this
      have bP:=nd aP ⟨QL 0,by have:=aP.Z3;exact bg bL fv rfl this⟩ ay;obtain⟨cn,bQ⟩:=x9 aP s q;simp?[Pm];refine a5 _ (x _ _ bq) _ ?_;simp?[Pm];refine aY ((iV (x _ _ aZ))) ?_;simp?[Pm];refine eD (λaI=>by refine qF (x _ _ aZ) _ _ _ ?_;simp?[Pm];exact aI) ?_;simp? only[↓cH _ (x _ _ bq),Pm,(iV (x _ _ aZ)),↓nP (x _ _ aZ),cn];refine⟨⟨by decide,by exact Ar.dc [] [_,_] rB hp iD sm rfl b0 bP.2 bP.1⟩,λF=>?_,λF=>?_⟩
      .have co:=bQ.mp F;refine ck g _ _ _ _ _ x am (w.Xy λi o al=>or_congr Iff.rfl ⟨λ⟨p,A,n,v,t⟩=>⟨p,A,n,v.trans (by erw[ae];exact List.prefix_append _ _),t⟩,λ⟨p,A,n,v,t⟩=>⟨p,A,n,?_,t⟩⟩);rw[ae]at v;rcases GL v with af|⟨as,cp⟩;·exact af
       .refine az (bl.Zw p A) λcq ao X=>?_;rw[<-cp,jF,jF,ay]at ao;have:b6 c s [q]=U:=by erw[ne];exact co
        rw[show(O s).bind (λas=>b6 c as [q])=b6 c s [q]from rfl,this]at ao;injection ao
      .rcases bS:eL c s q with _|as;·exact absurd (bQ.mpr bS) F
       .have bt:b6 c 0 (E++[q])=O as:=by erw[jF,ay];show b6 c s [q]=_;erw[ne,bS];rfl
        have cr:∃ac:List Int,(be bk as).getD (.h [])=bh ac/\ac.length<=E.length+2/\∀i o,h0 C (E++[q]) f i o↔(h0 C E f i o\/(f<=i/\∃D,ac[i-f]?=O D/\o<=D)):=by
         have aM:∀p:bN,p.1<+:E++[q]↔(p.1=E++[q]\/p.1<+:E):=λp=>Vy;rcases bl.X_ aP (λaI cs=>(aS aI cs).XC) cl bt with⟨p,A,a4,bb⟩|⟨a4,bb⟩
         .refine⟨eZ p,by erw[bb];rfl,by erw[ET,(aS p A).WJ,a4];simp,λi o=>?_⟩;constructor
          .refineλct=>rx ct λR aj n v t=>?_;rcases(aM R).mp v with af|af;·refine az (bl.Zw R aj) λcq ao bT=>?_;rw[af,bt]at ao;injection ao with ao;subst ao;rw[bb]at bT;have:=Fj (PS bT);rw[<-this]at t;exact .inr ⟨n,t⟩
           .exact .inl ⟨R,aj,n,af,t⟩
          .rintro(⟨R,aj,n,v,t⟩|⟨n,t⟩);·exact⟨R,aj,n,(aM R).mpr (.inr v),t⟩
           .exact⟨p,A,n,(aM p).mpr (.inl a4),t⟩
         .refine⟨[],by erw[bb];rfl,by exact Pp rfl,λi o=>?_⟩;constructor
          .refineλcu=>rx cu λR aj n v t=>?_;rcases(aM R).mp v with af|af;·exact absurd (by erw[<-af];exact Tp aj) a4
           .exact .inl ⟨R,aj,n,af,t⟩
          .rintro(⟨R,aj,n,v,t⟩|⟨_,D,t,_⟩);·exact⟨R,aj,n,(aM R).mpr (.inr v),t⟩
           .simp at t
        refine dY cr λac cv bu cw=>?_;simp? only[↓cH _ (x _ _ bq),Pm,(iV (x _ _ bF)),↓nP (x _ _ bF),cv,bh];refine⟨by exact Pp rfl,?_⟩;refine hL (λK bU I=>∀g u(m:Int) aA,m=((f+K.length:Nat):Int)->ac=K++bU->ah M aA->aA r=O (.WE (g.map .a))->aA br=O (.WE (((bR e).drop f).map .a))->gq g (e.length+2) (λi o=>((∃j,j<f/\h0 C ((bR e).drop j) j i o)\/h0 C E f i o)\/(f<=i/\∃D,K[i-f]?=O D/\o<=D))->I [O (.b l),O (.b S),O (.b T),O (.b r),O (.a f),O (.a as),O (.a q),O (.a m),u] aA) (λX=>True) (λX=>True) ?_ ?_ trivial trivial ac g _ _ _ rfl rfl x am a1 (w.Xy λi o al=>⟨λm=>.inl m,λm=>m.elim id λ⟨_,D,m,_⟩=>by simp at m⟩)
        .intro D K bU cW cx _ _ _ g u m aA F V bv n bw w;subst F;refine⟨trivial,?_⟩;have bz:f+K.length<g.length:=by erw[w.1];rw[V]at bu;simp at bu;exact Ar.cT [_,_,_,_,_] [] (ai mP (.i av cD)) (ai (.i bj m1) g0) (a8 m4 (.i (.i av cD) aG)) rfl cm bu
         simp?[];refine fB n _ _ (aY (zS g (f+K.length) bz) ?_);simp?[];refine tw n _ _ _ ?_;simp?[];refine aY (Gz g (f+K.length) _ bz) ?_;refine cx _ (O (.a D)) _ _ ?_ (by erw[V];simp) (bv.WS au _) (ak _ _ _) (by exact((aH _ _ (PB bJ)).trans bw)) ((w.Ys (d:=D) bz).Xy λi o al=>?_);·erw[PC,SZ];exact b4 (aT (.i sb aG) (.W iI)) rfl
         .rewrite[or_assoc];refine or_congr Iff.rfl ⟨?_,?_⟩
          .rintro(⟨bc,bd,H,bf⟩|⟨rfl,H⟩);·refine⟨bc,bd,?_,bf⟩;erw[Rw (Rv.mp H).1];exact H
           .refine⟨by exact b4 sw rfl,D,?_,H⟩;refine bG (show f+K.length-f=K.length by exact b4 lv rfl) ?_;simp
          .intro cz;obtain⟨bc,bd,H,bf⟩:=cz;rcases Rg (i-f) K.length with bi|bi;·rw[Rw bi]at H;exact .inl ⟨bc,bd,H,bf⟩
           .rw[R2 bi]at H;have:i-f-K.length=0:=by
             rcases Nat.eq_zero_or_pos (i-f-K.length)with bB|bB;·exact bB
             .rw[R1 (by simp;exact bO (a8 aX r') (ai aG r') rfl bB)]at H;injection H
            rw[this]at H;injection H with H;subst H;exact .inr ⟨by exact em a_ (ai av fg) (a9 (.u fg av) aX) (a9 ap js) rfl bc bi this,bf⟩
        .refineλK g u m aA F V bv n bw w=>⟨trivial,?_⟩;simp?[];rw[P3]at V;subst V;refine cj g as _ _ _ _ bv n bw (by erw[ae];simp) bt (w.Xy λi o al=>?_);rw[or_assoc,cw i o]
     .refineλE g s y z u B x am a1 ae ay w=>⟨a1,?_⟩;simp?[];rw[P3]at ae;rw[<-ae]at w;exact bK _ _ _ _ _ _ x am w
     .intro g N y z u B x am w;simp?[];exact bK _ _ _ _ _ _ x am w
    .intro i b9 cX bH;rintro f g aw N y z u W rfl ad ax w;refine⟨trivial,?_⟩;simp?[];refine aL g _ _ _ _ _ _ ad ax (w.Xy λi o al=>?_);constructor;·intro cB;obtain⟨j,a0,p,A,n,v,t⟩:=cB;exact⟨p,A,j,n,v,t⟩
     .intro cC;obtain⟨p,A,j,n,v,t⟩:=cC;refine⟨j,?_,p,A,n,v,t⟩;rcases Rg j f with m|m;·exact m
      .rw[Rm (by exact f1 a_ (a9 av sO) (aq (.W sO) bm) kt rfl m aK bH)]at v;have:p.1=[]:=Vx.mp v;refine h1 ((aS p A).h?) λcd cf cg V X bs X=>?_;rw[this]at V;have:=congrArg QI V;simp at this;exact(b8 fQ r6 .K rfl bs this).elim
    .rw[List.getElem?_replicate]at P;split at P;·injection P with P;subst P;exact(bx rC bL .K rfl m al).elim
     .injection P
  .simp?[aD,aC,aF,aE,aO,aN,ja];refine⟨by exact Pp rfl,λD P=>?_⟩;have aB:=ah.WH (.WE [.a 0]) P;simp? only[↓ce (aB _ _ ar),Pt,aK];rewrite[qi (ak _ _ _)];refine⟨⟨by exact b5 (aq aX rY) rfl,by exact a7 dD (aq rY wi) rfl aV,by exact Pp rfl⟩,λr au=>aL r _ (aB.WF (ah.WH _ au)) (aB.WK au) ?_⟩;erw[ak];congr 2;refine bG (show((e.length+2:Nat):Int)+1=((e.length+3:Nat):Int) by exact b5 (aT rY (.W (.i ag c1))) rfl) ?_;erw[R3];erw[VF];generalize e.length+3=k;induction k with|zero=>rfl|succ k cF=>erw[Sj,Ts,cF,Sj];rfl
 .simp?[aD,aC,aF,aE,ja];refine⟨by exact Pp rfl,λD P=>?_⟩;have aB:=ah.WH (.WE [.a 0]) P;simp? only[↓BO (aB _ _ b1)];intro bd cG;have bV:=ah.WH (.WE (e.map .a)) cG;rewrite[dL (bV _ _ (ak _ _ _)) (ak _ _ _)];refine⟨by simp[aJ];exact a7 dD pb rfl aV,λm F=>?_⟩;have cI:=ah.WH (.WE ([.a 0]++e.map .a)) F;refine⟨by exact Pp rfl,λcY ay=>?_⟩;have bW:=ah.WH (.WE [.a 0]) ay;simp?[];rewrite[dL (bW _ _ (ak _ _ _)) (ak _ _ _)];refine⟨by simp[aJ];exact a7 dD xz rfl aV,λcK cL=>aL cK _ ((((aB.WF bV).WF cI).WF bW).WF (ah.WH _ cL)) ?_⟩;erw[ak];unfold bR;simp
variable{v:Option (List Int×List Int)}
def rs(b:List (Int×aa)):Option (List Int×List Int)->Prop|none=>b=[]|some (a,d)=>b=[(ep a,bh (i9 a d))]/\∀c∈a,1<=c/\c<=255
theorem LW{a:List Int}(c:gq e (a.length+2) (mx eZ C (bR a)))(h:∀i∈C,gm i)(j:∀b∈a,1<=b/\b<=255)(l:1<=k)(d:k+1<=a.length):((e.drop 1).take (a.length+1))[k]?=O (fH C a k):=by have m:=c.1;have f:k+1<e.length:=(b8 fM (a9 av (.i g0 aG)) (a8 bk av) rfl d m);erw[List.getElem?_take,if_pos (aQ fM kl rfl d),Tr,Ug 1 k,P8 f];congr 1;refine x_ (c.2.1 _ (Rk f)) (DO _ _ _) λn g=>?_;rw[c.2.2 (k+1) _ n (P8 f) g,Lu h (λb o=>(j b o).1) l d,DP g]
theorem GQ{am s:Nat}(p:h=a2 an (a+3)){V F:List (Int×aa)}{j f:Int}(ao:cb b l G Z am c d V F)(ar:eF c d)(as:fq c V C)(W:∀au∈C,gm au)(aw:d<=1000)(H:rs F v)(X:b s=O (.WE (e.map .a)))(ax:e≠[])(y:∀t∈e,1<=t/\t<=255)(u:e.length<=7)(m:1<=j/\j<=3)(q:1<=f/\f<=3)(I:∀z M,ah b M->b z=U->M z=O (.WE ((dr C v e j f).map .a))->Q (.b z) M):h 68 [.b l,.b s,.a j,.a f] b Q:=by
 refine a' p (i:=[O (.b l),O (.b s),O (.a j),O (.a f),U,U,U,U,U,U,U]) rfl rfl λh p=>ba 3 (λN=>∀r w,ah b w->w r=O (.WE (e.map .a))->N [O (.b l),O (.b s),O (.a j),O (.a f),O (.b r),O (.a j),O (.a (e.length-f)),U,U,U,U] w) ?_ λay P=>?_
 .rintro r w A Y;have ac:=ao.WG A;obtain⟨⟨aQ,ad⟩,⟨t1,aS⟩,⟨aU,aV⟩,⟨aW,ae⟩,_⟩:=id ac;refine ba 1 (λN=>N [O (.b l),O (.b s),O (.a j),O (.a f),O (.b r),O (.a j),O (.a (e.length-f)),O ((be F (ep e)).getD .WK),U,U,U] w) ?_ λay P=>?_
  .have af:dr C v e j f=((b9 j (e.length-f+1)).filter λk=>Ps (fH C e k.toNat%2=1))->bo (an.WY h) (gN 1 (gN 1 (gN 3 i'))) [O (.b l),O (.b s),O (.a j),O (.a f),O (.b r),O (.a j),O (.a (e.length-f)),O .WK,U,U,U] w (g7 Q):=by
    intro R;rw[R]at I;simp?[aO,aN,i',b1];refine aY ((eJ (p:=an.WY h) ad (Z:=65) (f:=67) rfl)) ?_;simp?[aO,aN,i',b1];refine LN p (a:=a+1) ac ar as W aw Y y u λz aX az aj al aA aB=>⟨by exact Ar.lc [_] [_,_] dD eo hh (aq ap c1) bL (.i (.i (aq gx ap) (a3 ap f3)) wr) rfl u q.2 m.1 m.2 q.1,by erw[i0];unfold aJ;exact en dD bL hh (ai mH cP) rfl u m.1 q.1,?_⟩;erw[kL];refine hN (k:=.YM) (λk=>Ps (fH C e k.toNat%2=1)) (λk=>k) trivial (λi o S n=>?_) (λi o aH S n=>n) ?_
    .rw[A6]at o;have aI:bQ (((az.drop 1).take (e.length+1)).map .a) i=O (.a (fH C e i.toNat)):=by
      have:i=(i.toNat:Int):=by exact ex cJ bL (aT ap (.W jq)) rfl o.1 m.1
      erw[this,ih,QT,LW aB W y (by exact ex cJ bL (ai aG jq) rfl o.1 m.1) (by exact Ar.d3 [_] [_,_,_] cJ (aq aG av) bL wy (ai sf ag) rfl o.1 q.1 m.1 o.2),R3];rfl
     simp?[];refine fB aA _ _ (aY aI ?_);simp?[];exact⟨by exact aR sY rfl,n⟩
    .intro t B;erw[Sl];exact I t _ ((A.WF aj).WF (ah.WH _ B)) ((A.WF aj).WK B) (ak _ _ _)
   rcases v with _|aK;·have H:F=[]:=H;subst H;exact af rfl
   .obtain⟨g,x⟩:=aK;obtain⟨rfl,aL⟩:=H;by_cases D:g=e
    .subst D;have T:be [(ep g,bh (i9 g x))] (ep g)=O (bh (i9 g x)):=if_pos rfl;erw[T];have R:dr C (O (g,x)) g j f=(b9 j (g.length-f+1)).filter λk=>Ps (k∈x):=if_pos rfl;rw[R]at I;simp?[aO,aN,i',bh,b1];refine⟨?_,?_⟩
     .have:(i9 g x).length<=(b9 0 (g.length+1)).length:=by unfold i9;exact Un _ _
      have aM:(b9 0 (g.length+1)).length=g.length+1:=by unfold b9;simp
      erw[Pt];unfold aJ;exact em dD jw sD h_ rfl u this aM
     .refine hN (k:=.YM) (λk=>Ps (j<=k/\k<g.length-f+1)) (λk=>k) trivial (λi o S n=>?_) (λi o aH S n=>n) ?_
      .simp?[];refine bU ?_;refine⟨λE=>?_,λE=>?_⟩
       .have aP:Ps (i<=g.length-f)=Ps (j<=i/\i<g.length-f+1):=by
         by_cases K:i<=g.length-f;·erw[decide_eq_true K,decide_eq_true ⟨E,by exact gX wX (a3 ag lu) rfl K⟩];rfl
         .erw[decide_eq_false K,decide_eq_false (by exact Ar.dC [_] [_,_,_] (.w wX) (.w (.i pu (a3 ag lu))) rfl K)];rfl
        erw[aP];exact n
       .rw[decide_eq_false (by exact Ar.dC [_] [_,_,_] (.w cJ) (.w (.i cJ wy)) rfl E)]at n;exact n
      .intro t B;erw[Sl];refine I t _ (A.WF (ah.WH _ B)) (A.WK B) ?_;erw[ak];unfold i9;erw[Gs _ (by exact bg bL bl rfl m.1) (by exact fK bL (aq oH fL) rfl q.1)];rfl
    .have T:be [(ep g,bh (i9 g x))] (ep e)=U:=by exact if_neg λE=>D (E4 _ (P2 _) aL y E)
     erw[T];exact af (if_neg D)
  .simp?[aD,aC,aF,aE,aO,aN,i',Pm];refine a5 _ ad _ ?_;simp?[aD,aC,aF,aE,aO,aN,i',Pm];refine aY ((iV ae)) ?_;simp?[aD,aC,aF,aE,aO,aN,i',Pm];refine xF p (a:=a+1) Y u y ?_;simp?[];refine qF ae _ _ _ ?_;simp?[];exact P
 .simp?[aD,aC,aF,aE,i'];refine uT p (a:=a) X ax y ?_;simp?[];refine dz X _ U (O (.a 63)) U (O ((63:Nat):Int)) rfl rfl ?_;intro z al;erw[jL,RJ (by rw[Pt];exact a7 dD pr rfl u)];simp?[];rewrite[BO (ak _ _ _)];intro r D;simp?[];refine BS p (by exact bx bL eo xm rfl m.1 m.2) ?_;simp?[];refine dt (ak _ _ _) _ ?_;simp?[];simp? only[↓ce (ak _ _ _),Pt];refine BS p (by exact bx eo bL xm rfl q.2 q.1) ?_;simp? !only[];exact P r _ ((ah.WH _ al).WF (ah.WH _ D)) (ak _ _ _)
theorem Mw{f:List Int}(c:b a=O (.WE (f.map .a)))(d:b l=O (.WE (e.map .a)))(Q):b3 .t (.b a) (.b l) b Q=Q (.g (Ps (f=e))) b:=by
 have g:dv (.b a) (.b l) b=O (Ps (f=e)):=by erw[nS c d (gC 8 f) (gC 8 e),nf];rfl
 exact ma g Q
theorem Mu(f a:List Int)(b Q):b3 .t (bh f) (bh a) b Q=Q (.g (Ps (f=a))) b:=by
 have c:dv (bh f) (bh a) b=O (Ps (f=a)):=by show(if bu 9 (bh f)&&bu 9 (bh a)then O (dx (bh f) (bh a))else U)=_;erw[p3,p3,xQ];rfl
 exact ma c Q
noncomputable def rr(b:bN)(d:List Int)(i:Nat)(e:Int)(a:Nat):Prop:=a<=i/\b.1<+:d.drop a/\∃c,b.2[i-a]?=O c/\e<=c
noncomputable def mw(a:ab)(b:Nat):Option (List Int×List Int)->Prop|none=>a b=O (.WE [])|some (e,f)=>∃c d,a b=O (.WE [.h [.b c,.b d]])/\a c=O (.WE (e.map .a))/\a d=O (.WE (f.map .a))
theorem mw.WG(d:mw b a v)(c:ah b T):mw T a v:=by
 rcases v with _|j;·exact c _ _ d
 .exact cn d λe f g h i=>⟨e,f,c _ _ g,c _ _ h,c _ _ i⟩
theorem JC(a5:h=a2 an (a+1)){j:Int}(af:b l=O (.WE (C.map g3)))(bC:∀g∈C,gm g)(ca:C.length<=1000)(M:mw b G v)(ay:b Z=O (.WE (e.map .a)))(X:e.length<=7)(Y:1<=d/\d<=3)(az:1<=j/\j<=3)(R:∀c aM,ah b aM->b c=U->aM c=O (.WE ((dr C v e d j).map .a))->Q (.b c) aM):h 75 [.b l,.b G,.b Z,.a d,.a j] b Q:=by
 refine a' a5 (i:=[O (.b l),O (.b G),O (.b Z),O (.a d),O (.a j),U,U,U,U,U,U,U,U,U,U,U,U]) rfl rfl λh a5=>?_;have a_:(bR e).length=e.length+2:=by unfold bR;simp
 have bD:dr C v e d j=((b9 d (e.length-j+1)).filter λk=>Ps (fH C e k.toNat%2=1))->∀x y,bo (an.WY h) (gN 2 j9) [O (.b l),O (.b G),O (.b Z),O (.a d),O (.a j),O (.WW d (e.length-j+1)),x,y,U,U,U,U,U,U,U,U,U] b (g7 Q):=by
  intro N x y;rw[N]at R;refine ba 2 (λD=>∀E p aj,ah b aj->aj E=O (.WE ((bR e).map .a))->E≠p->b p=U->aj p=O (.WE [])->D [O (.b l),O (.b G),O (.b Z),O (.a d),O (.a j),O (.WW d (e.length-j+1)),x,y,O (.b E),O (.b p),U,U,U,U,U,U,U] aj) ?_ λbb ac=>?_
  .rintro E p aj bE bF bH ad bI;simp?[aO,aN,j9];refine i8 (λi D=>∀aP aS H I q o K,ah b K->K E=O (.WE ((bR e).map .a))->(K p=O (.WE (((b9 d i).filter λk=>Ps (fH C e k.toNat%2=1)).map .a)))->D [O (.b l),O (.b G),O (.b Z),O (.a d),O (.a j),O (.WW d (e.length-j+1)),x,y,O (.b E),O (.b p),aP,aS,H,I,q,o,U] K) (λz=>True) (λz=>True) ?_ ?_ trivial trivial _ _ _ _ _ _ _ bE bF (by erw[i1 (QL _)];exact bI)
   .intro k cb aA bJ bc _ _ _;rintro aP aS H I q o K V al aU;refine⟨trivial,aY rfl (ba 2 (λD=>∀H I q o S,ah K S->D [O (.b l),O (.b G),O (.b Z),O (.a d),O (.a j),O (.WW d (e.length-j+1)),x,y,O (.b E),O (.b p),O (.a k),O (.a (fH C e k.toNat)),H,I,q,o,U] S) ?_ λbb ac=>?_)⟩
    .rintro H I q o S A;have ao:=A _ _ aU;have bd:(b9 d (k+1))=b9 d k++[k]:=by unfold b9;refine bG (show(k+1-d).toNat=(k-d).toNat+1 by exact dO cJ (a9 (.YR (.u cv ag)) (.i sa aG)) rfl aA) ?_;erw[List.range_succ,PU];congr 1;show[d+((k-d).toNat:Int)]=[k];congr 1;exact dO cJ wq rfl aA
     have bK:(b9 d k).length<=7:=by unfold b9;simp;exact Ar.d3 [_] [_,_,_] dD bL hh (a3 av oH) (aq pg hj) rfl X az.1 Y.1 bJ
     simp? only[aO,aN,(dp ao).1,↓hU ao];refine⟨by exact aR sY rfl,λn=>⟨?_,?_⟩,λn=>?_⟩;·have:=Un (λk=>Ps (fH C e k.toNat%2=1)) (b9 d k);erw[Pt];unfold aJ;exact cp dD fP h_ rfl bK this
     .refine bc _ _ _ _ _ _ _ ((V.WF A).WS ad _) (by exact((aH _ _ bH).trans (A _ _ al))) ?_;erw[ak,bd,Ut,Us (by simp[n]),PU];rfl
     .refine bc _ _ _ _ _ _ _ (V.WF A) (A _ _ al) ?_;erw[ao,bd,Ut,Tt (by simp[n]),List.filter_nil,P3];rfl
    .simp?[aD,aC,aF,aE];refine aY (cE (V _ _ af)) ?_;simp?[aD,aC,aF,aE];refine qI g3 (λbe D=>∀ae n H I q o S,C=ae++be->ah K S->0<=n->(∀m,1<=m->(m<=n↔∃g∈ae,∃c,rr g (bR e) (k.toNat+1) m c))->D [O (.b l),O (.b G),O (.b Z),O (.a d),O (.a j),O (.WW d (e.length-j+1)),x,y,O (.b E),O (.b p),O (.a k),O (.a n),H,I,q,o,U] S) (λz=>True) (λz=>True) ?_ ?_ trivial trivial C [] 0 _ _ _ _ _ rfl (ah.WZ _) (QL _) λm r=>⟨λn=>by exact(bx rC bL .K rfl n r).elim,λ⟨g,af,_⟩=>by cases af⟩
     ··intro g be cc bM _ _ _ ae n H I q o S ar A B W;have aV:=bC g (by erw[ar];simp);have bP:=aV.XO;have bf:=aV.WJ;refine⟨A _ _ (V _ _ af),aY (c:=[O (.b l),O (.b G),O (.b Z),O (.a d),O (.a j),O (.WW d (e.length-j+1)),x,y,O (.b E),O (.b p),O (.a k),O (.a n),O (bh g.1),O (bh g.2),q,o,U]) rfl ?_⟩;have bg:=A _ _ al;simp?[];refine dt bg _ ?_;simp?[];simp? only[↓ce bg,Pt,a_,show∀f,cz .WJ [bh f]=cz .WJ [.h (f.map .a)]fromλz=>rfl];refine⟨by exact cp dD (ai ap cj) (.i (aq gx wu) (a3 wu f3)) rfl X bP,?_⟩;refine i8 (λi D=>∀(c:Nat)(n:Int)(q:Option aa)(o:Option aa) as,i=c->ah K as->0<=n->(∀m,1<=m->(m<=n↔(∃g∈ae,∃c,rr g (bR e) (k.toNat+1) m c)\/∃t,t<c/\rr g (bR e) (k.toNat+1) m t))->D [O (.b l),O (.b G),O (.b Z),O (.a d),O (.a j),O (.WW d (e.length-j+1)),x,y,O (.b E),O (.b p),O (.a k),O (.a n),O (bh g.1),O (bh g.2),q,o,U] as) (λz=>True) (λz=>True) ?_ ?_ trivial trivial 0 n _ _ _ rfl A B (λm r=>(W m r).trans ⟨λF=>.inl F,λF=>F.elim id λ⟨t,F,_⟩=>by exact(a7 sU .K rfl F).elim⟩)
       .intro i bS bi au bT _ _ _;rintro c n q o as rfl aB B W;refine⟨trivial,aY rfl ?_⟩;have ao:=aB _ _ al;simp? only[show∀f,cz .WJ [bh f]=cz .WJ [.h (f.map .a)]fromλz=>rfl,Pt];refine dz ao _ _ _ (O (c:Int)) (O ((c+g.1.length:Nat):Int)) rfl rfl ?_;intro bn aW;have aw:=aB.WF (ah.WH (.WE (c8 ((bR e).map .a) (O (c:Int)) (O ((c+g.1.length:Nat):Int)))) aW);have bp:c8 ((bR e).map .a) (O (c:Int)) (O ((c+g.1.length:Nat):Int))=(((bR e).drop c).take g.1.length).map .a:=by erw[pW,<-Ru,<-Rt];refine bG (show c+g.1.length-c=g.1.length by exact b4 lv rfl) ?_;with_reducible rfl
        have aI:∀(ax:Int)(o:Option aa),0<=ax->(∀m,1<=m->(m<=ax↔m<=n\/rr g (bR e) (k.toNat+1) m c))->bS .WL [O (.b l),O (.b G),O (.b Z),O (.a d),O (.a j),O (.WW d (e.length-j+1)),x,y,O (.b E),O (.b p),O (.a k),O (.a ax),O (bh g.1),O (bh g.2),O (.a c),o,U] (am as bn (.WE (c8 ((bR e).map .a) (O (c:Int)) (O ((c+g.1.length:Nat):Int))))):=by
         refineλax o bV bW=>bT (c+1) ax _ _ _ rfl aw bV (λm r=>?_);rewrite[bW m r,W m r,or_assoc];refine or_congr Iff.rfl ⟨?_,?_⟩
         .rintro(⟨t,aZ,s⟩|s);·exact⟨t,by exact aQ bA kl rfl aZ,s⟩
          .exact⟨c,by exact b5 sl rfl,s⟩
         .rintro⟨t,aZ,s⟩;rcases(by exact aQ kl (.B bA bX) rfl aZ:t<c\/t=c)with u|rfl;·exact .inl ⟨t,u,s⟩
          .exact .inr s
        simp?[];rewrite[jH (ak _ _ _)];erw[bp];refine bG (show aa.h ((((bR e).drop c).take g.1.length).map .a)=bh (((bR e).drop c).take g.1.length)from rfl) ?_;simp?[];erw[Mu];simp?[];refine b7 (λR=>by exact bU R) (λR=>R) ?_;simp? only[show∀f,cz .WJ [bh f]=cz .WJ [.h (f.map .a)]fromλz=>rfl,Pt];have bq:((bR e).drop c).take g.1.length=g.1↔g.1<+:(bR e).drop c:=by rewrite[List.prefix_iff_eq_take];exact eq_comm
        erw[<-bp];refine⟨λs=>⟨λu=>⟨λT=>?_,λT=>?_⟩,λu=>?_⟩,λs=>?_⟩
        .have a0:(k+1-c).toNat<g.2.length:=by exact Ar.cT [_,_,_] [_] iN wY (a8 (.YR (.u bk fh)) ag) rfl bf T
         have bY:bQ (g.2.map .a) (k+1-c)=O (.a g.2[(k+1-c).toNat]):=by have:=zS g.2 _ a0;rw[VZ (by exact u)]at this;exact this
         simp? only[show∀f,eN (bh f)=eN (.h (f.map .a))fromλz=>rfl,bY];have br:k.toNat+1-c=(k+1-c).toNat:=by exact Ar.cT [_] [_,_] cJ bL (a9 (.u sf ag) (.YR (.u cv bm))) rfl aA Y.1
         refine aI _ _ (by exact dO bl (aq aX pf) rfl B) λm r=>?_;constructor
         .intro P;rcases(by exact hg lF so rfl P:m<=n\/m<=g.2[(k+1-c).toNat])with w|w;·exact .inl w
          .refine .inr ⟨by exact fK (aq aX (.u bk bm)) (ai ag (.i fN aG)) rfl u,bq.mp s,_,?_,w⟩;erw[br];exact P8 a0
         .rintro(P|⟨_,_,F,w,bZ⟩);·exact hg cJ lF rfl P
          .rw[br,P8 a0]at w;injection w with w;subst w;exact hg cJ sz rfl bZ
        .refine aI _ _ B λm r=>⟨.inl,λP=>P.elim id λ⟨_,_,F,w,_⟩=>?_⟩;have:=(Rv.mp w).1;exact(Ar.dc [_,_,_] [_] iN (a8 (.u (.i fN aG) av) ag) (.w wY) .K rfl bf this T).elim
        .exact aI _ _ B λm r=>⟨.inl,λP=>P.elim id λ⟨w,_⟩=>by exact Ar.d3 [_] [_,_,_,_] cJ bL (ai ag sf) (.w (aq aX (.u cv bm))) (aq av bj) rfl aA Y.1 w u⟩
        .exact aI _ _ B λm r=>⟨.inl,λP=>P.elim id λ⟨_,w,_⟩=>absurd (bq.mpr w) s⟩
       .intro i bi aK au;rintro c n q o as rfl aB B W;refine⟨trivial,?_⟩;simp?[];refine bM (ae++[g]) n _ _ _ _ _ (by erw[ar];simp) aB B λm r=>?_;rewrite[W m r];constructor
        .rintro(⟨aL,s,u⟩|⟨t,s,u⟩);·exact⟨aL,by simp[s],u⟩
         .exact⟨g,by simp,t,u⟩
        .rintro⟨aL,s,t,u⟩;rcases Qh.mp s with T|T;·exact .inl ⟨aL,T,t,u⟩
         .rw[P_]at T;subst T;refine .inr ⟨t,?_,u⟩;have:=u.2.1.length_le;rw[Qe,a_]at this;have b0:1<=aL.1.length:=by refine h1 aV.h? λcd cf cg N z b1 z=>?_;erw[N];simp;exact bO fQ (ai aG (.i ap js)) rfl b1
          exact f1 fQ (ai ag (.u g0 av)) (aq (.i (.u (.W g0) bm) aG) kq) (a8 av bj) rfl b0 this au
     .intro ae n H I q o S ar A B W
      .refine⟨A _ _ (V _ _ af),?_⟩;simp?[];rw[P3]at ar;have:n=fH C e k.toNat:=x_ B (DO _ _ _) λm r=>by rewrite[W m r,DP r];erw[ar];exact Iff.rfl
       subst this;exact ac _ _ _ _ _ A
   .intro i bi aK au;rintro aP aS H I q o K V al aU;refine⟨trivial,?_⟩;simp?[];refine R p K V ad ?_;erw[aU];rcases aK with rfl|aK;·erw[i1 (QL _),i1 au];rfl
    .refine bG (show i=e.length-j+1 by exact Ar.cT [_] [_,_] (aq ag lu) (aq lu ag) (aT ag lu) rfl aK au) ?_;with_reducible rfl
  .simp?[aD,aC,aF,aE,aO,aN,j9];refine⟨by exact Pp rfl,λbn aW=>?_⟩;have aw:=ah.WH (.WE [.a 0]) aW;rewrite[dL (ak _ _ _) (aw _ _ ay)];refine⟨by simp[aJ];exact a7 dD pb rfl X,λn B=>?_⟩;have bs:=ah.WH (.WE ([.a 0]++e.map .a)) B;refine⟨by exact Pp rfl,λbt a1=>?_⟩;have a4:=ah.WH (.WE [.a 0]) a1;simp?[aD,aC,aF,aE,aO,aN,j9];rewrite[dL (a4 _ _ (ak _ _ _)) (ak _ _ _)];refine⟨by simp[aJ];exact a7 dD xz rfl X,λbu b2=>⟨by exact Pp rfl,λp ad=>?_⟩⟩;have bv:=ah.WH (.WE ([.a 0]++e.map .a++[.a 0])) b2;have bw:bu≠p:=by exact fx ad
   refine ac bu p _ ((((aw.WF bs).WF a4).WF bv).WF (ah.WH _ ad)) ?_ bw ((((aw.WF bs).WF a4).WF bv).WK ad) (ak _ _ _);erw[aH _ _ bw,ak];unfold bR;simp
 refine ba 2 (λD=>∀x y,dr C v e d j=((b9 d (e.length-j+1)).filter λk=>Ps (fH C e k.toNat%2=1))->D [O (.b l),O (.b G),O (.b Z),O (.a d),O (.a j),O (.WW d (e.length-j+1)),x,y,U,U,U,U,U,U,U,U,U] b) ?_ λbb ac=>?_;·exactλx y N=>bD N x y
 .simp?[aD,aC,aF,aE,j9];refine dt ay _ ?_;simp?[aD,aC,aF,aE,j9];simp? only[aD,aC,aF,aE,j9,↓ce ay,Pt];refine⟨⟨by exact bx eo bL r8 rfl Y.2 Y.1,by exact Ar.dc [_] [_] dD bL eo wr rfl X az.1 az.2⟩,?_⟩;rcases v with _|b3;·have M:b G=O (.WE []):=M;simp? only[↓cE M];refine QN M ?_;simp?[];exact ac _ _ rfl
  .obtain⟨bt,bz⟩:=b3;refine cn M λch ci M a1 b6=>?_;refine aY (cE M) ?_;simp?[];refine QN M ?_;simp? !only[];unfold dg;simp?[];rewrite[Mw a1 ay];simp?[];refine bU ?_;refine⟨λN=>?_,λN=>?_⟩
   .rw[show dr C (O (bt,bz)) e d j=_ from if_pos N]at R;refine⟨by erw[i0];unfold aJ;exact en dD bL hh (ai mH cP) rfl X Y.1 az.1,?_⟩;erw[kL];refine hN (k:=.YM) (λk=>Ps (k∈bz)) (λk=>k) trivial (λi b8 b_ F=>?_) (λi b8 z b_ F=>F) ?_;·simp?[];rewrite[uZ b6];exact F
    .intro b' bB;erw[Sl];exact R b' _ (ah.WH _ bB) bB (ak _ _ _)
   .refine QN M ?_;simp?[];exact ac _ _ (if_neg N)
section
set_option backward.eqns.nonrecursive false
set_option backward.eqns.deepRecursiveSplit false
def jg(a:ab)(e:Nat):Prop:=∃f b g c,a e=O (.WO 13 f [(59,.b b)])/\a b=O (.WN g c)/\∀d∈bn,be c (14*1048576+d)=O (.a (bF d))
theorem jg.Xo(d:jg b a)(c:fI b T):jg T a:=by exact rw d λe f g h i j k=>ru e f g h (c _ _ i nL) (c _ _ j Dt) k
theorem BZ(f:h=a2 an (a+1))(g:0<=d/\d<=255)(c:Q (.a (14*1048576+d)) b):h 55 [.a 14,.a d] b Q:=by refine a' f (i:=[O (.a 14),O (.a d)]) rfl rfl λh f=>?_;simp?[DZ];refine b7 (λc=>by exact bU c) (λc=>c) ?_;refine⟨λi=>⟨λi=>⟨⟨by decide,by decide⟩,c⟩,λe=>absurd (bg ll (a3 ag (.H 1048576)) rfl g.2) e⟩,λe=>absurd g.1 e⟩
theorem Be(c:h=a2 an (a+2))(g:jg b l)(f:d∈bn)(i:Q (.a (bF d)) b):h 57 [.b l,.a d] b Q:=by refine rw g λm n o p j e k=>a' c (i:=[O (.b l),O (.a d)]) rfl rfl λh c=>?_;simp?[ri,Pm];refine a5 _ j _ ?_;simp?[ri,Pm];refine aY ((iV e)) ?_;simp?[ri,Pm];refine BZ c (a:=a) (qP d f) ?_;simp?[];refine LH e _ _ ?_;simp?[];simp? only[↓CX e,k d f];exact i
noncomputable def fF(a:Bool):List aw->Nat->Option Nat|[],_=>U|c::d,s=>if dJ c then(match a0 c with|[]=>fF a d (s+1)|b::_=>if bF b=0 then fF a d (s+1)else if bF b=b\/a=L then O s else U)else U
noncomputable def e_:List aw->Bool|[]=>L|a::b=>if dJ a then e_ b else Ps (bH a∈[(5:Int),13,6,7,10,11,9])
noncomputable def dE:List aw->Nat×List Int|[]=>(0,[])|a::b=>if dJ a=L/\∀c∈a0 a,bF c≠0 then((dE b).1+1,(a0 a).map bF++(dE b).2)else(0,[])
def gy(c:Bool)(xs:List aw)(b:Nat):Option (Nat×Nat×List Int):=match fF c (xs.drop (b+1)) (b+1)with|none=>U|some a=>if e_ (xs.drop (a+(dE (xs.drop a)).1))then O (a,a+(dE (xs.drop a)).1,(dE (xs.drop a)).2)else U
noncomputable def nt:Option Nat->Int|none=>-1|some k=>k
theorem Dd(a:aw):dJ a=L↔(bH a=0\/bH a=1\/kX a=L):=by cases a<;>simp[dJ,bH,kX]
theorem De(s:h=a2 an (a+3)){e:Nat}{xs:List aw}(I:b G=O (.WE (j.map .b)))(K:bd l b j xs)(M:jg b Z)(X:∀f∈xs,∀g∈a0 f,g∈bn)(N:xs.length<=100000)(Y:e<xs.length)(c:Q (.a (nt (fF A (xs.drop (e+1)) (e+1)))) b):h 42 [.b G,.a e,.b Z,.g A] b Q:=by
 refine a' s (i:=[O (.b G),O (.a e),O (.b Z),O (.g A),U,U,U,U]) rfl rfl λh s=>?_;have ac:(j.map aa.b).length=xs.length:=by erw[Pt,K.WJ];rfl
 refine rw (id M) λao aq ar as x au av=>?_;simp? only[D5,↓ce I,ac];refine⟨⟨by exact cp bA (ai ap cQ) rV rfl Y N,by exact a7 ky w8 rfl N⟩,i8 (λi t=>∀(k:Nat)(y p m n:Option aa),i=k->Q (.a (nt (fF A (xs.drop k) k))) b->t [O (.b G),O (.a e),O (.b Z),O (.g A),y,p,m,n] b) (λu=>True) (λt=>∀z P,Q z b->t z P b) ?_ ?_ trivial ?_ (e+1) _ _ _ _ (by exact b5 ki rfl) c⟩
 .rintro i ad ae B af _ _ v k y p m n rfl c;refine⟨trivial,aY rfl ?_⟩;have C:k<xs.length:=by exact aQ eX bA rfl B
  refine az (gK I K C) λag q ah=>?_;have R:=Sr C;generalize aj:xs[k]=f at q R;have al:=X f (by erw[<-aj];exact Rk C);rw[R]at c;unfold fF at c;have S:∀p m n,Q (.a (nt (fF A (xs.drop (k+1)) (k+1)))) b->ad .WL [O (.b G),O (.a e),O (.b Z),O (.g A),O (.a k),p,m,n] b:=λp m n c=>af (k+1) _ _ _ _ (by exact b5 ki rfl) c;refine ba 2 (λt=>dJ f=L->t [O (.b G),O (.a e),O (.b Z),O (.g A),O (.a k),O (.b ag),m,n] b) ?_ λax D=>?_
  .intro am;rw[if_pos am]at c;simp?[aO,aN];refine n1 s (a:=a+1) q ?_;simp? only[IG];refine⟨by exact Pp rfl,?_⟩;rcases E:a0 f with _|⟨g,T⟩;·rw[E]at c;exact⟨λd=>absurd rfl d,λu=>f' rfl (S _ _ _ c)⟩
   .rw[E]at c;dsimp only at c;have V:∀T:List aa,bQ (aa.a g::T) 0=O (.a g):=λu=>rfl;refine⟨λu=>?_,λd=>absurd (by simp) d⟩;refine aY ((eJ (p:=an.WY h) x (Z:=48) (f:=57) rfl)) ?_;simp?[];simp? only[(eJ (p:=an.WY h) x (Z:=48) (f:=57) rfl),Qj,V];refine Be s (a:=a) M (al g (by erw[E];simp)) ?_;simp?[];refine il _ _ _ _ ?_;simp?[];refine bU ?_;simp? only[(eJ (p:=an.WY h) x (Z:=48) (f:=57) rfl),Qj,V];refine⟨λd=>⟨λo=>?_,λo=>?_⟩,λd=>?_⟩;·rw[if_neg d,if_pos (.inl o)]at c;exact v _ _ c
    .rw[if_neg d]at c;refine e6 _ _ _ ⟨λr=>?_,λr=>?_⟩;·rw[if_pos (.inr r)]at c;exact v _ _ c
     .rw[if_neg (by erw[r];simp[o])]at c;exact v _ _ c
    .have d:bF g=0:=by
      rcases Decidable.em (bF g=0)with F|F;·exact F
      .exact absurd F d
     rw[if_pos d]at c;exact S _ _ _ c
  .simp?[aD,aC,aF,aE];refine(ah k rfl _).mpr ?_;simp?[aD,aC,aF,aE];refine e8 q _ ?_;simp?[aD,aC,aF,aE];refine il _ _ _ _ ?_;simp?[aD,aC,aF,aE];refine b7 (λc=>by refine e8 q _ ?_;simp?[aD,aC,aF,aE];refine il _ _ _ _ ?_;simp?[aD,aC,aF,aE];refine b7 (λc=>by refine e8 q _ ?_;simp?[aD,aC,aF,aE];refine il _ _ _ _ ?_;simp?[aD,aC,aF,aE];exact bU c) (λc=>c) ?_;exact c) (λc=>c) ?_;have w:=Dd f;refine⟨λH=>⟨λo=>⟨λr=>?_,λr=>?_⟩,λo=>?_⟩,λH=>?_⟩
   .refine uV s (a:=a+1) q ?_;simp?[];refine e6 _ _ _ ?_;rcases W:kX f with _|_;·refine⟨λd=>absurd d (by decide),λu=>?_⟩;rw[if_neg (λd=>by rcases w.mp d with d|d|d;exact H d;exact o d;rw[W]at d;injection d)]at c;exact v _ _ c
    .exact⟨λu=>D (w.mpr (.inr (.inr W))),λd=>absurd d (by decide)⟩
   .exact absurd (by cases f<;>simp[bH]) r
   .exact D (w.mpr (.inr (.inl (TG.mp o))))
   .exact D (w.mpr (.inl (TG.mp H)))
 .rintro i ae ay B k y p m n rfl c;refine⟨trivial,?_⟩;simp?[];rw[Rm (by exact aQ pd a_ rfl B)]at c;exact c
 .intro z P c;simp?[];exact c
theorem L9(o:h=a2 an (a+2)){xs:List aw}(B:b G=O (.WE (j.map .b)))(C:bd l b j xs)(c:∀x,ah b x->Q (.g (e_ (xs.drop Z))) x):h 43 [.b G,.a Z] b Q:=by
 refine a' o (i:=[O (.b G),O (.a Z),U]) rfl rfl λh o=>?_;simp?[D2];refine dz B _ _ _ (O (Z:Int)) U rfl rfl ?_;erw[kM,<-Ru];intro y D;have p:=ah.WH (.WE ((j.drop Z).map .b)) D;simp?[];refine aY (cE (ak _ _ _)) ?_;simp?[];have f:=(C.W7 Z).WG p;have g:=ak b y (.WE ((j.drop Z).map .b));generalize am b y (.WE ((j.drop Z).map .b))=e at p f g⊢;have c:=c e p;generalize j.drop Z=K at f g⊢;generalize xs.drop Z=M at f c;refine nQ (l:=l) (T:=e) (λq z r=>∀s,Q (.g (e_ z)) e->r [O (.b G),O (.a Z),s] e) (λq=>True) (λr=>∀t A,Q t e->r t A e) ?_ ?_ trivial ?_ f _ c
 ··refineλE N i z F k P H _ _ I s c=>⟨g,aY rfl ?_⟩;simp?[];refine e8 k _ ?_;simp?[];refine il _ _ _ _ ?_;simp?[];refine b7 (λc=>by refine e8 k _ ?_;simp?[];refine il _ _ _ _ ?_;simp?[];exact bU c) (λc=>c) ?_;unfold e_ at c;have m:=Dd i;have u:dJ i=L->F .WL [O (.b G),O (.a Z),O (.b E)] e:=λn=>by rw[if_pos n]at c;exact H _ c
   refine⟨λv=>⟨λw=>?_,λw=>?_⟩,λv=>?_⟩
   .refine uV o (a:=a) k ?_;simp?[];refine e6 _ _ _ ?_;rcases n:kX i with _|_;·refine⟨λd=>absurd d (by decide),λq=>?_⟩;rw[if_neg (λd=>by rcases m.mp d with d|d|d;exact v d;exact w d;rw[n]at d;injection d)]at c;rewrite[nE k];simp?[];rewrite[u0 (bH i) [5,13,6,7,10,11,9] (vs:=[.a 5,.a 13,.a 6,.a 7,.a 10,.a 11,.a 9]) rfl];exact I _ _ c
    .exact⟨λq=>u (m.mpr (.inr (.inr n))),λd=>absurd d (by decide)⟩
   .exact u (m.mpr (.inr (.inl (TG.mp w))))
   .exact u (m.mpr (.inl (TG.mp v)))
 .refineλs c=>⟨g,?_⟩;simp?[];exact c
 .intro t A c;simp?[];exact c
theorem C8(c:bV a b l W)(d:a0 W≠[]\/bH W=0\/bH W=1)(Q):dB p (.b l) 23 b Q=Q (.b a) b:=by induction W with|YG e=>exact u9 c Q|Yy e f g h=>exact u8 c Q|_=>exact absurd d (by simp[a0,bH])
theorem vb:∀{xs:List aw}{s b:Nat},fF A xs s=O b->s<=b/\∃c,xs[b-s]?=O c/\a0 c≠[]
|[],_,_,a=>by cases a
|c::i,s,b,a=>by
 unfold fF at a;split at a
 .cases e:a0 c with
  |nil=>rw[e]at a;obtain⟨d,f,g,h⟩:=vb a;exact⟨(aQ fM a_ rfl d),f,bG (show b-s=b-(s+1)+1 by exact aQ fM wD rfl d) g,h⟩
  |cons j k=>
   rw[e]at a;dsimp only at a;split at a;·obtain⟨d,f,g,h⟩:=vb a;exact⟨(aQ fM a_ rfl d),f,bG (show b-s=b-(s+1)+1 by exact aQ fM wD rfl d) g,h⟩
   .split at a;·cases a;exact⟨P2 _,c,by erw[Ti];rfl,by erw[e];simp⟩
    .cases a
 .cases a
theorem I8(j:h=a2 an (a+2)){Q:List aa->ab->Prop}(k:jg b l)(m:∀d∈a0 W,d∈bn)(n:∀d c,h 57 [.b l,.a d] b c->K (.a d) b c)(o:Q (((a0 W).map bF).map .a) b):dS (λe b Q=>Q (.g L) b) K .YM ((a0 W).map .a) b Q:=by refine hN (k:=.YM) (λe=>L) bF trivial (λi g c f=>f) (λi g e c f=>n i c (Be j k (m i g) f)) ?_;erw[RM.mpr (λe e=>rfl)];exact o
theorem EZ(r:h=a2 an (a+4)){f:Nat}{xs:List aw}(s:b G=O (.WE (j.map .b)))(u:bd l b j xs)(af:cV b l E)(M:jg b Z)(N:∀v∈xs,∀o∈a0 v,o∈bn)(aj:xs.length<=100000)(aB:(xs.flatMap a0).length<=63)(al:f<xs.length)(i:∀q,ah b q->(match gy A xs f with|none=>Q .WK q|some (c,P,t)=>∀d,b d=U->q d=O (.WE (t.map .a))->Q (.h [.a c,.a P,.b d]) q)):h 44 [.b G,.a f,.b Z,.g A] b Q:=by
 refine a' r (i:=[O (.b G),O (.a f),O (.b Z),O (.g A),U,U,U,U,U,U]) rfl rfl λh r=>?_;have aG:(j.map aa.b).length=xs.length:=by erw[Pt,u.WJ];rfl
 unfold gy at i;rcases y:fF A (xs.drop (f+1)) (f+1)with _|c;·rw[y]at i;simp?[q9];refine De r (a:=a) s u M N aj al ?_;erw[y];simp? only[nt];exact⟨λm=>i b (ah.WZ b),λe=>absurd (by decide) e⟩
 .rw[y]at i;dsimp only at i;obtain⟨aH,v,am,aI⟩:=vb y;rw[Tr,show f+1+(c-(f+1))=c by exact aQ fM (a9 (.i bk ly) ap) rfl aH]at am;obtain⟨ao,aK⟩:=Rv.mp am;refine az (gK s u ao) λbl aq aL=>?_;rw[aK]at aq;refine ok (id af) λbo bq br bs bt aM m m m m m m aP=>ba 4 (λz=>∀d I,ah b I->b d=U->I d=O (.WE [])->z [O (.b G),O (.a f),O (.b Z),O (.g A),O (.a c),O (.b l),O (.b d),U,U,U] I) ?_ λbu aR=>?_
  .rintro d I aS B aT;simp?[aO,aN,q9];erw[hb];have aU:((xs.drop c).flatMap a0).length<=(xs.flatMap a0).length:=by
    conv=>rhs;rw[<-Uj c xs]
    erw[RL,PC];exact b4 (ai ag lM) rfl
   refine⟨xs.length+2,hs (λar z=>∀(k:Nat)(t:List Int)(C:Option aa) p,ah b p->p d=O (.WE (t.map .a))->ar=xs.length-k->k<=xs.length->k+(dE (xs.drop k)).1=c+(dE (xs.drop c)).1->t++(dE (xs.drop k)).2=(dE (xs.drop c)).2->t.length+((xs.drop k).flatMap a0).length<=63->z [O (.b G),O (.a f),O (.b Z),O (.g A),O (.a c),O (.b l),O (.b d),O (.a k),C,U] p) (λz=>∀C p,ah b p->p d=O (.WE ((dE (xs.drop c)).2.map .a))->z [O (.b G),O (.a f),O (.b Z),O (.g A),O (.a c),O (.b l),O (.b d),O (.a ((c+(dE (xs.drop c)).1:Nat):Int)),C,U] p) (λm=>True) ?_ ?_ trivial _ (xs.length-c) (b4 (a8 f5 jt) rfl) c [] _ _ aS aT rfl (aQ bA a_ rfl ao) rfl rfl (show 0+((xs.drop c).flatMap a0).length<=63 from cp pr fP (ai (.i aX ap) hl) rfl aB aU)⟩
   .intro bv aV bw aW _ ar aZ k t C p g D a1 bx F K w;simp?[];refine dt (g _ _ s) _ ?_;simp?[];refine bU ?_;simp? only[↓ce (g _ _ s),aG];have R:∀(v:Option aa) q,ah p q->dE (xs.drop k)=(0,[])->aV [O (.b G),O (.a f),O (.b Z),O (.g A),O (.a c),O (.b l),O (.b d),O (.a k),v,U] q:=λv q as P=>by rw[P]at F K;have k:=aW v q (g.WF as) (by erw[as _ _ D,<-K,P3];rfl);rw[<-F]at k;exact k
    refine⟨λS=>?_,λS=>R _ _ (ah.WZ _) (by erw[Rm (aQ jm fP rfl S)];rfl)⟩;have H:k<xs.length:=(aQ eX bA rfl S);refine az (gK (g _ _ s) (u.WG g) H) λbz T au=>?_;have x:=Sr H;generalize a4:xs[k]=n at T x;have a5:=N n (by erw[<-a4];exact Rk H);have av:=M.Xo g.XP;refine rw (id av) λbB bC bD bE bb bG bH=>?_;simp? only[↓au k rfl];refine uU r (a:=a+1) T (af.Xj.WG g) (qw (λV=>?_) λV=>R _ _ (ah.WZ _) (by erw[x];unfold dE;erw[if_neg (by rw[V];simp)];rfl));simp?[];refine(au k rfl _).mpr ?_;simp?[];refine n1 r (a:=a+2) T ?_;simp?[];have bc:(a0 n).length<=63:=by rw[x,Qt,PC]at w;exact bO oK (ai ap hl) rfl w
    refine⟨by erw[Pt];unfold aJ;exact a7 pr dm rfl bc,?_⟩;refine I8 r (a:=a+1) av a5 (λo bI n=>?_) ?_;·simp?[];refine aY ((eJ (p:=an.WY h) bb (Z:=48) (f:=57) rfl)) ?_;simp?[];exact n
    .intro be ax;have W:=ah.WH (.WE (((a0 n).map bF).map .a)) ax;have bf:d≠be:=cM D ax;simp?[];rewrite[uZ (ak _ _ _)];simp?[];refine bU ?_;have ay:(0∈(a0 n).map bF)↔¬∀o∈a0 n,bF o≠0:=by
      rewrite[P'];constructor;·rintro⟨o,X,Y⟩ e;exact e o X Y
      .refineλe=>US λbg=>e λo X Y=>bg ⟨o,X,Y⟩
     refine⟨λac=>?_,λac=>?_⟩;·exact R _ _ W (by erw[x];unfold dE;erw[if_neg (λe=>ay.mp ac e.2)];rfl)
     .have bh:dJ n=L/\∀o∈a0 n,bF o≠0:=⟨V,US λe=>ac (ay.mpr e)⟩;have bi:dE (xs.drop k)=((dE (xs.drop (k+1))).1+1,(a0 n).map bF++(dE (xs.drop (k+1))).2):=by
       erw[x];conv=>lhs;unfold dE
       erw[if_pos bh];rfl
      rw[bi]at F K;rw[x,Qt,PC]at w;have ad:=W _ _ D;simp? only[↓ce ad,↓ce (ak _ _ _),Pt];refine⟨λe=>((b8 (a3 hl kk) oK .K rfl e w).elim),λm=>?_⟩;refine aY ((dp ad).2.2) ?_;simp?[];rewrite[l_ ad (ak _ _ _)];refine⟨bf,by simp only[Pt];unfold aJ;exact bO oK o' rfl w,?_⟩;refine aZ _ (by erw[a1];exact aQ bA jl rfl H) (k+1) (t++(a0 n).map bF) _ _ ((g.WF W).WS B _) (by erw[ak,PU];rfl) rfl (aQ bA fM rfl H) (by dsimp only at F;exact ff (a9 iI kr) (a9 h7 kr) rfl F) (by erw[<-K,P9];rfl) (by erw[PC,Pt];exact bO oK (ai oY hl) rfl w)
   .intro C p g D;simp?[];refine L9 r (a:=a+1) (Z:=c+(dE (xs.drop c)).1) (g _ _ s) (u.WG g) λbj aA=>?_;have i:=i bj (g.WF aA);refine e6 _ _ _ ⟨λae=>?_,λae=>?_⟩;·rw[ae]at i;exact⟨Pp rfl,i d B (aA _ _ D)⟩
    .rw[ae]at i;exact i
  .simp?[aD,aC,aF,aE,q9];refine De r (a:=a) s u M N aj al ?_;erw[y];simp? only[nt,↓aL c rfl,↓C8 aq (.inl aI),↓cH _ aM,aP,Pm];refine⟨λe=>((a7 (a3 bm aX) .K rfl e).elim),λm=>⟨λm=>⟨λm=>⟨Pp rfl,λd B=>aR d _ (ah.WH _ B) B (ak _ _ _)⟩,λe=>absurd (by decide) e⟩,λe=>absurd (by decide) e⟩⟩
end
theorem s':∀{vs:List aa},(∀a∈vs,dx a a=L)->cq vs vs=L|[],_=>rfl|a::vs,b=>by show(dx a a&&cq vs vs)=L;erw[b a (QS ..),s' λc d=>b c (PY _ d)];rfl
theorem xR(c:List aa->Bool)(k:∀vs,c vs=L->cq vs vs=L)(a:aa)(b:p4 c a=L):dx a a=L:=by
 rcases a with _|d|i|s|vs|⟨_,_⟩|e;·rfl
 .exact beq_self_eq_true d
 .exact beq_self_eq_true i
 .exact beq_self_eq_true s
 .exact k vs b
 .exact b
 .exact b
theorem ta:∀{vs:List aa},vs.all (bu a)=L->cq vs vs=L:=by induction a with
 |zero=>exactλb=>s' λc d=>xR _ (λe b=>QY b) c (Qi.mp b c d)
 |succ a f=>exactλb=>s' λc d=>xR _ (λe=>f) c (Qi.mp b c d)
theorem GW(a:aw):bu 8 (d' a)=L:=by induction a with|Yy c b d e=>show(L&&(L&&(L&&((b.map aa.a).all (bu 6)&&(L&&(L&&L))))))=L;erw[gC];rfl|_=>rfl
theorem um(xs:List aw):(xs.map d').all (bu 8)=L:=by rewrite[Qi];intro d a;refine az (P'.mp a) λb e c=>?_;obtain rfl:=c;exact GW b
theorem Mv{xs:List aw}(c:b a=O (.WE (xs.map d')))(d:b l=O (.WE (xs.map d')))(Q):b3 .t (.b a) (.b l) b Q=Q (.g L) b:=by
 have e:dv (.b a) (.b l) b=O L:=by erw[nS c d (um xs) (um xs),ta (um xs)];rfl
 exact ma e Q
theorem iq(a:cg W):dJ W=L:=by induction W with
 |YG b=>rfl
 |Yy b c d e=>rfl
 |YP f s=>obtain⟨a,_⟩:=a;subst a;rfl
 |_=>cases a
theorem ib(i a:Nat)(b c:Int)(d:b=i)(e:c=a):c8 (j.map .b) (O b) (O c)=((j.drop i).take (a-i)).map .b:=by erw[d,e,pW,<-Ru,<-Rt];rfl
theorem bd.XB{d c:List aw}(e:bd a b j (u++c++d)):bd a b ((j.drop u.length).take c.length) c:=by have:=(e.W7 u.length).W3 c.length;rw[P9,Sq,Ui]at this;exact this
theorem tn(xs:List aw):bB xs+cr xs<=xs.length:=by have:=nC xs;unfold cr;exact bO a_ (ai (.i ag (.w av fg)) ap) rfl this
theorem Mh{q C:Nat}(g:h=a2 an (a+9)){n:Int}{S:Bool}{T c:List aw}(r:cV b l E)(s:d6 E)(V:b Z=O (.WE (j.map .b)))(t:bd l b j (u++c++T))(D:c=ch E e)(v:∀W∈e,W∈bn)(w:e.length<=100)(F:b G=O (.WO 12 C [(23,.b l),(49,.a d),(50,.a n),(51,.b q),(26,.g A),(27,.g S)]))(X:b q=O (.WE (e.map .a)))(H:d=u.length+bB c)(I:n=u.length+c.length-cr c)(f:∀x,x G=O (.WO 12 C [(23,.b l),(49,.a u.length),(50,.a (u.length+c.length)),(51,.b q),(26,.g L),(27,.g L)])->bC (·=G) b x->Q .WK x):h 49 [.b G,.b Z] b Q:=by refine a' g (i:=[O (.b G),O (.b Z),U,U,U,U,U]) rfl rfl λh g=>?_;simp?[Eb];refine⟨Pp rfl,Pp rfl,Pp rfl,Pp rfl,Pp rfl,QN trivial ?_⟩;simp? !only[];unfold dg;have K:=(eI s v).2.1;have y:=(eI s v).2.2;rw[<-D]at K y;have M:∀o∈c,dJ o=L\/gI o=L:=λo t=>.inl (iq (K o t));simp? only[↓cH _ F,Pm];refine kJ g (a:=a) r s X v w λao ap aq i ar N p=>?_;rw[<-D]at p;simp?[];refine Ah g (a:=a+7) N p ?_;simp? !only[];refine A9 g (a:=a+6) N p (r.Xj.WG i) (by erw[p.WJ];unfold aJ;exact cp eG hk h_ rfl w y) M λY ac=>?_;have k:=ah.WH (.WE (c.map d')) ac;have z:=k _ _ (i _ _ F);have ad:=k _ _ (i _ _ V);simp?[Pm];refine a5 _ z _ ?_;simp?[Pm];refine a5 _ z _ ?_;simp?[Pm];have as:=tn c;refine dz ad _ _ _ (O (d-bB c)) (O (n+cr c)) rfl rfl ?_;erw[ib u.length (u.length+c.length) _ _ (Ar.dC [_,_] [_] (aT ag kk) w4 rfl H) (Ar.dC [_,_,_] [_] wE (aT (.i ag fh) sb) rfl I)];refine bG (show u.length+c.length-u.length=c.length by exact b4 lv rfl) ?_;intro au ae;have m:=ah.WH (.WE (((j.drop u.length).take c.length).map .b)) ae;have P:=((t.XB).WG (i.WF k)).WG m;simp?[];refine A9 g (a:=a+6) (ak _ _ _) P ((r.Xj.WG (i.WF k)).WG m) (by erw[P.WJ];unfold aJ;exact cp eG hk h_ rfl w y) M λaf ai=>?_;have B:=ah.WH (.WE (c.map d')) ai;simp?[];rewrite[Mv (a:=Y) (l:=af) (xs:=c) (B _ _ (m _ _ (ak _ _ _))) (ak _ _ _)];have R:=B _ _ (m _ _ z);have aj:=(i.WF k).WF (m.WF B);simp?[Pm];refine iX _ R _ _ ?_;simp?[Pm];refine eD (λf=>by refine iX _ (ak _ _ _) _ _ ?_;simp?[Pm];refine eD (λf=>by refine a5 _ (ak _ _ _) _ ?_;simp?[Pm];refine iX _ (ak _ _ _) _ _ ?_;simp?[Pm];refine eD (λf=>by refine a5 _ (ak _ _ _) _ ?_;simp?[Pm];refine iX _ (ak _ _ _) _ _ ?_;simp?[Pm];exact f) ?_;exact f) ?_;exact f) ?_;simp? only[↓cy _ R,↓cy _ (ak _ _ _),↓cH _ (ak _ _ _),Pm];refine⟨⟨rfl,Pp rfl⟩,⟨rfl,Pp rfl⟩,⟨⟨rfl,Pp rfl⟩,⟨⟨rfl,Pp rfl⟩,f _ ?_ (aj.WQ.WF (bC.WS _ rfl))⟩⟩⟩;erw[ak];have al:d-bB c=u.length:=(Ar.dC [_,_] [_] (aT ag kk) w4 rfl H);have am:n+cr c=u.length+c.length:=(Ar.dC [_,_,_] [_] wE (aT (.i ag fh) kk) rfl I);simp[ci,g',al,am]
noncomputable def ew:Int->List aw->List Int|a,[]=>[a]|a,b::c=>a::ew (a+(a0 b).length) c
theorem vJ(b:aw):∀(a:Int)(xs:List aw),ew a (xs++[b])=ew a xs++[a+(xs.flatMap a0).length+(a0 b).length]|a,[]=>by simp[ew]|a,c::xs=>by show a::ew (a+(a0 c).length) (xs++[b])=a::(ew (a+(a0 c).length) xs++_);erw[vJ b _ xs];simp[Qt];exact Ar.dW [_,_] [_] rT rfl
theorem vL:∀(a:Int)(xs:List aw),(ew a xs).getLast?=O (a+(xs.flatMap a0).length)|a,[]=>by simp[ew]|a,b::xs=>by have c:=vL (a+(a0 b).length) xs;show(a::ew (a+(a0 b).length) xs).getLast?=_;erw[List.getLast?_cons,c];simp[Qt];exact Ar.dW [_,_] [_] rT rfl
theorem vK:∀(a:Int)(xs:List aw),(ew a xs).length=xs.length+1|_,[]=>rfl|a,b::xs=>by show(a::ew (a+(a0 b).length) xs).length=_;erw[PL,vK];rfl
theorem DQ:∀(a:Int)(xs:List aw)(k:Nat),k<=xs.length->(ew a xs)[k]?=O (a+((xs.take k).flatMap a0).length)
|a,[],k,b=>by
 have:k=0:=by simpa using b
 subst this;simp[ew]
|a,c::xs,0,_=>by simp[ew]
|a,c::xs,k+1,b=>by show(a::ew (a+(a0 c).length) xs)[k+1]?=_;erw[VQ,DQ _ xs k (by simpa using b)];simp[Qt];exact Ar.dW [_,_] [_] rT rfl
noncomputable def bt(a b c d:Nat)(e f:Int):List (Nat×aa):=[(23,.b a),(49,.a e),(50,.a f),(51,.b b),(26,.g L),(27,.g L),(53,.b c),(54,.b d)]
structure je(F:ab)(s R:Nat)(S:List aw)(P:List aw)(af:List Int)(aa ac ad:Nat)(ae:List Nat):Prop where
 T?:∃ag,F s=O (.WO 12 ag (bt R aa ac ad S.length (S.length+P.length)))
 aay:F aa=O (.WE (af.map .a))
 e?:F ac=O (.WE (ae.map .b))/\bd R F ae P
 alz:F ad=O (.WE ((ew 0 P).map .a))
theorem MI(xs:List aw):∀k,k<=bB xs->(xs.drop k).flatMap a0=xs.flatMap a0:=by induction xs with
 |nil=>intro k _;simp
 |cons c xs d=>
  intro k a;rcases k with _|k;·rfl
  .unfold bB at a;rcases b:gI c with _|_;·rw[Tm (by erw[b];decide)]at a;simp at a
   .rw[SV b,PL]at a;erw[VX,d k (by unfold bB;exact aQ hn a_ rfl a),Qt];induction c with|YP e s=>rfl|_=>injection b
theorem Fs(xs:List aw)(k:Nat)(a:k<=bB xs.reverse):(xs.take (xs.length-k)).flatMap a0=xs.flatMap a0:=by
 have c:∀b:List aw,b.reverse.flatMap a0=(b.map a0).reverse.flatten:=by intro b;erw[List.flatMap_def,R0];rfl
 have d:((xs.reverse.drop k).map a0).reverse.flatten=(xs.reverse.map a0).reverse.flatten:=by clear c;generalize xs.reverse=b at a;induction b generalizing k with
  |nil=>simp
  |cons f b g=>
   rcases k with _|k;·rfl
   .unfold bB at a;rcases e:gI f with _|_;·rw[Tm (by erw[e];decide)]at a;simp at a
    .rw[SV e,PL]at a;erw[VX,g k (by unfold bB;exact aQ hn a_ rfl a)];induction f with|YP h s=>simp[a0]|_=>injection e
 rw[<-c,<-c,SW,<-SW (as:=xs.reverse.drop k),SW]at d;rw[List.drop_reverse,SW]at d;exact d
theorem IW(xs:List aw):((xs.drop (bB xs)).take (xs.length-cr xs-bB xs)).flatMap a0=xs.flatMap a0:=by
 have j:=nC xs;have e:(xs.drop (bB xs)).take (xs.length-cr xs-bB xs)=(xs.take (xs.length-cr xs)).drop (bB xs):=by erw[VW];rfl
 erw[e];have f:=Fs xs (cr xs) (by unfold cr;exact Ar.dW [_,_,_] [] (ai (.w ag gw) ag) rfl);erw[<-f];refine MI _ _ ?_;have g:=tn xs;have:∀(b:List aw)(a:Nat),bB b<=a->bB b<=bB (b.take a):=by intro b;induction b with
  |nil=>intro a _;simp[bB]
  |cons h b i=>
   intro a c;rcases d:gI h with _|_;·unfold bB;erw[Tm (by rw[d];decide)];simp
   .unfold bB at c⊢;rw[SV d,PL]at c⊢;rcases a with _|a;·exact aQ (ai bk aX) fM rfl c
    .erw[List.take_succ_cons,SV d,PL];have:=i a (by unfold bB;exact aQ hn a_ rfl c);unfold bB at this;exact aQ a_ hn rfl this
 exact this xs _ (bO iM (ai ag pg) rfl g)
theorem CW{b c:List aw}(d:u.length<=a)(e:a<u.length+b.length)(f:a<(u++b++c).length):(u++b++c)[a]∈b:=by
 have:(u++b++c)[a]?=b[a-u.length]?:=by erw[P9,R2 d,Rw (b8 a_ (a8 ap js) (a8 fg av) rfl d e)];rfl
 rw[P8 f]at this;exact SX this.symm
theorem LF{b c:List aw}(d:a+1=u.length)(e:a<(u++b++c).length):u.getLast?=O (u++b++c)[a]:=by erw[Sp,<-d,Nat.add_sub_cancel,<-P8 e,P9,Rw (aQ (a9 bk ap) bA rfl d)];rfl
theorem LG{a b:List aw}(c:u.length+a.length<(u++a++b).length):b.head?=O (u++a++b)[u.length+a.length]:=by erw[<-P8 c,R2 (by simp),VJ];simp
theorem FA(P:h=a2 an (a+10)){g:Nat}{B c:List aw}(bb:cV b l E)(bC:d6 E)(C:b G=O (.WE (j.map .b)))(w:bd l b j (u++c++B))(bD:c=ch E e)(bE:∀bY∈e,bY∈bn)(bc:e.length<=100)(bZ:∀x,u.getLast?=O x->dJ x=J)(b0:∀x,B.head?=O x->dJ x=J)(be:u.length<=Z)(bf:Z<=g)(bF:g<=u.length+c.length)(bg:∃x,(u++c++B)[Z]?=O x/\a0 x≠[])(cC:u.length<=10000)(ar:∀d f o n b1 bh,ah b bh->b d=U->(b f=U/\b o=U/\b n=U)->je bh d l u c e f o n b1->Q (.b d) bh):mk h 12 [.b G,.a Z,.a g] b Q:=by
 refineλd H p cD cF=>a' P (i:=[O (.b d),O (.b G),O (.a Z),O (.a g),U,U,U,U,U]) rfl rfl λh P=>?_;have b2:(j.map aa.b).length=(u++c++B).length:=by erw[Pt,w.WJ];rfl
 have b3:(u++c++B).length=u.length+c.length+B.length:=by simp;exact Ar.dW [_,_,_] [] (a9 lA oY) rfl
 refine cc (eI bC bE) λbH bI bJ=>?_;rw[<-bD]at bH bI bJ;have bK:∀x∈c,dJ x=L:=λx w=>iq (bI x w);refine az bg λcG b6 bg=>?_;obtain⟨bi,bL⟩:=Rv.mp b6;have bM:=ah.WH (.WO 12 H []) p;have b7:=tn c;refine ba 2 (λi=>∀y,ah b y->y d=O (.WO 12 H [(23,.b l)])->i [O (.b d),O (.b G),O (.a Z),O (.a g),O (.a Z),O (.a g),U,U,U] y) ?_ λae q=>?_
 .rintro y z aS;refine ba 1 (λi=>i [O (.b d),O (.b G),O (.a Z),O (.a g),O (.a u.length),O (.a g),U,U,U] y) ?_ λae q=>?_
  .refine ba 1 (λi=>i [O (.b d),O (.b G),O (.a Z),O (.a g),O (.a u.length),O (.a (u.length+c.length)),U,U,U] y) ?_ λae q=>?_
   .refine ba 4 (λi=>∀f R S as,ah b as->b f=U->d≠f->as f=O (.WE [])->as d=O (.WO 12 H [(23,.b l),(49,.a (u.length+bB c)),(50,.a (u.length+c.length-cr c)),(51,.b f)])->i [O (.b d),O (.b G),O (.a Z),O (.a g),O (.a u.length),O (.a (u.length+c.length)),R,S,U] as) ?_ λae q=>?_
    .rintro f R S as bN af D bP aU;refine ba 1 (λi=>∀r s,ah b s->s f=O (.WE (e.map .a))->s d=O (.WO 12 H [(23,.b l),(49,.a (u.length+bB c)),(50,.a (u.length+c.length-cr c)),(51,.b f)])->i [O (.b d),O (.b G),O (.a Z),O (.a g),O (.a u.length),O (.a (u.length+c.length)),R,S,r] s) ?_ λae q=>?_
     .rintro r s I t T;refine ba 3 (λi=>∀V,ah b V->V f=O (.WE (e.map .a))->V d=O (.WO 12 H [(23,.b l),(49,.a u.length),(50,.a (u.length+c.length)),(51,.b f),(26,.g L),(27,.g L)])->i [O (.b d),O (.b G),O (.a Z),O (.a g),O (.a u.length),O (.a (u.length+c.length)),R,S,r] V) ?_ λae q=>?_
      .rintro V aV bl aj;refine ba 2 (λi=>∀o n W,ah b W->b n=U->b o=U->n≠f->n≠o->W f=O (.WE (e.map .a))->W o=O (.WE (((j.drop u.length).take c.length).map .b))->W n=O (.WE ((ew 0 []).map .a))->W d=O (.WO 12 H (bt l f o n u.length (u.length+c.length)))->i [O (.b d),O (.b G),O (.a Z),O (.a g),O (.a u.length),O (.a (u.length+c.length)),R,S,r] W) ?_ λae q=>?_
       .intro o n W b9 F b_ b' au ca bQ bm bo;have ax:d≠n:=by rintro rfl;rw[bo]at bm;cases bm
        simp? only[aO,aN,fo,↓cH _ bo,bt,Pm,↓cE bQ];refine nQ (l:=l) (T:=b) (λX bq i=>∀v r K,c=v++bq->ah b K->K f=O (.WE (e.map .a))->K o=O (.WE (((j.drop u.length).take c.length).map .b))->K n=O (.WE ((ew 0 v).map .a))->K d=O (.WO 12 H (bt l f o n u.length (u.length+c.length)))->i [O (.b d),O (.b G),O (.a Z),O (.a g),O (.a u.length),O (.a (u.length+c.length)),R,S,r] K) (λX=>True) (λX=>True) ?_ ?_ trivial trivial w.XB [] r _ rfl b9 ca bQ bm bo
        ··refineλcb cd aW cf cg br cj Y _ _ _ v r K ay aA bs aB M al=>⟨aB,aY rfl ?_⟩;simp?[bt,Pm,Qy];refine a5 _ al _ ?_;simp?[bt,Pm,Qy];refine aY ((dp M).1) ?_;simp?[bt,Pm,Qy];refine a5 _ al _ ?_;simp?[bt,Pm,Qy];refine fB M _ _ ?_;simp? only[↓cH _ al,bt,Pm,(dp M).1,↓ec M,pX,vL,Qy];refine n1 P (a:=a+8) (br.WG aA) ?_;simp?[];refine mo M _ _ ?_;simp?[];simp? only[Pt,↓hU M];have:v.length<=c.length:=by erw[ay];simp
          refine⟨by erw[vK];unfold aJ;exact em a_ pp (ai ap se) (ai bk cP) rfl this bc bJ,?_⟩;refine Y (v++[aW]) _ _ (by erw[ay];simp) (aA.WS F _) (((aH _ _ (PB b')).trans bs)) (((aH _ _ (PB au)).trans aB)) ?_ (((aH _ _ ax).trans al));erw[ak,vJ,PU];rfl
        ··refineλv r K ay aA bs aB M al=>⟨aB,?_⟩;simp?[];rw[P3]at ay;rw[<-ay]at M;exact ar d f o n ((j.drop u.length).take c.length) K aA p ⟨af,b_,F⟩ ⟨⟨H,al⟩,bs,⟨aB,w.XB.WG aA⟩,M⟩
       .simp?[aD,aC,aF,aE,aO,aN,fo,Pm];refine a5 _ aj _ ?_;simp?[aD,aC,aF,aE,aO,aN,fo,Pm];refine a5 _ aj _ ?_;simp?[aD,aC,aF,aE,aO,aN,fo,Pm];refine dz (aV _ _ C) _ _ _ (O (u.length:Int)) (O ((u.length:Int)+c.length)) rfl rfl ?_;erw[ib u.length (u.length+c.length) _ _ rfl (b4 oO rfl)];refine bG (show u.length+c.length-u.length=c.length by exact b4 lv rfl) ?_;intro o aG;have ax:d≠o:=cM aj aG;have ck:o≠f:=hC aG bl;simp?[aD,aC,aF,aE,aO,aN,fo,Pm];rewrite[cy _ (show am V o _ d=_ from by exact((aH _ _ ax).trans aj))];refine⟨⟨rfl,Pp rfl⟩,?_⟩;simp?[];refine⟨Pp rfl,λn F=>?_⟩;have aZ:d≠n:=fx F;have au:n≠o:=by rintro rfl;rw[aH _ _ (PB aZ),ak]at F;injection F
        have bR:n≠f:=by rintro rfl;rw[aH _ _ (PB aZ),aH _ _ au,bl]at F;injection F
        rewrite[cy _ (show am (am _ d _) n _ d=_ from by exact((aH _ _ aZ).trans (ak _ _ _)))];refine⟨⟨rfl,Pp rfl⟩,?_⟩;simp?[];refine q o n _ ?_ ?_ (aV.WK aG) bR au ?_ ?_ ?_ ?_;·exact((((aV.WF (ah.WH _ aG)).WS p _).WF (ah.WH _ F)).WS p _)
        .exact((aV.WF (ah.WH _ aG)).WS p _).WK F
        .exact((aH _ _ (PB D)).trans ((aH _ _ (PB bR)).trans ((aH _ _ (PB D)).trans ((aH _ _ (PB ck)).trans bl))))
        .erw[aH _ _ (PB ax),aH _ _ (PB au),aH _ _ (PB ax),ak];rfl
        .erw[aH _ _ (PB aZ),ak];rfl
        .erw[ak];simp[ci,g',bt]
      .simp?[aD,aC,aF,aE,aO,aN,fo];refine iX _ T _ _ ?_;simp?[aD,aC,aF,aE,aO,aN,fo];refine eD (λar=>by refine iX _ (ak _ _ _) _ _ ?_;simp?[aD,aC,aF,aE,aO,aN,fo];exact ar) ?_;simp? only[aD,aC,aF,aE,aO,aN,fo,↓cy _ T,↓cy _ (ak _ _ _)];refine⟨⟨rfl,Pp rfl⟩,⟨⟨rfl,Pp rfl⟩,?_⟩⟩;erw[eJ (ak _ _ _) (f:=49) rfl];simp?[];refine Mh P (a:=a) (q:=f) (A:=J) (S:=J) (e:=e) (bb.WG (I.WS p _)) bC (I.WS p _ _ _ C) (w.WG (I.WS p _)) bD bE bc ((ak _ _ _)) (((aH _ _ (PB D)).trans t)) rfl rfl λV aj bS=>q _ (λcI cJ aI=>?_) ?_ aj;·exact bS _ _ (I.WS p _ _ _ aI) (by rintro rfl;rw[p]at aI;injection aI)
       .exact bS _ _ (((aH _ _ (PB D)).trans t)) (PB D)
     .simp?[aD,aC,aF,aE,aO,aN,fo,Pm];refine a5 _ aU _ ?_;simp?[aD,aC,aF,aE,aO,aN,fo,Pm];refine a5 _ aU _ ?_;simp?[aD,aC,aF,aE,aO,aN,fo,Pm];refine dz (bN _ _ C) _ _ _ (O ((u.length:Int)+bB c)) (O ((u.length:Int)+c.length-cr c)) rfl rfl ?_;erw[ib (u.length+bB c) (u.length+c.length-cr c) _ _ (b4 oO rfl) (ff iM (aT (.u (.i kq fh) cS) (.W (.u (.i bj av) ap))) rfl b7)];intro aK ao;have cl:f≠aK:=cM bP ao;have cm:d≠aK:=cM aU ao;have N:=ah.WH (.WE (((j.drop (u.length+bB c)).take (u.length+c.length-cr c-(u.length+bB c))).map .b)) ao;simp?[];refine aY (cE (ak _ _ _)) ?_;simp?[];have bu:bd l b ((j.drop (u.length+bB c)).take (u.length+c.length-cr c-(u.length+bB c))) ((c.drop (bB c)).take (c.length-cr c-bB c)):=by
       have cn:(j.drop (u.length+bB c)).take (u.length+c.length-cr c-(u.length+bB c))=(((j.drop u.length).take c.length).drop (bB c)).take (c.length-cr c-bB c):=by erw[VW,Uh,Tu];congr 1;exact Ar.dW [_,_,_,_] [] (a9 (.u (.u d8 av) m4) (.w (.u gw bj) ph)) rfl
       erw[cn];exact((w.XB).W7 _).W3 _
      have a1:=IW c;rw[bH]at a1;generalize cK:(c.drop (bB c)).take (c.length-cr c-bB c)=co at bu a1;generalize(j.drop (u.length+bB c)).take (u.length+c.length-cr c-(u.length+bB c))=cq at bu N;refine nQ (l:=l) (T:=b) (λX bq i=>∀v r s,co=v++bq->ah b s->s f=O (.WE ((v.flatMap a0).map .a))->s aK=O (.WE (cq.map .b))->s d=O (.WO 12 H [(23,.b l),(49,.a (u.length+bB c)),(50,.a (u.length+c.length-cr c)),(51,.b f)])->i [O (.b d),O (.b G),O (.a Z),O (.a g),O (.a u.length),O (.a (u.length+c.length)),R,S,r] s) (λX=>True) (λX=>True) ?_ ?_ trivial trivial bu [] U _ rfl (bN.WF N) (N _ _ bP) (ak _ _ _) (N _ _ aU)
      ··refineλcb cd aW cf cg br cj Y _ _ _ v r s aL I aM a4 T=>⟨a4,aY rfl ?_⟩;simp?[Pm];refine a5 _ T _ ?_;simp?[Pm];refine aY ((dp aM).2.2) ?_;simp?[Pm];refine n1 P (a:=a+8) (br.WG I) ?_;simp?[];rewrite[Dh aM];have cs:(v.flatMap a0).length+(a0 aW).length<=e.length:=by erw[<-a1,aL,RL,Qt,PC,PC];exact Ar.dW [_,_,_] [] (ai d8 lA) rfl
        refine⟨by simp only[Pt];unfold aJ;exact b8 eG (ai fO ag) (ai fO cP) rfl bc cs,?_⟩;refine Y (v++[aW]) _ _ (by erw[aL];simp) (I.WS af _) (by erw[ak];simp) (((aH _ _ (PB cl)).trans a4)) (((aH _ _ D).trans T))
      ··refineλv r s aL I aM a4 T=>⟨a4,?_⟩;simp?[];rw[P3]at aL;rw[<-aL,a1]at aM;exact q _ _ I aM T
    .simp?[aD,aC,aF,aE,aO,aN,fo];refine dz (z _ _ C) _ _ _ (O (u.length:Int)) (O ((u.length:Int)+c.length)) rfl rfl ?_;erw[ib u.length (u.length+c.length) _ _ rfl (b4 oO rfl)];refine bG (show u.length+c.length-u.length=c.length by exact b4 lv rfl) ?_;intro aK ao;have cm:d≠aK:=cM aS ao;have N:=ah.WH (.WE (((j.drop u.length).take c.length).map .b)) ao;refine Ah P (a:=a+8) (ak _ _ _) (w.XB.WG (z.WF N)) ?_;have bT:=N _ _ aS;simp?[cA,PL,P6,Qn,Q5,QJ,Q6,PP,PR,PQ];refine iX _ bT _ _ ?_;simp?[cA,PL,P6,Qn,Q5,QJ,Q6,PP,PR,PQ];refine eD (λar=>by refine iX _ (ak _ _ _) _ _ ?_;simp?[cA,PL,P6,Qn,Q5,QJ,Q6,PP,PR,PQ];exact ar) ?_;simp? !only[↓cy _ bT,↓cy _ (ak _ _ _)];refine⟨⟨rfl,Pp rfl⟩,⟨⟨rfl,Pp rfl⟩,Pp rfl,λf af=>?_⟩⟩;have D:d≠f:=fx af;rewrite[cy _ (show am (am _ d _) f _ d=_ from by exact((aH _ _ D).trans (ak _ _ _)))];refine⟨⟨rfl,Pp rfl⟩,?_⟩;simp?[];refine q f _ _ _ ?_ ?_ D ?_ ?_;·exact((((z.WF N).WS p _).WF (ah.WH _ af)).WS p _)
     .exact((z.WF N).WS p _).WK af
     .erw[aH _ _ (PB D),ak];rfl
     .exact ak _ _ _
   .simp?[aD,aC,aF,aE,aO,aN,fo];erw[hb];refine⟨c.length+2,hs (λaP i=>∀k:Nat,u.length<=k->k<=u.length+c.length->aP=u.length+c.length-k->i [O (.b d),O (.b G),O (.a Z),O (.a g),O (.a u.length),O (.a k),U,U,U] y) (λi=>i [O (.b d),O (.b G),O (.a Z),O (.a g),O (.a u.length),O (.a ((u.length+c.length:Nat):Int)),U,U,U] y) (λX=>True) ?_ ?_ trivial _ (u.length+c.length-g) (dd a_ m5 (a8 (.u kr ap) sO) rfl bf be) g (b8 a_ m5 kt rfl bf be) bF rfl⟩
    .intro ct bv cu bw _ aP Y k aq ac cv;have aR:k=u.length+c.length->bv [O (.b d),O (.b G),O (.a Z),O (.a g),O (.a u.length),O (.a k),U,U,U] y:=λm=>by erw[m];exact bw
     simp?[];refine dt (z _ _ C) _ ?_;simp?[];refine bU ?_;simp? only[↓ce (z _ _ C),b2];refine⟨λt=>?_,λt=>aR (Ar.dc [_,_,_,_,_] [] jm (ai ag kr) (a9 ap (.i kr cR)) (a9 ag kr) rfl t ac b3)⟩;have ad:k<(u++c++B).length:=(aQ eX bA rfl t);refine az (gK (z _ _ C) (w.WG z) ad) λcw bx bz=>?_;simp? only[↓bz k rfl,↓cH _ aS,Pm];refine uU P (a:=a+7) bx (bb.Xj.WG z) (qw (λA=>?_) λA=>aR ?_)
     .simp?[];have:k<u.length+c.length:=by
       rcases Rg k (u.length+c.length)with m|m;·exact m
       .have aI:k=u.length+c.length:=(b8 iM (ai av d8) (a9 av d8) rfl m ac);subst aI;have:=b0 _ (LG ad);rw[this]at A;injection A
      exact Y _ (by erw[cv];exact bO (a8 ag fO) (a8 (.u fO bk) (.u fO ag)) rfl this) (k+1) (aQ a_ iL rfl aq) (bO (a8 ag fO) (ai bk fO) rfl this) rfl
     .rcases Rg k (u.length+c.length)with m|m;·have:=bK _ (CW aq m ad);rw[this]at A;injection A
      .exact b8 iM (ai av d8) (a9 av d8) rfl m ac
    .simp?[];exact q
  .simp?[aD,aC,aF,aE,aO,aN,fo];erw[hb];refine⟨Z+2,hs (λaP i=>∀k:Nat,u.length<=k->k<=Z->aP=k->i [O (.b d),O (.b G),O (.a Z),O (.a g),O (.a k),O (.a g),U,U,U] y) (λi=>i [O (.b d),O (.b G),O (.a Z),O (.a g),O (.a u.length),O (.a g),U,U,U] y) (λX=>True) ?_ ?_ trivial _ Z (b5 (a8 ag jt) rfl) Z be (P2 _) rfl⟩
   .intro ct bv cu bw _ aP Y k aq ac cx;have aR:k=u.length->bv [O (.b d),O (.b G),O (.a Z),O (.a g),O (.a k),O (.a g),U,U,U] y:=λm=>by erw[m];exact bw
    simp?[];refine bU ?_;refine⟨λt=>?_,λt=>aR (cp a_ (.w (a3 aX cS)) mD rfl aq t)⟩;have ad:k-1<(u++c++B).length:=(b8 a_ sT (a8 f6 av) rfl ac bi);refine az (gK (z _ _ C) (w.WG z) ad) λcw bx bz=>?_;simp? only[↓bz ((k:Int)-1) (a7 o4 w6 rfl t),↓cH _ aS,Pm];refine uU P (a:=a+7) bx (bb.Xj.WG z) (qw (λA=>?_) λA=>aR ?_)
    .simp?[];have:u.length<k:=by
      rcases Rg u.length k with m|m;·exact m
      .have:=bZ _ (LF (u:=u) (b:=c) (c:=B) (a:=k-1) (Ar.dc [_,_] [] a_ fP o4 (a9 oV ap) rfl m aq t) ad);rw[this]at A;injection A
     have bV:=Y _ (cp bX (a3 aX cS) (a8 lK ag) rfl cx t) (k-1) (aQ bA ss rfl this) (aQ a_ (ai f6 ap) rfl ac) rfl;rw[show((k-1:Nat):Int)=(k:Int)-1 by exact a7 o4 (aT (.W f6) kj) rfl t]at bV;exact bV
    .rcases Rg u.length k with m|m;·have:=bK _ (CW (u:=u) (b:=c) (c:=B) (a:=k-1) (aQ bA ss rfl m) (Ar.d3 [_,_,_,_,_] [] bA sZ jw (ai bj (.i ag cR)) (a8 lK (.i ag cR)) rfl m bf ac bF) ad);rw[this]at A;injection A
     .exact cp a_ fP bX rfl m aq
   .simp?[];exact q
 .refine az (gK C w bi) λcL cz cN=>?_;rw[bL]at cz;refine az (gK (bM _ _ C) (w.WG bM) bi) λcO bW cB=>?_;rw[bL]at bW;simp? only[aD,aC,aF,aE,fo,↓cB Z rfl,↓C8 bW (.inl bg)];rewrite[cy _ (ak _ _ _)];refine⟨⟨rfl,Pp rfl⟩,?_⟩;simp? !only[];exact q _ ((ah.WZ b).WS p _) ((ak _ _ _))
def fl(a b:aw):Bool:=dx (d' a) (d' b)
def nm:Option aw->Option aw->Bool|some a,O b=>fl a b|_,_=>J
def dR(a:List aw)(k:Nat):Nat:=((a.take k).flatMap a0).length
theorem z4(b:List aw)(c:a<=k):dR b a<=dR b k:=by
 unfold dR;refine bG (show b.take a=(b.take k).take a by rw[Uh,RW c]) ?_;conv=>rhs;rw[<-Uj a (b.take k)]
 erw[RL,PC];exact b4 sw rfl
noncomputable def gd(a:Nat->Bool):Nat->Nat|0=>0|b+1=>if a 0 then 1+gd (λk=>a (k+1)) b else 0
theorem jR:∀(a:Nat)(b:Nat->Bool),gd b a<=a|0,_=>P2 _|a+1,b=>by unfold gd;have:=jR a (λk=>b (k+1));split<;>(first|exact aQ a_ (ai d9 cv) rfl this|exact b5 (ai aX bk) rfl)
theorem nB:∀(d:Nat)(e:Nat->Bool)(k:Nat),k<d->(k<gd e d↔∀a,a<=k->e a=L)
|0,_,_,g=>absurd g (Vp _)
|d+1,e,k,g=>by
 unfold gd;split
 .rename_i f;cases k with
  |zero=>exact⟨λi a c=>by exact bG (show a=0 by exact a7 m9 jk rfl c) f,λi=>(b5 (a8 aX d9) rfl)⟩
  |succ k=>
   have h:=nB d (λk=>e (k+1)) k (aQ o2 bA rfl g);constructor;·intro b a c;cases a with|zero=>exact f|succ a=>exact h.mp (aQ (a8 bk pn) bA rfl b) a (aQ hn a_ rfl c)
   .intro b;have:=h.mpr λa c=>b (a+1) (aQ a_ hn rfl c);exact aQ bA (a8 bk pn) rfl this
 .rename_i f;exact⟨λb=>((a7 sU .K rfl b).elim),λb=>absurd (b 0 (b5 (ai aX ag) rfl)) f⟩
theorem BU{b:Nat->Bool}(f:k<a)(g:k<=gd b a):k<gd b a↔b k=L:=by
 rewrite[nB a b k f];refine⟨λe=>e k (P2 _),λe c h=>?_⟩;rcases Rg c k with d|d;·exact(nB a b c (b8 bA (a8 av ag) (a8 av ap) rfl f d)).mp (b8 bA jw ho rfl d g) c (P2 _)
 .exact bG (show c=k by exact cp a_ fP mD rfl d h) e
def ob(a b:List aw)(c k:Nat):Bool:=Ps (dR a (k+1)<=c)&&nm a[k]? b[k]?
def d2(a b:List aw)(c:Nat):Nat:=gd (ob a b c) (P1 a.length b.length)
def n7(a b:List aw)(c k:Nat):Bool:=Ps (c<=dR a (a.length-1-k))&&nm a[a.length-1-k]? b[b.length-1-k]?
def fb(a b:List aw)(c d:Nat):Nat:=gd (n7 a b c) (P1 (a.length-d) b.length)
noncomputable def eQ(d:bp)(e:List Int)(a:List aw):List Nat->Nat->List ek|[],b=>(a.drop b).map .z|s::h,b=>let i:=ch d (e.take s++[45]);let f:=ch d (e.drop s);let c:=d2 a i s;let g:=fb a f s c;if c<b then eQ d e a h b else((a.drop b).take (c-b)).map .z++[.ZG (i.drop c) (f.take (f.length-g)) ((a.drop c).take (a.length-g-c))]++eQ d e a h (a.length-g)
theorem z7(a:aw):bu 9 (d' a)=L:=by induction a with|Yy c b d e=>show(L&&(L&&(L&&((b.map aa.a).all (bu 7)&&(L&&(L&&L))))))=L;erw[gC];rfl|_=>rfl
theorem Mt(a b:aw)(c:ab):dv (d' a) (d' b) c=O (fl a b):=by
 have d:dv (d' a) (d' b) c=if bu 9 (d' a)&&bu 9 (d' b)then O (dx (d' a) (d' b))else U:=by cases a<;>rfl
 erw[d,z7,z7];rfl
theorem AU(a b:aw)(c Q):b3 .YW (d' a) (d' b) c Q=Q (.g (!(fl a b))) c:=by exact vp (Mt a b c) Q
theorem yZ{b:aw}(l:cg W)(f:cg b):dx (bJ W) (bJ b)=fl W b:=by unfold fl;induction W with
 |YG g=>induction b with|YG a=>rfl|Yy a e c d=>rfl|YP j s=>rfl|_=>cases f
 |Yy g e c d=>induction b with
  |YG a=>rfl
  |Yy a k h i=>show cq [.a 1,.a 1,.a g,.h (e.map .a),.a (kY c),.a (kY d)] [.a 1,.a 1,.a a,.h (k.map .a),.a (kY h),.a (kY i)]=cq [.a 1,.a 1,.a g,.h (e.map .a),.g c,.g d] [.a 1,.a 1,.a a,.h (k.map .a),.g h,.g i];simp only[cq,dx];cases c<;>cases h<;>cases d<;>cases i<;>rfl
  |YP j s=>rfl
  |_=>cases f
 |YP j s=>induction b with|YG a=>rfl|Yy a e c d=>rfl|YP m n=>rfl|_=>cases f
 |_=>cases l
theorem xN{xs:List aw}(h:∀c∈xs,cg c)(i:∀d∈u,cg d)(k:Nat)(f:k<xs.length)(g:k<u.length):cq ((xs.map bJ).take (k+1)) ((u.map bJ).take (k+1))=L↔∀a,a<=k->nm xs[a]? u[a]?=L:=by induction k generalizing xs u with
 |zero=>match xs,u,f,g with|c::xs,d::u,_,_=>show(dx (bJ c) (bJ d)&&L)=L↔_;erw[TL,yZ (h c (by simp)) (i d (by simp))];exact⟨λb a e=>by exact bG (show a=0 by exact a7 m9 jk rfl e) b,λb=>b 0 (aR (ai aX aX) rfl)⟩
 |succ k m=>match xs,u,f,g with
  |c::xs,d::u,f,g=>
   show(dx (bJ c) (bJ d)&&cq ((xs.map bJ).take (k+1)) ((u.map bJ).take (k+1)))=L↔_;erw[Qc,yZ (h c (by simp)) (i d (by simp))];rewrite[m (λj l=>h j (by simp[l])) (λj l=>i j (by simp[l])) (by simpa using f) (by simpa using g)];constructor
   .rintro⟨b,n⟩ a e;rcases a with _|a;·exact b
    .exact n a (aQ hn a_ rfl e)
   .exactλb=>⟨b 0 (b5 (ai aX bk) rfl),λa e=>b (a+1) (aQ a_ hn rfl e)⟩
theorem xP:∀{xs a us vs:List aa},xs.length=a.length->cq (xs++us) (a++vs)=(cq xs a&&cq us vs)|[],[],_,_,_=>rfl|b::xs,c::a,us,vs,d=>by show(dx b c&&cq (xs++us) (a++vs))=(dx b c&&cq xs a&&cq us vs);erw[xP (by simpa using d),Bool.and_assoc];rfl
theorem xO:∀{xs a:List aa},xs.length=a.length->cq xs.reverse a.reverse=cq xs a
|[],[],_=>rfl
|b::xs,c::a,e=>by
 have d:xs.length=a.length:=by simpa using e
 erw[Ra,Ra,xP (by simpa using d),xO d];show(cq xs a&&(dx b c&&L))=(dx b c&&cq xs a);erw[TL,Wx];rfl
theorem Fc{xs:List aw}(i:∀j∈xs,cg j)(l:∀m∈u,cg m)(k:Nat)(b:k<xs.length)(c:k<u.length):cq ((xs.map bJ).drop (xs.length-(k+1))) ((u.map bJ).drop (u.length-(k+1)))=L↔∀d,d<=k->nm xs[xs.length-1-d]? u[u.length-1-d]?=L:=by
 have g:∀a:List aw,k<a.length->(a.map bJ).drop (a.length-(k+1))=((a.reverse.map bJ).take (k+1)).reverse:=by intro a e;erw[R0,List.take_reverse,SW,Pt];rfl
 erw[g xs b,g u c,xO (by simp;exact b8 bA ho (a9 (.w bk av) (.w bk ap)) rfl c b)];rewrite[xN (λf e=>i f (Tn.mp e)) (λf e=>l f (Tn.mp e)) k (by simpa using b) (by simpa using c)];refine forall_congr' λd=>forall_congr' λh=>?_;erw[VP (b8 a_ sT ho rfl h b),VP (b8 a_ sT ho rfl h c)];rfl
theorem Df{b:Nat->Bool}(d:Nat->Bool)(h:∀k,k<a->(d k=L↔∀e,e<=k->b e=L)):((Qq a).filter d).length=gd b a:=by
 have i:(Qq a).filter d=Qq (gd b a):=by
  have f:=jR a b;have j:Qq a=Qq (gd b a)++(Qq (a-gd b a)).map (gd b a+·):=by erw[<-List.range_add];congr 1;exact aQ a_ (a9 ap (.i ag fg)) rfl f
  erw[j,Ut];rewrite[RM.mpr,VU.mpr];erw[P3];rfl;·intro k c;refine az (P'.mp c) λe g l=>?_;obtain rfl:=l;rw[Ri]at g;rewrite[h _ (by exact bO (a8 ag gw) (a8 jr ap) rfl g),<-nB a b _ (by exact bO (a8 ag gw) (a8 jr ap) rfl g)];exact b4 (.w (a8 d8 ag)) rfl
  .intro k c;rw[Ri]at c;rewrite[h _ (by exact b8 bA jw ho rfl c f),<-nB a b _ (by exact b8 bA jw ho rfl c f)];exact c
 erw[i,S0];rfl
theorem NY{b:List aw}(h:∀d∈u,cg d)(i:∀d∈b,cg d):((Qq (P1 u.length b.length)).filter λk=>cq ((u.map bJ).take (k+1)) ((b.map bJ).take (k+1))&&Ps (dR u (k+1)<=a)).length=d2 u b a:=by
 refine Df _ λk f=>?_;erw[Qc];rewrite[xN h i k (bO sj bA rfl f) (bO sj ho rfl f),decide_eq_true_iff];unfold ob;constructor;·rintro⟨j,l⟩ e c;erw[j e c,TL];rewrite[decide_eq_true_iff];exact PO (z4 u (aQ a_ hn rfl c)) l
 .refineλg=>⟨λe c=>?_,?_⟩;·have:=g e c;rw[Qc]at this;exact this.2
  .have:=g k (P2 _);rw[Qc,decide_eq_true_iff]at this;exact this.1
theorem NG{b:List aw}(h:∀d∈u,cg d)(i:∀d∈b,cg d):((Qq (P1 (u.length-l) b.length)).filter λk=>cq ((u.map bJ).drop (u.length-(k+1))) ((b.map bJ).drop (b.length-(k+1)))&&Ps (a<=dR u (u.length-(k+1)))).length=fb u b a l:=by
 refine Df _ λk f=>?_;erw[Qc];rewrite[Fc h i k (ff iG bA rfl f) (ff iG (a8 ag bj) rfl f),decide_eq_true_iff];unfold n7;constructor;·rintro⟨j,m⟩ e c;erw[j e c,TL];rewrite[decide_eq_true_iff];exact PO m (z4 u (bO a_ (ai (.u av cv) (.u (.u av aG) ag)) rfl c))
 .refineλg=>⟨λe c=>?_,?_⟩;·have:=g e c;rw[Qc]at this;exact this.2
  .have:=g k (P2 _);rw[Qc,decide_eq_true_iff]at this;exact bG (show u.length-(k+1)=u.length-1-k by exact b4 (a9 r_ (.u f6 ap)) rfl) this.1
theorem q8(a:List aw)(k:Nat)(b:k<=a.length)(i:Int)(c:i=k):bQ ((ew 0 a).map .a) i=O (.a (dR a k)):=by erw[c,ih,QT,DQ 0 a k b];show O (aa.a (0+((a.take k).flatMap a0).length))=_;erw[Q7];rfl
theorem y0{xs:List aw}(b:i<xs.length)(c:a<u.length):nm xs[i]? u[a]?=fl xs[i] u[a]:=by erw[P8 b,P8 c];rfl
theorem NX{s:Nat}(o:h=a2 an (a+2)){K M N:Nat}{c d:List aw}{t:List Nat}(i:je b s l u c e K M N j)(B:fd b l)(v:b G=O (.WE (t.map .b)))(C:bd l b t d)(P:∀w∈c,cg w)(R:∀w∈d,cg w)(f:Q (.a (d2 c d Z)) b):h 50 [.b s,.b G,.a Z] b Q:=by
 refine a' o (i:=[O (.b s),O (.b G),O (.a Z),U]) rfl rfl λh o=>?_;obtain⟨⟨al,p⟩,am,⟨x,D⟩,E⟩:=i;have S:(j.map aa.b).length=c.length:=by erw[Pt,D.WJ];rfl
 have T:(t.map aa.b).length=d.length:=by erw[Pt,C.WJ];rfl
 have y:d2 c d Z<=P1 c.length d.length:=jR _ _;simp?[Ed];erw[hb];refine⟨c.length+2,hs (λF z=>∀k:Nat,k<=d2 c d Z->F=d2 c d Z-k->z [O (.b s),O (.b G),O (.a Z),O (.a k)] b) (λz=>z [O (.b s),O (.b G),O (.a Z),O (.a (d2 c d Z))] b) (λao=>True) ?_ ?_ trivial _ (d2 c d Z) (bO o9 sk rfl y) 0 (QD _) rfl⟩
 .intro aq V ar W _ F X k H Y;have q:¬k<d2 c d Z->V [O (.b s),O (.b G),O (.a Z),O (.a (k:Int))] b:=λm=>by exact bG (show k=d2 c d Z by exact cp a_ f4 bX rfl H m) W
  simp?[bt,Pm];refine a5 _ p _ ?_;simp?[bt,Pm];refine dt x _ ?_;simp?[bt,Pm];refine b7 (λf=>by refine dt v _ ?_;simp?[bt,Pm];refine b7 (λf=>by refine a5 _ p _ ?_;simp?[bt,Pm];exact fB E _ _ f) (λf=>f) ?_;exact f) (λf=>f) ?_;simp? only[↓cH _ p,bt,Pm,↓ce x,S,↓ce v,T,↓ec E];refine⟨λg=>⟨λn=>?_,λn=>(q (dd jm (ai av (.w bj ap)) o5 rfl n y))⟩,λg=>(q (dd jm (ai av (.w ap bj)) o5 rfl g y))⟩;have ac:k<P1 c.length d.length:=(b8 eX sn (a8 ag (.w av ap)) rfl n g);have i:=BU ac H;erw[q8 c (k+1) (aQ eX fM rfl g) _ (b5 ki rfl)];simp?[];obtain⟨as,ad,ae⟩:=gK x D (show k<c.length by exact aQ eX bA rfl g);obtain⟨au,af,ah⟩:=gK v C (show k<d.length by exact aQ eX bA rfl n);have aj:=y0 (show k<c.length by exact aQ eX bA rfl g) (show k<d.length by exact aQ eX bA rfl n);refine nF (λA=>?_) λA=>q (λm=>?_)
  .simp?[bt,Pm];refine a5 _ p _ ?_;simp?[bt,Pm];refine(ae k rfl _).mpr ?_;simp?[bt,Pm];refine nz o (a:=a) ad B (.inl (iq (P _ (Rk _)))) ?_;simp?[];refine(ah k rfl _).mpr ?_;simp?[];refine nz o (a:=a) af B (.inl (iq (R _ (Rk _)))) ?_;simp?[];erw[AU];simp?[];erw[gE];have I:ob c d Z k=fl c[k] d[k]:=by unfold ob;erw[decide_eq_true (by exact_mod_cast A),aj];rfl
   refine⟨λr=>?_,λr=>?_⟩;·refine q λm=>?_;have:=i.mp m;rw[I]at this;rw[this]at r;injection r
   .have:k<d2 c d Z:=i.mpr (by erw[I];simpa using r);exact X _ (by erw[Y];exact aQ bA jl rfl this) (k+1) this rfl
  .have:=i.mp m;unfold ob at this;rw[Qc,decide_eq_true_iff]at this;exact A (by exact_mod_cast this.1)
 .simp?[];exact f
theorem NW{s f:Nat}(r:h=a2 an (a+2)){P R S:Nat}{c d:List aw}{x:List Nat}(o:je b s l u c e P R S j)(C:fd b l)(p:b G=O (.WE (x.map .b)))(D:bd l b x d)(T:∀m∈c,cg m)(V:∀m∈d,cg m)(ao:f<=c.length)(g:Q (.a (fb c d Z f)) b):h 51 [.b s,.b G,.a Z,.a f] b Q:=by
 refine a' r (i:=[O (.b s),O (.b G),O (.a Z),O (.a f),U,U]) rfl rfl λh r=>?_;obtain⟨⟨ar,t⟩,as,⟨E,F⟩,H⟩:=o;have W:(j.map aa.b).length=c.length:=by erw[Pt,F.WJ];rfl
 have I:(x.map aa.b).length=d.length:=by erw[Pt,D.WJ];rfl
 have y:fb c d Z f<=P1 (c.length-f) d.length:=jR _ _;simp? only[Ec,↓cH _ t,bt,Pm,↓ce E,W];erw[hb];refine⟨c.length+2,hs (λK z=>∀(k:Nat)(i:Int),k<=fb c d Z f->K=fb c d Z f-k->i=c.length-1-k->z [O (.b s),O (.b G),O (.a Z),O (.a f),O (.a k),O (.a i)] b) (λz=>∀m,z [O (.b s),O (.b G),O (.a Z),O (.a f),O (.a (fb c d Z f)),m] b) (λau=>True) ?_ ?_ trivial _ (fb c d Z f) (ff (ai ag oS) sk rfl y) 0 _ (QD _) rfl (b5 (aT kj (.u kj pm)) rfl)⟩
 .intro ax X ay Y _ K ac k i M ad ae;subst ae;have v:¬k<fb c d Z f->X [O (.b s),O (.b G),O (.a Z),O (.a f),O (.a (k:Int)),O (.a (c.length-1-k))] b:=λi=>by exact bG (show(k:Int)=fb c d Z f by exact cp f4 a_ (aT bm cS) rfl i M) (Y _)
  simp?[bt,Pm];refine b7 (λg=>by refine dt p _ ?_;simp?[bt,Pm];refine b7 (λg=>by refine a5 _ t _ ?_;simp?[bt,Pm];exact fB H _ _ g) (λg=>g) ?_;exact g) (λg=>g) ?_;simp? only[↓cH _ t,bt,Pm,↓ce p,I,↓ec H];refine⟨λA=>⟨λn=>?_,λn=>(v (Ar.cT [_,_,_,_,_] [] jm (ai av (.w (.u bj cR) ap)) o5 rfl n y))⟩,λA=>(v (Ar.cT [_,_,_,_,_] [] (ai ag oS) (.w (aq fh (.u (.u cS aG) m0))) (.w (a8 cR ag)) rfl y A))⟩;have q:k<P1 (c.length-f) d.length:=(dd eX (aq fh (.u (.u kq aG) bm)) (a8 ag (.w (.u bj av) ap)) rfl n A);have o:=BU q M;erw[q8 c (c.length-1-k) (b4 (ai (.u f6 ap) ag) rfl) _ (ff iG oD rfl q)];simp?[];obtain⟨az,af,ah⟩:=gK E F (show c.length-1-k<c.length by exact ff iG mI rfl q);obtain⟨aA,aj,al⟩:=gK p D (show d.length-1-k<d.length by exact aQ eX mI rfl n);have am:=y0 (show c.length-1-k<c.length by exact ff iG mI rfl q) (show d.length-1-k<d.length by exact aQ eX mI rfl n);refine nF (λB=>?_) λB=>v (λi=>?_)
  .simp?[bt,Pm];refine a5 _ t _ ?_;simp?[bt,Pm];refine(ah ((c.length:Int)-1-k) (ff iG oD rfl q) _).mpr ?_;simp?[bt,Pm];refine nz r (a:=a) af C (.inl (iq (T _ (Rk _)))) ?_;simp?[];refine dt p _ ?_;simp?[];simp? only[↓ce p,I,↓al ((d.length:Int)-1-k) (aQ eX oD rfl n)];refine nz r (a:=a) aj C (.inl (iq (V _ (Rk _)))) ?_;simp?[];erw[AU];simp?[];erw[gE];have N:n7 c d Z k=fl c[c.length-1-k] d[d.length-1-k]:=by unfold n7;erw[decide_eq_true (by exact_mod_cast B),am];rfl
   refine⟨λw=>?_,λw=>?_⟩;·refine v λi=>?_;have:=o.mp i;rw[N]at this;rw[this]at w;injection w
   .have:k<fb c d Z f:=o.mpr (by erw[N];simpa using w);exact ac _ (by erw[ad];exact aQ bA jl rfl this) (k+1) _ this rfl (b4 (aT (.u (.u kj cS) aG) (.u kj (.W cv))) rfl)
  .have:=o.mp i;unfold n7 at this;rw[Qc,decide_eq_true_iff]at this;exact B (by exact_mod_cast this.1)
 .intro m;simp?[];exact g
theorem Ly(a:cg W):lU W=L:=by induction W with|YG b=>rfl|Yy b c d e=>rfl|YP f s=>rfl|_=>cases a
theorem LA(a:cg W):¬5<bH W:=by induction W with|YG b=>exact(by decide:¬(5:Int)<0)|Yy b c d e=>exact(by decide:¬(5:Int)<1)|YP f s=>exact(by decide:¬(5:Int)<5)|_=>cases a
theorem vv(i:h=a2 an (a+1)){xs:List aw}(e:b G=O (.WE (j.map .b)))(f:bd l b j xs)(d:∀c∈xs,cg c)(m:Q (.b G) b):h 18 [.b G] b Q:=by
 refine a' i (i:=[O (.b G),U]) rfl rfl λh i=>?_;simp?[vW];refine aY (cE e) ?_;simp?[vW];refine nQ (l:=l) (T:=b) (λg k n=>∀c,(∀c∈k,cg c)->n [O (.b G),c] b) (λg=>True) (λg=>True) ?_ ?_ trivial trivial f _ d;·refineλr s t k u o v p _ _ _ c d=>⟨e,aY rfl ?_⟩;simp?[];refine e8 o _ ?_;simp?[];refine bU ?_;exact⟨λq=>absurd q (LA (d _ (.head _))),λg=>p _ λc f=>d c (.tail _ f)⟩
 .refineλc d=>⟨e,?_⟩;simp?[];exact m
theorem Dp{g:Nat}(e:h=a2 an (a+2)){m n:List Nat}{o p:List aw}(r:b G=O (.WE (j.map .b)))(s:b Z=O (.WE (m.map .b)))(t:b g=O (.WE (n.map .b)))(v:bd l b j u)(w:bd l b m o)(x:bd l b n p)(y:∀f∈u,cg f)(z:∀f∈o,cg f)(A:∀f∈p,cg f)(B:∀c i,b c=U->Q (.b c) (am b c (.WO 8 i [(34,.b G),(35,.b Z),(36,.b g)]))):mk h 8 [.b G,.b Z,.b g] b Q:=by refineλc i q C D=>a' e (i:=[O (.b c),O (.b G),O (.b Z),O (.b g)]) rfl rfl λh e=>?_;have d:∀k,ah b (am b c k):=λk=>ah.WH k q;simp?[Ep];refine vv e (a:=a) (d _ _ _ r) (v.WG (d _)) y ?_;simp? only[];refine cK rfl (Pp rfl) ?_;simp?[];refine vv e (a:=a) (d _ _ _ s) (w.WG (d _)) z ?_;simp? only[];refine cK rfl (Pp rfl) ?_;simp?[];refine vv e (a:=a) (d _ _ _ t) (x.WG (d _)) A ?_;simp? only[];refine cK rfl (Pp rfl) ?_;have:=B c i q;exact this
theorem je.WG{s:Nat}{d:List aw}(f:je b s a u d e l G Z j)(c:ah b T):je T s a u d e l G Z j:=by obtain⟨⟨g,h⟩,i,⟨k,m⟩,n⟩:=f;exact⟨⟨g,c _ _ h⟩,c _ _ i,⟨c _ _ k,m.WG c⟩,c _ _ n⟩
noncomputable def hY(a:ab)(b:List Nat):Prop:=∀c∈b,∃xs,a c=O (.WE xs)
theorem hY.WG(a:hY b j)(c:ah b T):hY T j:=λd e=>by obtain⟨xs,f⟩:=a d e;exact⟨xs,c _ _ f⟩
theorem hY.Xc(d:hY b j)(c:b a=U):a∉j:=λe=>by obtain⟨xs,f⟩:=d a e;rw[f]at c;injection c
theorem bV.Xs(d:hY b j)(e:bV a b l W)(s:lU W=L):bV a (ao j b) l W:=by refine e.Xf s λk=>?_;obtain⟨xs,d⟩:=d l k;induction W with
 |YG g=>obtain⟨f,c⟩:=e;rw[d]at c;cases c
 |Yy g h i m=>obtain⟨f,c⟩:=e;rw[d]at c;cases c
 |YP n s=>obtain⟨f,c⟩:=e;rw[d]at c;cases c
 |_=>injection s
theorem bd.Xs(e:hY b j){d:List Nat}(c:bd a b d u)(f:∀g∈u,cg g):bd a (ao j b) d u:=bq.Yj c λh h i c=>c.Xs e (Ly (f _ i))
theorem ao.Yl(d:Nat)(b:List Nat)(e:ab):ah (ao (d::b) e) (ao b e):=λg h a=>by
 have f:g∉d::b:=λc=>by rw[ao.WK c]at a;injection a
 rw[ao.W0 f]at a;erw[ao.W0 (λc=>f (PY _ c))];exact a
theorem qO(a:List Nat)(k:Nat)(b:Int)(c:b=k):c8 (a.map .b) (O b) U=(a.drop k).map .b:=by erw[c,kM,<-Ru];rfl
theorem yb(a:List Nat)(k:Nat)(b:Int)(c:b=k):c8 (a.map .b) U (O b)=(a.take k).map .b:=by erw[c,jL,<-Rt];rfl
theorem Du(b:bp)(c:List Int)(a:List aw)(s:Nat)(e:List Nat)(d:Nat):eQ b c a (s::e) d=if d2 a (ch b (c.take s++[45])) s<d then eQ b c a e d else((a.drop d).take (d2 a (ch b (c.take s++[45])) s-d)).map .z++[.ZG ((ch b (c.take s++[45])).drop (d2 a (ch b (c.take s++[45])) s)) ((ch b (c.drop s)).take ((ch b (c.drop s)).length-fb a (ch b (c.drop s)) s (d2 a (ch b (c.take s++[45])) s))) ((a.drop (d2 a (ch b (c.take s++[45])) s)).take (a.length-fb a (ch b (c.drop s)) s (d2 a (ch b (c.take s++[45])) s)-d2 a (ch b (c.take s++[45])) s))]++eQ b c a e (a.length-fb a (ch b (c.drop s)) s (d2 a (ch b (c.take s++[45])) s)):=rfl
theorem lT{c b d:Nat}(e:a=l)(f:l<=G+Z)(g:Z<=1000)(h:c=b)(i:G<=b)(j:b<=1000)(k:2000<=d):a+(c-G)<=d:=by omega
theorem E6{s:Nat}(T:h=a2 an (a+9))(x:List Nat){cq cr:Nat}{g:List aw}{ad:List Nat}(bc:cV b l E)(ae:d6 E)(be:je b s l u g e Z cq cr j)(cs:g=ch E e)(bB:∀R∈e,R∈bn)(ay:e.length<=90)(bC:b G=O (.WE ((ad.map λ(k:Nat)=>(k:Int)).map .a)))(bD:ad.length<=1000)(bW:hY b x)(ct:∀d m bE,ah b m->b d=U->m d=O (.WE (bE.map .b))->cZ l (ao x m) bE (eQ E e g ad 0)->bE.length<=3000->Q (.b d) m):h 52 [.b s,.b G] b Q:=by
 refine a' T (i:=[O (.b s),O (.b G),U,U,U,U,U,U,U,U,U]) rfl rfl λh T=>cc (eI ae bB) λcu af bX=>?_;rw[<-cs]at cu af bX;have aS:g.length<=1000:=by exact cp eY hk iP rfl ay bX
 refine ba 3 (λaT=>∀y f aU,ah b aU->b f=U->y≠f->aU y=O (.WE [.a 45])->aU f=O (.WE [])->aT [O (.b s),O (.b G),O (.b y),O (.b f),O (.a 0),U,U,U,U,U,U] aU) ?_ λcv bF=>?_
 .rintro y f aU bY az bZ cw cx;have V:∀m,ah b m->(∃xs,m f=O (.WE xs))->hY m (f::x):=λm cz cB aA aj=>by
   rcases PM.mp aj with rfl|aj;·exact cB
   .exact bW.WG cz aA aj
  simp? only[aO,aN,j',↓cE (bY _ _ bC)];refine C6 (λbG aT=>∀(W:Nat)(K:List ek)(i:List Nat)(c:Nat)(aA:Int)(bH bI bJ bK bf bg:Option aa) m,aA=c->ah b m->m f=O (.WE (i.map .b))->m y=O (.WE [.a 45])->cZ l (ao (f::x) m) i K->K++eQ E e g bG c=eQ E e g ad 0->c<=g.length->K.length<=c+W->W+bG.length=ad.length->aT [O (.b s),O (.b G),O (.b y),O (.b f),O (.a aA),bH,bI,bJ,bK,bf,bg] m) (λal=>True) (λal=>True) ?_ ?_ trivial trivial ad 0 [] [] 0 _ _ _ _ _ _ _ _ rfl bY cx cw trivial rfl (QD _) (QD _) (Tg _)
  .intro k bG dl cC cD _ _ W K i c aA bH bI bJ bK bf bg m aj v aV bh aB z w aq ar;subst aj
   .refine⟨v _ _ bC,aY rfl ?_⟩;have as:=bc.WG v;have bL:=be.WG v;obtain⟨⟨bi,n⟩,aI,⟨S,A⟩,bk⟩:=id bL;rw[Du]at z;generalize b0:ch E (e.take k++[45])=aK at z;generalize b1:ch E (e.drop k)=t at z;have bM:∀R∈e.take k++[45],R∈bn:=by
     intro R X;rcases Qh.mp X with X|X;·exact bB R (Rj X)
     .rw[P_]at X;subst X;decide
    have bN:∀R∈e.drop k,R∈bn:=λR X=>bB R (QR X);have cF:(e.take k++[45]).length<=91:=by erw[PC,Qs];simp;exact aQ eY (ai jp lr) rfl ay
    have cG:(e.drop k).length<=90:=by erw[Qe];exact aQ eY (ai f5 lr) rfl ay
    have bl:=(eI ae bM).2.1;have aW:=(eI ae bM).2.2;have bm:=(eI ae bN).2.1;have aX:=(eI ae bN).2.2;rw[b0]at bl aW;rw[b1]at bm aX;have aL:d2 g aK k<=P1 g.length aK.length:=jR _ _;generalize cI:d2 g aK k=d at z aL;have bP:fb g t k d<=P1 (g.length-d) t.length:=jR _ _;generalize cJ:fb g t k d=p at z bP;obtain⟨aM,dm⟩:d<=g.length/\d<=aK.length:=by exact bO o9 (.i a_ kv) rfl aL
    obtain⟨bQ,cK⟩:p+d<=g.length/\p<=t.length:=by exact dd a_ wP w7 rfl aM bP
    clear aL bP;refine ba 3 (λaT=>∀w Y M B q,ah m q->m w=U->m Y=U->q w=O (.WE (M.map .b))->q Y=O (.WE (B.map .b))->bd l q M aK->bd l q B t->aT [O (.b s),O (.b G),O (.b y),O (.b f),O (.a c),O (.a k),O (.b w),O (.b Y),O (.a d),bf,bg] q) ?_ λcv bF=>?_
    .rintro b2 Y M B q N cL cN cO b3 cQ bR;have b5:=bL.WG N;have cT:=as.WG N;obtain⟨⟨bi,n⟩,aI,⟨S,A⟩,bk⟩:=id b5;have cU:(j.map aa.b).length=g.length:=by erw[Pt,A.WJ];rfl
     have cW:(B.map aa.b).length=t.length:=by erw[Pt,bR.WJ];rfl
     have au:=N _ _ aV;simp? only[aO,aN];refine⟨λcX=>?_,λb6=>?_⟩;·rw[if_pos (by exact aQ eX bA rfl cX)]at z;refine cD (W+1) K i c _ _ _ _ _ _ _ _ rfl (v.WF N) au (N _ _ bh) (aB.WG (ao.WG N)) z w (by exact bO su wQ rfl aq) (by rw[PL]at ar;exact bO lx mJ rfl ar)
     .rw[if_neg (by exact aQ jm f4 rfl b6)]at z;refine aY ((eJ (p:=an.WY h) n (Z:=56) (f:=51) rfl)) ?_;simp?[];refine NW T (a:=a+6) b5 cT.Xj b3 bR af bm (by exact aM) ?_;erw[cJ];simp?[bt,Pm];refine a5 _ n _ ?_;simp?[bt,Pm];refine dt S _ ?_;simp?[bt,Pm];refine aY ((dp au).2.2) ?_;simp?[bt,Pm];refine a5 _ n _ ?_;simp?[bt,Pm];simp? only[↓cH _ n,bt,Pm,↓ce S,cU,(dp au).2.2];refine dz S _ _ _ (O (c:Int)) (O (d:Int)) rfl rfl ?_;erw[ib c d _ _ rfl rfl];intro C bo;have cY:f≠C:=by exact cM au bo
      have o:=ah.WH (.WE (((j.drop c).take (d-c)).map .b)) bo;simp?[bt,Pm];rewrite[l_ (o _ _ au) (ak _ _ _)];have bq:j.length=g.length:=A.WJ;have aZ:i.length=K.length:=aB.WJ;have b7:W<=1000:=by exact b8 dP (a9 fO ag) iP rfl bD ar
      have b9:((j.drop c).take (d-c)).length=d-c:=by erw[Qs,Qe,bq];exact bO a_ oL rfl aM
      refine⟨cY,by erw[Pt,Pt,b9];unfold aJ;clear aW aX;exact Ar.ro [_,_,_,_,_,_] [] a_ kt iP (a9 bj cR) (ai fs gZ) xg wT rfl w aM aS aZ b7 aq,?_⟩;erw[<-PU];have D:ah b (am (am q C (.WE (((j.drop c).take (d-c)).map .b))) f (.WE ((i++(j.drop c).take (d-c)).map .b))):=((v.WF N).WF o).WS az _;have c0:=ao.WS (j:=f::x) (a:=f) (.WE ((i++(j.drop c).take (d-c)).map .b)) (b:=am q C (.WE (((j.drop c).take (d-c)).map .b))) (by simp);have b_:fI q (am (am q C (.WE (((j.drop c).take (d-c)).map .b))) f (.WE ((i++(j.drop c).take (d-c)).map .b))):=o.XP.WF (fI.WS (o _ _ au) _);have P:=ak (am q C (.WE (((j.drop c).take (d-c)).map .b))) f (.WE ((i++(j.drop c).take (d-c)).map .b));have c1:b2≠f:=by exact hC cL aV
      have c2:Y≠f:=by exact hC cN aV
      have b':am (am q C (.WE (((j.drop c).take (d-c)).map .b))) f (.WE ((i++(j.drop c).take (d-c)).map .b)) b2=O (.WE (M.map .b)):=by exact((aH _ _ c1).trans (o _ _ cO))
      have br:am (am q C (.WE (((j.drop c).take (d-c)).map .b))) f (.WE ((i++(j.drop c).take (d-c)).map .b)) Y=O (.WE (B.map .b)):=by exact((aH _ _ c2).trans (o _ _ b3))
      have ca:am (am q C (.WE (((j.drop c).take (d-c)).map .b))) f (.WE ((i++(j.drop c).take (d-c)).map .b)) y=O (.WE [.a 45]):=by erw[aH _ _ bZ];exact o _ _ (N _ _ bh)
      have cb:cZ l (ao (f::x) (am (am q C (.WE (((j.drop c).take (d-c)).map .b))) f (.WE ((i++(j.drop c).take (d-c)).map .b)))) (i++(j.drop c).take (d-c)) (K++((g.drop c).take (d-c)).map .z):=by erw[c0];refine cZ.W_ (aB.WG (ao.WG (N.WF o))) (bd.Xz (bd.Xs (V _ (v.WF N|>.WF o) ⟨_,o _ _ au⟩) (((A.W7 c).W3 (d-c)).WG o) λa bS=>af a (QR (Rj bS))))
      have bs:=cQ.Xo b_;have bu:=bR.Xo b_;generalize am (am q C (.WE (((j.drop c).take (d-c)).map .b))) f (.WE ((i++(j.drop c).take (d-c)).map .b))=c3 at D P ca cb b' br bs bu;have c4:=be.WG D;have dn:=bc.WG D;obtain⟨⟨bi,n⟩,aI,⟨S,A⟩,bk⟩:=id c4;simp?[];refine aY ((dp P).1) ?_;simp?[];refine dz b' _ _ _ (O (d:Int)) U rfl rfl ?_;erw[qO M d _ rfl];intro a0 cd;have F:=ah.WH (.WE ((M.drop d).map .b)) cd;simp?[];refine dt (F _ _ br) _ ?_;simp?[];simp? only[↓ce (F _ _ br),cW];refine dz (F _ _ br) _ _ _ U (O ((t.length:Int)-p)) rfl rfl ?_;erw[yb B (t.length-p) _ (by exact aQ a_ w5 rfl cK)];intro a1 cf;have ac:=ah.WH (.WE ((B.take (t.length-p)).map .b)) cf;simp?[bt,Pm];refine a5 _ (ac _ _ (F _ _ n)) _ ?_;simp?[bt,Pm];refine dz (ac _ _ (F _ _ S)) _ _ _ (O (d:Int)) (O ((g.length:Int)-p)) rfl rfl ?_;erw[ib d (g.length-p) _ _ rfl (by exact bO iM oN rfl bQ)];intro a4 cg;have aP:=ah.WH (.WE (((j.drop d).take (g.length-p-d)).map .b)) cg;have aR:=(F.WF ac).WF aP;have c5:a0∉f::x:=(V _ D ⟨_,P⟩).Xc cd;have c6:a1∉f::x:=(V _ (D.WF F) ⟨_,F _ _ P⟩).Xc cf;have c8:a4∉f::x:=(V _ ((D.WF F).WF ac) ⟨_,ac _ _ (F _ _ P)⟩).Xc cg;refine Dp T (a:=a+6) (l:=l) (aP _ _ (ac _ _ (ak _ _ _))) (aP _ _ (ak _ _ _)) (ak _ _ _) ((bs.W7 d).WG aR) ((bu.W3 (t.length-p)).WG aR) (((A.W7 d).W3 (g.length-p-d)).WG aR) (λH I=>bl H (QR I)) (λH I=>bm H (Rj I)) (λH I=>af H (QR (Rj I))) λbv bT ci=>?_;have a7:=ah.WH (.WO 8 bT [(34,.b a0),(35,.b a1),(36,.b a4)]) ci;have c9:bv∉f::x:=(V _ (D.WF aR) ⟨_,aR _ _ P⟩).Xc ci;simp?[bt,Pm];rewrite[hU (a7 _ _ (aP _ _ (ac _ _ (F _ _ P))))];refine⟨by erw[Pt,PC,b9];unfold aJ;clear aW aX;exact Ar.ro [_,_,_,_,_,_] [] a_ kt iP (a9 bj cR) (ai fs gZ) xg wT rfl w aM aS aZ b7 aq,?_⟩;have r:=aR.WF a7;have c_:=ao.WS (j:=f::x) (a:=f) (.WE ((i++(j.drop c).take (d-c)).map .b++[.b bv])) (b:=am (am (am (am c3 a0 (.WE ((M.drop d).map .b))) a1 (.WE ((B.take (t.length-p)).map .b))) a4 (.WE (((j.drop d).take (g.length-p-d)).map .b))) bv (.WO 8 bT [(34,.b a0),(35,.b a1),(36,.b a4)])) (by simp);refine cC (W+1) (K++((g.drop c).take (d-c)).map .z++[.ZG (aK.drop d) (t.take (t.length-p)) ((g.drop d).take (g.length-p-d))]) (i++(j.drop c).take (d-c)++[bv]) (g.length-p) _ _ _ _ _ _ _ _ ?_ ((D.WF r).WS az _) ?_ ?_ ?_ ?_ (by exact b4 (ai f5 ag) rfl) ?_ ?_;·exact bO iM oN rfl bQ
      .erw[ak,PU (l₁:=i++(j.drop c).take (d-c))];rfl
      .exact((aH _ _ bZ).trans (r _ _ ca))
      .erw[c_];refine cZ.W_ (cb.WG (ao.WG r)) ⟨⟨bT,a0,a1,a4,M.drop d,B.take (t.length-p),(j.drop d).take (g.length-p-d),?_,⟨?_,?_,?_⟩,⟨?_,?_,?_⟩,⟨?_,?_,?_⟩⟩,trivial⟩;·erw[ao.W0 c9,ak];rfl
       .erw[ao.W0 c5];exact a7 _ _ (aP _ _ (ac _ _ (ak _ _ _)))
       .exact bd.Xs (V _ (D.WF r) ⟨_,r _ _ P⟩) ((bs.W7 d).WG r) λH I=>bl H (QR I)
       .have:=bs.WJ;erw[Qe];unfold aJ;exact f1 xA ou (ai av w') (ai ph cP) rfl cF this aW
       .erw[ao.W0 c6];exact a7 _ _ (aP _ _ (ak _ _ _))
       .exact bd.Xs (V _ (D.WF r) ⟨_,r _ _ P⟩) ((bu.W3 _).WG r) λH I=>bm H (Rj I)
       .have:=bu.WJ;erw[Qs];unfold aJ;exact dd eY hk (ai oS cP) rfl cG aX
       .erw[ao.W0 c8];exact a7 _ _ (ak _ _ _)
       .exact bd.Xs (V _ (D.WF r) ⟨_,r _ _ P⟩) (((A.W7 d).W3 _).WG r) λH I=>af H (QR (Rj I))
       .erw[Qs,Qe];unfold aJ;exact ff dP wz rfl aS
      .erw[<-z];simp only[P9]
      .have c':((g.drop c).take (d-c)).length=d-c:=by erw[Qs,Qe];exact bO a_ oL rfl aM
       erw[PC,PC,Pt,c'];simp only[PL,P6];clear aW aX;exact Ar.dc [_,_,_,_,_,_] [] iM (ai bj (.i cR fs)) (.w (a3 cS m0)) (ai (.i (.i bj (.u ap cR)) h9) (.i sL (.i fs aG))) rfl bQ aq b6
      .rw[PL]at ar;exact bO lx mJ rfl ar
    .simp?[aD,aC,aF,aE,bt,Pm];refine a5 _ n _ ?_;simp?[aD,aC,aF,aE,bt,Pm];refine a5 _ n _ ?_;simp?[aD,aC,aF,aE,bt,Pm];refine dz aI _ _ _ U (O (k:Int)) rfl rfl ?_;erw[jL,<-Rt];intro dq da;have cj:=ah.WH (.WE ((e.take k).map .a)) da;simp?[aD,aC,aF,aE,bt,Pm];rewrite[dL (ak _ _ _) (cj _ _ bh)];refine⟨by simp only[Pt,Qs,PL,P6];unfold aJ;exact aQ eY wU rfl ay,λdb de=>?_⟩;have df:=ah.WH (.WE ((e.take k).map .a++[.a 45])) de;have ax:=cj.WF df;simp?[bt,Pm];refine a5 _ (ax _ _ n) _ ?_;simp?[bt,Pm];refine kJ T (a:=a) (as.WG ax) ae (G:=db) (e:=e.take k++[45]) (by erw[ak,PU];rfl) bM (by erw[PC,Qs];simp;exact aQ eY (ai jp oz) rfl ay) λw dr M bw dg ck bU=>?_;rw[b0]at bU;simp?[bt,Pm];refine a5 _ (bw _ _ (ax _ _ n)) _ ?_;simp?[bt,Pm];refine a5 _ (bw _ _ (ax _ _ n)) _ ?_;simp?[bt,Pm];refine dz (bw _ _ (ax _ _ aI)) _ _ _ (O (k:Int)) U rfl rfl ?_;erw[kM,<-Ru];intro dh di;have a8:=ah.WH (.WE ((e.drop k).map .a)) di;have bx:=(ax.WF bw).WF a8;simp?[bt,Pm];refine a5 _ (bx _ _ n) _ ?_;simp?[bt,Pm];refine kJ T (a:=a) (as.WG bx) ae (G:=dh) (e:=e.drop k) (ak _ _ _) bN (by erw[Qe];exact aQ eY (ai f5 c7) rfl ay) λY ds B bb dj dk cl=>?_;rw[b1]at cl;have r:=bx.WF bb;simp?[];refine aY ((eJ (p:=an.WY h) (r _ _ n) (Z:=55) (f:=50) rfl)) ?_;simp?[];refine NX T (a:=a+6) (bL.WG r) (as.Xj.WG r) (bb _ _ (a8 _ _ ck)) ((bU.WG a8).WG bb) af bl ?_;erw[cI];exact bF w Y M B _ r (ax.WK dg) (bx.WK dj) (bb _ _ (a8 _ _ ck)) dk ((bU.WG a8).WG bb) cl
  .intro W K i c aA bH bI bJ bK bf bg m aj v aV bh aB z w aq ar;subst aj
   .refine⟨v _ _ bC,?_⟩;obtain⟨⟨bi,n⟩,aI,⟨S,A⟩,bk⟩:=be.WG v;simp?[bt,Pm];refine a5 _ n _ ?_;simp?[bt,Pm];refine dz S _ _ _ (O (c:Int)) U rfl rfl ?_;erw[qO j c _ rfl];intro C bo;have o:=ah.WH (.WE ((j.drop c).map .b)) bo;simp?[bt,Pm];rewrite[dL (o _ _ aV) (ak _ _ _)];have aZ:i.length=K.length:=aB.WJ;have bq:j.length=g.length:=A.WJ;have cm:W=ad.length:=ar;refine⟨by simp only[Pt,Qe];exact lT aZ aq (PO (QW cm) bD) bq w aS (Pp rfl),λd aL=>?_⟩;have bz:=ah.WH (.WE (i.map .b++(j.drop c).map .b)) aL;refine ct d _ (i++j.drop c) ((v.WF o).WF bz) ((v.WF o).WK aL) ?_ ?_ ?_;·erw[ak,PU];rfl
    .erw[<-z];refine cZ.W_ ?_ ?_;·exact((aB.WG (ao.Yl _ _ _)).WG (ao.WG o)).WG (ao.WG bz)
     .exact(bd.Xz (bd.Xs ((bW.WG v).WG (o.WF bz)) ((A.W7 c).WG (o.WF bz)) λa bS=>af a (QR bS)))
    .erw[PC,Qe];exact lT aZ aq (PO (QW cm) bD) bq w aS (Pp rfl)
 .obtain⟨⟨bi,n⟩,aI,⟨S,A⟩,bk⟩:=id be;refine ok (id bc) λdu dv dw dx dy bV al al al al al al as=>?_;simp?[aD,aC,aF,aE,j',bt,Pm];refine a5 _ n _ ?_;simp?[aD,aC,aF,aE,j',bt,Pm];refine aY ((eJ (p:=an.WY h) bV (Z:=47) (f:=13) rfl)) ?_;simp?[aD,aC,aF,aE,j',bt,Pm];refine a5 _ n _ ?_;simp?[aD,aC,aF,aE,j',bt,Pm];refine a5 _ bV _ ?_;simp?[aD,aC,aF,aE,j',bt,Pm];refine kO as ?_;simp?[aD,aC,aF,aE,j',bt,Pm];refine CU T (a:=a+7) bc (by decide) ?_;simp?[bt,Pm];refine a5 _ n _ ?_;simp?[bt,Pm];refine a5 _ bV _ ?_;simp?[bt,Pm];refine kO as ?_;simp?[bt,Pm];refine⟨by exact Pp rfl,λy cn=>⟨by exact Pp rfl,λf az=>?_⟩⟩;have co:y≠f:=by exact fx az
  refine bF y f _ ((ah.WH _ cn).WF (ah.WH _ az)) ((ah.WH _ cn).WK az) co (by exact((aH _ _ co).trans (ak _ _ _))) (ak _ _ _)
theorem MU{k:dh}(i:aw->aa)(j:k.WP b):∀{d:List Nat}{xs:List aw}{Q:List aa->ab->Prop},bd a b d xs->(∀c e,bV a b c e->e∈xs->∀l:aa->ab->Prop,l (i e) b->K (.b c) b l)->Q (xs.map i) b->dS (λq b Q=>Q (.g L) b) K k (d.map .b) b Q:=by intro d;induction d with
 |nil=>
  intro xs Q f g h;rcases xs with _|⟨_,_⟩;·exact QN j h
  .exact f.elim
 |cons c d m=>
  intro xs Q f g h;rcases xs with _|⟨e,xs⟩;·exact f.elim
  .erw[Qj];exact QN j (g c e f.1 (by simp) _ (m f.2 (λc n o p=>g c n o (PY _ p)) h))
theorem yI:∀xs:List aw,fR (xs.map λa=>aa.a (a0 a).length)=O ((xs.flatMap a0).length:Int)|[]=>rfl|a::xs=>by show(fR (xs.map λa=>aa.a (a0 a).length)).map (((a0 a).length:Int)+·)=_;erw[yI xs,Qt,PC];simp
theorem E1{s:Nat}(d:h=a2 an (a+2)){o p:Nat}{c q:List aw}{r:List Nat}(t:je b s l u c e Z o p r)(v:b G=O (.WE (j.map .b)))(f:bd l b j (u++c++q))(w:k<=c.length)(x:c.length<=10000)(y:∀g,ah b g->Q (.a (dR c k)) g):h 53 [.b s,.b G,.a (u.length+k:Nat)] b Q:=by
 refine a' d (i:=[O (.b s),O (.b G),O (.a (u.length+k:Nat)),U]) rfl rfl λh d=>?_;obtain⟨⟨E,z⟩,_⟩:=t;simp?[vN,bt,Pm];refine a5 _ z _ ?_;simp?[vN,bt,Pm];refine dz v _ _ _ (O (u.length:Int)) (O ((u.length+k:Nat):Int)) rfl rfl ?_;erw[ib u.length (u.length+k) _ _ rfl rfl];refine bG (show u.length+k-u.length=k by exact b4 lv rfl) ?_;intro A B;have i:=ah.WH (.WE (((j.drop u.length).take k).map .b)) B;have m:bd l b ((j.drop u.length).take k) (c.take k):=by have:=(f.XB).W3 k;rw[Uh,RW w]at this;exact this
 simp?[];refine aY (cE (ak _ _ _)) ?_;simp?[];refine⟨by erw[Pt];have:=m.WJ;erw[this,Qs];unfold aJ;exact aQ (ai ag rK) (ai jp cP) rfl x,?_⟩;refine MU (k:=.x A _) (λn=>.a (a0 n).length) (ak _ _ _) (m.WG i) (λF n f H I C=>?_) ?_;·simp?[];refine n1 d (a:=a) f ?_;simp? only[Pt];exact C
 .intro K D;simp?[];rewrite[yJ (ak _ _ _) (yI _)];exact y _ (i.WF (ah.WH _ D))
structure jd(R F S:List Int):Prop where
 M?:R=[]\/R=[40]
 t?:S=[]\/S=[46]
 m?:∀P∈F,P=65\/(97<=P/\P<=100)
 WJ:2<=F.length/\F.length<=7
theorem jd.Xr{f g:List Int}(c:jd e f g):∀d∈e++f++g,d∈bn:=by
 intro d a;rcases Qh.mp a with a|a
 .rcases Qh.mp a with a|a
  .rcases c.M? with b|b<;>rw[b]at a;·cases a
   .rw[P_]at a;subst a;decide
  .have:=c.m? d a;simp only[bn,PM,P0,or_false];exact bg (.B rG sG) mF rfl this
 .rcases c.t? with b|b<;>rw[b]at a;·cases a
  .rw[P_]at a;subst a;decide
theorem jd.XU{b c:List Int}(a:jd e b c):(e++b++c).length<=9/\e.length<=1:=by have:=a.WJ;rcases a.M? with d|d<;>rcases a.t? with f|f<;>(erw[d,f])<;>simp<;>(first|exact a7 dD f7 rfl this.2|exact a7 dD m7 rfl this.2|exact this.2)
theorem pH(a:d=65\/(97<=d/\d<=100)):bF d≠0/\(bF d=d↔d≠65)/\(1<=bF d/\bF d<=255):=by
 unfold bF;rcases a with rfl|a;·decide
 .erw[if_neg (bg h4 (.w rG) rfl a.1),if_pos (bx h4 jj (.i h4 (aq ag (.H 122))) rfl a.1 a.2)];have b:65<d:=V6 (by decide) a.1;exact⟨V2 (Int.lt_trans (by decide) b),⟨λc=>V2 b,λc=>rfl⟩,QU (by decide) a.1,QU a.2 (by decide)⟩
theorem tu:∀{j:List aw},(∀d∈j,cg d)->∀{h n:List Int}{m:Int},j.flatMap a0=h++m::n->(h=[]\/h=[40])->∃e d k l,j=e++d::k/\e.flatMap a0=h/\a0 d=m::l/\(∀c∈e,a0 c=[]\/a0 c=[40])
|[],_,h,n,m,a,_=>by have:=congrArg QI a;simp at this
|c::j,o,h,n,m,a,t=>by rw[Qt]at a;cases b:a0 c with
 |nil=>rw[b,Rs]at a;obtain⟨e,d,k,l,p,q,r,s⟩:=tu (λf g=>o f (PY _ g)) a t;exact⟨c::e,d,k,l,by erw[p];rfl,by erw[Qt,b,q];rfl,r,λf g=>(PM.mp g).elim (λi=>by erw[i];exact .inl b) (s f)⟩
 |cons A u=>
  rw[b]at a;rcases t with rfl|rfl;·rw[Rx,Rs,Uz]at a;obtain⟨rfl,a⟩:=a;exact⟨[],c,j,u,rfl,rfl,b,fU⟩
  .rw[Rx,Rx,Rs,Uz]at a;obtain⟨rfl,a⟩:=a;have v:u=[]:=by have w:=o c (by simp);cases c with
    |YG i=>cases b;rfl
    |Yy i x y z=>have:=w.2 40 (by show(40:Int)∈a0 (.Yy i x y z);erw[b];simp);exact absurd this (by decide)
    |_=>cases b
   subst v;rw[Rs]at a;obtain⟨e,d,k,l,p,q,r,s⟩:=tu (λf g=>o f (PY _ g)) (h:=[]) a (.inl rfl);exact⟨c::e,d,k,l,by erw[p];rfl,by erw[Qt,b,q];rfl,r,λf g=>(PM.mp g).elim (λi=>by erw[i];exact .inr b) (s f)⟩
theorem tt:∀{e:List aw},(∀o∈e,cg o)->∀{b:List Int},e.flatMap a0=b++[46]->(46:Int)∉b->∃d f,e=d++.YG 46::f/\d.flatMap a0=b
|[],_,b,g,_=>by have:=congrArg QI g;simp at this
|h::e,m,b,g,p=>by
 rw[Qt]at g;have n:=λi q=>m i (PY _ q);rcases List.append_eq_append_iff.mp g with⟨r,a,c⟩|⟨s,a,c⟩;·have t:(46:Int)∉r:=λi=>p (by erw[a];simp[i]);obtain⟨d,f,j,k⟩:=tt n c t;exact⟨h::d,f,by erw[j];rfl,by erw[Qt,k,a];rfl⟩
 .cases s with
  |nil=>rw[P3]at a;obtain⟨d,f,j,k⟩:=tt n (b:=[]) (by rw[Rs]at c;erw[<-c];rfl) (by simp);exact⟨h::d,f,by erw[j];rfl,by erw[Qt,k,a];simp⟩
  |cons A B=>rw[Rx,Uz]at c;obtain⟨rfl,c⟩:=c;have u:=m h (by simp);cases h with
   |YG l=>
    have v:b=[]:=by cases b with|nil=>rfl|cons C us=>have:=congrArg QI a;simp[a0]at this
    subst v;have w:l=46:=by cases a;rfl
    subst w;exact⟨[],e,rfl,rfl⟩
   |Yy l x y z=>have:=u.2 46 (by show(46:Int)∈a0 (.Yy l x y z);erw[a];simp);exact absurd this (by decide)
   |_=>have:=congrArg QI a;simp[a0]at this
theorem Dc(d:Bool):∀(a c:List aw)(s:Nat),(∀b∈a,cg b)->(∀b∈a,a0 b=[]\/a0 b=[40])->fF d (a++c) s=fF d c (s+a.length)
|[],_,_,_,_=>rfl
|b::a,c,s,g,h=>by
 erw[Rx];conv=>lhs;unfold fF
 erw[if_pos (iq (g b (by simp)))];have i:=Dc d a c (s+1) (λe f=>g e (PY _ f)) (λe f=>h e (PY _ f));erw[PL];refine bG (show s+(a.length+1)=s+1+a.length by exact b4 (a9 iI h7) rfl) ?_;rcases h b (by simp)with j|j<;>erw[j]<;>dsimp only;·erw[i];rfl
 .erw[if_pos (by decide),i];rfl
theorem xD:∀(a b:List aw),(∀d∈a,cg d)->(∀c∈a.flatMap a0,bF c≠0)->dE (a++b)=(a.length+(dE b).1,(a.flatMap a0).map bF++(dE b).2)
|[],b,_,_=>by simp
|d::a,b,g,e=>by
 erw[Rx];conv=>lhs;unfold dE
 rw[Qt]at e⊢;erw[if_pos ⟨iq (g d (by simp)),λc f=>e c (by simp[f])⟩,xD a b (λh i=>g h (PY _ i)) (λc f=>e c (by simp[f]))];simp only[PL,PU,P9];congr 1;exact b4 (a9 mP h7) rfl
theorem C5:∀(a b:List aw),(∀c∈a,dJ c=L)->e_ (a++b)=e_ b
|[],_,_=>rfl
|c::a,b,d=>by
 erw[Rx];conv=>lhs;unfold e_
 erw[if_pos (d c (by simp)),C5 a b λe f=>d e (PY _ f)];rfl
theorem xE{f d:List aw}{g w:List Int}(p:jd e g w)(B:∀c∈f,cg c)(q:f.flatMap a0=e++g++w)(P:∀c,d.head?=O c->dJ c=J):∃k l,k<=f.length/\u.length+1+k<=l/\l<=u.length+1+f.length/\(f.take k).flatMap a0=e/\(∃c,f[k]?=O c/\a0 c≠[])/\gy A (u++[W]++f++d) u.length=if(g.head?≠O 65\/A=L)/\e_ d=L then O (u.length+1+k,l,g.map bF)else U:=by
 refine k9 λQ C=>?_;obtain⟨a,v,D⟩:∃a v,g=a::v:=by
  rcases R:g with _|⟨a,v⟩;·have:=p.WJ;rw[R]at this;simp at this
  .exact wd a v rfl
 have S:=p.m? a (by erw[D];simp);refine cc (pH S) λT V aj=>?_;obtain⟨m,c,x,al,j,F,G,X⟩:=tu B (n:=v++w) (m:=a) (by erw[q,D];simp) p.M?;have Y:∀b∈m,cg b:=λb n=>B b (by erw[j];simp[n]);have y:∀b∈c::x,cg b:=λb n=>B b (by erw[j];exact List.mem_append_right _ n);have E:(c::x).flatMap a0=g++w:=by have:=q;rw[j,RL,F,P9]at this;exact List.append_cancel_left this
 have Z:∀a∈g,bF a≠0:=λa q=>(pH (p.m? a q)).1;obtain⟨i,h,z,H,aa⟩:∃i h,c::x=i++h/\i.flatMap a0=g/\(h=[]\/∃I,h=.YG 46::I):=by
  rcases p.t? with l|l;·exact fe (c::x) ([]) (by simp) (by erw[E,l,P3];rfl) (.inl rfl)
  .rw[l]at E;refine k9 λQ C=>?_;obtain⟨i,h,r,s⟩:=tt y E (λo=>by have:=p.m? 46 o;exact(Ar.dC [] [] (.B (aT mM iH) (.i (aq hi mM) (aq mM c7))) .K rfl this).elim);exact C (fe i _ r s (.inr ⟨h,rfl⟩))
 refine C ?_;have ab:∀b∈i,cg b:=λb n=>y b (by erw[z];simp[n]);have ac:∀b∈h,dJ b=L:=λb n=>iq (y b (by erw[z];simp[n]));have ad:dE (h++d)=(0,[]):=by
  rcases aa with rfl|⟨I,rfl⟩
  .erw[Rs];rcases ae:d with _|⟨af,am⟩;·rfl
   .have:=P af (by erw[ae];rfl);unfold dE;erw[if_neg (by rw[this];simp)];rfl
  .erw[Rx];unfold dE;rw[if_neg];rintro⟨_,t⟩;exact t 46 (by simp[a0]) (by decide)
 have K:f.length=m.length+i.length+h.length:=by erw[j,PC,z,PC];exact Ar.dW [_,_,_] [] (a9 lA oY) rfl
 have M:(u++[W]++f++d).drop (u.length+1)=f++d:=by erw[P9,P9,<-P9];refine bG (show u.length+1=(u++[W]).length by simp) ?_;erw[Sq];rfl
 have N:(u++[W]++f++d).drop (u.length+1+m.length)=i++(h++d):=by erw[<-Tu,M,j,z,P9,Sq,P9];rfl
 refine EI m.length (u.length+1+m.length+i.length) (ff kh fP rfl K) (Ar.dW [_,_,_] [] (ai h7 (.i h7 av)) rfl) (Ar.dC [_,_,_,_,_] [] kh (ai (.i (.i m1 ap) av) (.i m1 ag)) rfl K) (by erw[j,Ui];exact F) ⟨c,by erw[j];simp,by erw[G];simp⟩ ?_;unfold gy;erw[M];have ah:fF A (f++d) (u.length+1)=if g.head?≠O 65\/A=L then O (u.length+1+m.length)else U:=by
  erw[j,P9,Dc A m _ _ Y X,Rx];unfold fF;erw[if_pos (iq (y c (by simp))),G];dsimp only;erw[if_neg T];have:(bF a=a\/A=L)↔(g.head?≠O 65\/A=L):=by erw[D];rewrite[V];simp
  by_cases t:bF a=a\/A=L;·erw[if_pos t,if_pos (this.mp t)];rfl
  .erw[if_neg t,if_neg (λo=>t (this.mpr o))];rfl
 erw[ah];by_cases r:g.head?≠O 65\/A=L
 .erw[if_pos r];dsimp only;erw[N,xD i (h++d) ab (λa q=>Z a (by rw[<-H];exact q)),ad];dsimp only;simp only[Vt,P3];erw[H,<-Tu,N,Sq,C5 h d ac];by_cases s:e_ d=L;·erw[if_pos s,if_pos ⟨r,s⟩];rfl
  .erw[if_neg s,if_neg (λo=>s o.2)];rfl
 .erw[if_neg r,if_neg (λo=>r o.1)];rfl
inductive eU where|Yx (F:aw)|q (P R S:List Int)
def hw(a:bp):eU->List aw|.Yx b=>[b]|.q c d e=>ch a (c++d++e)
def bE(a:bp)(b:List eU):List aw:=b.flatMap (hw a)
noncomputable def hA:List eU->Prop|.q _ _ _::_=>False|_=>True
noncomputable def gQ:List eU->Prop|[]=>True|.Yx b::a=>dJ b=J/\gQ a|.q c d e::a=>jd c d e/\hA a/\gQ a
noncomputable def dV(a:Bool)(b:aw):Bool:=match b with|.Zm c=>!c|_=>a
def de(a:bp)(b c d:List Int):List aw:=ch a (b++c++d)
def jW(b:bp)(e:Bool)(f:List Int->List Int)(g:Bool)(h:aw)(c a d:List Int)(i:List eU):List ek:=if bH h=6/\g=L/\(a.head?≠O 65\/e=L)/\e_ (bE b i)=L then eQ b (c++a++d) (de b c a d) ((f (a.map bF)).map λk=>((c.length:Int)+k).toNat) 0 else(de b c a d).map .z
noncomputable def df(d:bp)(e:Bool)(f:List Int->List Int):Bool->List eU->List ek|_,[]=>[]|b,.Yx a::.q g h i::c=>.z a::(jW d e f (dV b a) a g h i c++df d e f (dV b a) c)|b,.Yx a::c=>.z a::df d e f (dV b a) c|b,.q g h i::c=>(de d g h i).map .z++df d e f b c
theorem s_{a:List eU}(d:gQ a)(e:hA a):∀c,(bE E a).head?=O c->dJ c=J:=by
 intro c b;rcases a with _|⟨s,f⟩;·injection b
 rcases s with g|⟨_,_,_⟩;·injection b with b;subst b;exact d.1
 .exact e.elim
theorem IH{xs:List Int}(c:b a=O (.WE (xs.map .a)))(d:b l=O (.WE []))(Q):b3 .YW (.b a) (.b l) b Q=Q (.g (!xs.isEmpty)) b:=by
 have e:dv (.b a) (.b l) b=O xs.isEmpty:=by refine(nS c d (gC 8 xs) rfl).trans ?_;cases xs<;>rfl
 exact vp e Q
theorem K4(c:bV a b l (.Zm A))(Q):dB p (.b l) 38 b Q=Q (.g A) b:=by obtain⟨e,d⟩:=c;rw[n' d rfl]
theorem K3(c:bV a b l (.Zm A))(Q)(d:Q (.g A) b):dB p (.b l) 38 b Q:=(K4 c Q).mpr d
structure EK(F:ab)(R ai aj al am an ao:Nat)(S:bp)(ac:List Nat)(xs:List aw)(P ad ae:List (Int×aa))(YL af ag:Int)(ah:List bN)(ap:Option (List Int×List Int)):Prop where
 Y6:cV F R S
 WP:d6 S
 Y8:cb F aj am an ao P YL ad ae
 r?:eF P YL
 n?:fq P ad ah
 Z5:∀aq∈ah,gm aq
 YL:YL<=1000
 w?:rs ae ap
 aez:jg F al
 o?:F ai=O (.WE (ac.map .b))
 ZQ:bd R F ac xs
 ZR:1<=af/\af<=3
 Z2:1<=ag/\ag<=3
 aay:∀ar∈xs,∀as∈a0 ar,as∈bn
 ajy:(xs.flatMap a0).length<=63
 aaz:xs.length<=2000
theorem z3{b:Int}(c:1<=d):∀k∈dr C v e d b,0<=k:=by
 intro k a;have:k∈b9 d (e.length-b+1):=by
  unfold dr at a;split at a;·split at a<;>exact(VD.mp a).1
  .exact(VD.mp a).1
 have:=(A6.mp this).1;exact ex bL cJ iD rfl c this
theorem t6{a:Int}:(dr C v e d a).length<=(e.length-a+1-d).toNat:=by
 have b:∀c:Int->Bool,((b9 d (e.length-a+1)).filter c).length<=(e.length-a+1-d).toNat:=by refineλc=>PO (Un _ _) ?_;unfold b9;simp
 unfold dr;split;·split<;>exact b _
 .exact b _
theorem E0{a g:List aw}{d h:List Int}(i:jd e d h)(j:∀b∈a,cg b)(l:a.flatMap a0=e++d++h)(m:∀b,g.head?=O b->dJ b=J)(n:∀k c,k<=a.length->u.length+1+k<=c->c<=u.length+1+a.length->(a.take k).flatMap a0=e->(∃b,a[k]?=O b/\a0 b≠[])->(gy A (u++[W]++a++g) u.length=if(d.head?≠O 65\/A=L)/\e_ g=L then O (u.length+1+k,c,d.map bF)else U)->z):z:=by exact ol (xE (A:=A) (u:=u) (W:=W) i j l m) λk c o p q r f W=>n k c o p q r f W
theorem Lx(b:cg W)(a:Bool):dV a W=a:=by induction W with
 |Zm c=>cases b
 |_=>rfl
theorem Lz(a:cg W):bH W≠6:=by induction W with|YG b=>exact(by decide:(0:Int)≠6)|Yy b c d e=>exact(by decide:(1:Int)≠6)|YP f s=>exact(by decide:(5:Int)≠6)|_=>cases a
theorem CP{g xs:List aw}{h:List eU}(C:d6 E)(D:∀W∈g,cg W)(F:hA h)(t:gQ h)(i:xs=u++g++bE E h)(l:(g++bE E h).head?=O W){m n v}(G:bH W=6)(a:gy A xs u.length=O (m,n,v))(H:∀c b e d,g=[]->h=.Yx W::.q c b e::d->jd c b e->v=b.map bF->(b.head?≠O 65\/A=L)->e_ (bE E d)=L->gQ d->hA d->∀k,m=u.length+1+k->k<=(de E c b e).length->m<=n->n<=u.length+1+(de E c b e).length->dR (de E c b e) k=c.length->∀f,(de E c b e)[k]?=O f->a0 f≠[]->z):z:=by
 have I:g=[]:=by
  rcases g with _|⟨f,Z⟩;·rfl
  .have o:W=f:=(by simpa using l:f=W).symm;subst o;exact absurd G (Lz (D W (.head _)))
 subst I;rcases h with _|⟨K,p⟩;·injection l
 rcases K with f|⟨_,_,_⟩;case q=>exact F.elim
 .have o:W=f:=(by simpa[bE,hw]using l:f=W).symm;subst o;have M:bE E (.Yx W::p)=W::bE E p:=rfl;rw[M]at i;rcases p with _|⟨N,d⟩
  .skip;have q:xs.drop (u.length+1)=[]:=by erw[i];simp[bE]
   unfold gy at a;rw[q]at a;injection a
  rcases N with r|⟨c,b,e⟩
  .skip;have q:xs.drop (u.length+1)=r::bE E d:=by erw[i,P3];refine bG (show u.length+1=(u++[W]).length by simp) (bG (show u++W::bE E (.Yx r::d)=(u++[W])++(r::bE E d) by simp[bE,hw]) ?_);erw[Sq];rfl
   unfold gy at a;rw[q]at a;unfold fF at a;rw[if_neg (by erw[t.2.1];simp)]at a;injection a
  .skip;refine ry t λP s w x=>?_;have Q:xs=u++[W]++de E c b e++bE E d:=by erw[i];simp[bE,hw,de]
   refine cc (eI C s.Xr) λR S P=>E0 (A:=A) (u:=u) (W:=W) (a:=de E c b e) (g:=bE E d) s S R (s_ x w) λk aa T V X Y j y=>?_;rw[<-Q]at y;rw[y]at a;split at a;·rename_i B;cases a;exact j.elim λf j=>H c b e d rfl rfl s rfl B.1 B.2 x w k rfl T V X (by unfold dR;erw[Y];rfl) f j.1 j.2
   .injection a
theorem Ls{c:List Int->List Int}{d:Bool}{xs:List aw}{a:List eU}(B:d6 E)(C:hA a)(o:gQ a)(i:xs=u++bE E a)(p:(bE E a).head?=O W)(D:∀F G q,bH W=6->dV d W=L->gy A xs u.length=O (F,G,q)->c q=[])(j:∀(l:List aw) (h:List eU),xs=(u++[W])++l++bE E h->(∀m∈l,cg m)->hA h->gQ h->.z W::(l.map .z++df E A c (dV d W) h)=df E A c d a->z):z:=by
 rcases a with _|⟨H,I⟩;·injection p
 rcases H with r|⟨_,_,_⟩;case q=>exact C.elim
 have K:W=r:=(by simpa[bE,hw]using p:r=W).symm;subst K;rcases I with _|⟨M,b⟩;·exact j [] [] (by erw[i];simp[bE,hw]) fU trivial trivial rfl
 rcases M with N|⟨e,f,g⟩;·exact j [] (.Yx N::b) (by erw[i];simp[bE,hw]) fU trivial o.2 rfl
 .skip;refine ry o λP s t v=>cc (eI B s.Xr) λQ w P=>?_;have x:xs=u++[W]++de E e f g++bE E b:=by erw[i];simp[bE,hw,de]
  refine j (de E e f g) b x w t v ?_;have R:jW E A c (dV d W) W e f g b=(de E e f g).map .z:=by
   unfold jW;split;·rename_i n;refine ol (xE (A:=A) (u:=u) (W:=W) (f:=de E e f g) (d:=bE E b) s w Q (s_ v t)) λk S T V X Y Z y=>?_;rw[<-x,if_pos n.2.2]at y;erw[D _ _ _ n.1 n.2.1 y];rfl
   .rfl
  exact congrArg (λm=>ek.z W::(m++df E A c (dV d W) b)) R.symm
theorem Lr{ad dA dB dC:Nat}(aM:h=a2 an (a+11)){xs:List aw}{dD dE:List (Int×aa)}{F H:Int}{ar:List eU}(m:EK b l G Z ad dA dB dC E j xs c dD dE d F H C v)(dF:xs=bE E ar)(dG:gQ ar)(dH:hA ar)(cz:∀t w au,ah b w->w t=O (.WE (au.map .b))->cZ l w au (df E A (λp=>dr C v p F H) L ar)->au.length<=aJ->Q (.b t) w):h 54 [.b G,.b Z,.b ad,.g A,.a F,.a H] b Q:=by
 refine a' aM (i:=[O (.b G),O (.b Z),O (.b ad),O (.g A),O (.a F),O (.a H),U,U,U,U,U,U,U,U,U]) rfl rfl λh aM=>?_;have dI:(j.map aa.b).length=xs.length:=by erw[Pt,m.ZQ.WJ];rfl
 have bz:=m.aaz;generalize bi:(λp=>dr C v p F H)=T at cz;simp?[D3];refine⟨by simp,λn cB=>?_⟩;erw[hb];refine⟨xs.length+2,hs (λbB m=>∀(g ax:List aw)(V:List eU)(ae:List ek)(q:List Nat)(x:Bool)(bn aP aR W X P:Option aa) w,xs=g++ax++bE E V->(∀f∈ax,cg f)->hA V->gQ V->bB=xs.length-g.length->ah b (ao [n] w)->w n=O (.WE (q.map .b))->cZ l (ao [n] w) q ae->ae++ax.map .z++df E A T x V=df E A T L ar->ae.length<=4000*g.length->m [O (.b G),O (.b Z),O (.b ad),O (.g A),O (.a F),O (.a H),O (.b n),O (.a g.length),O (.g x),bn,aP,aR,W,X,P] w) (λm=>∀(q:List Nat)(cC cD bn aP aR W X P:Option aa) w,ah b (ao [n] w)->w n=O (.WE (q.map .b))->cZ l (ao [n] w) q (df E A T L ar)->q.length<=aJ->m [O (.b G),O (.b Z),O (.b ad),O (.g A),O (.a F),O (.a H),O (.b n),cC,cD,bn,aP,aR,W,X,P] w) (λo=>True) ?_ ?_ trivial _ xs.length (by exact b5 (a8 ag jt) rfl) [] [] ar [] [] L _ _ _ _ _ _ _ dF fU dH dG rfl (λt ay r=>by erw[ao.W0 (by rw[P_];exact cM r cB)];exact ah.WH _ cB _ _ r) (ak _ _ _) trivial rfl (by simp)⟩
 .intro cF dK dL dM _ bB cG g ax V ae q x bn aP aR W X P w aA bC bq br dN bc aS aB bD bF;subst dN;have b0:=bc.WF (ao.WV _ _);have cI:q.length=ae.length:=aB.WJ;have dO:g.length<=xs.length:=by erw[aA,PC,PC];exact Ar.dW [_,_,_] [] (ai ag oY) rfl
  simp?[];refine dt (b0 _ _ m.o?) _ ?_;simp?[];simp? only[↓ce (b0 _ _ m.o?),dI];refine nF (λcJ=>?_) λcK=>?_
  .have aU:g.length<xs.length:=by exact aQ eX bA rfl cJ
   refine az (AW m.ZQ aU) λu dQ b2=>?_;generalize dS:xs[g.length]=f at b2;have bI:(ax++bE E V).head?=O f:=by
    have:xs[g.length]?=O f:=by erw[P8 aU,dS];rfl
    rw[aA,P9,R2 (P2 _),Ti]at this;erw[VJ];exact this
   have dT:∀Q,eN (.b G) (.a g.length) w Q=Q (.b u) w:=λQ=>by rewrite[ec (b0 _ _ m.o?)];erw[ih,dQ];rfl
   have cL:∀ay,ao [n] (am w n ay)=ao [n] w:=λay=>ao.WS ay (by simp);have b3:q.length<=8000000:=by exact Ar.d3 [_,_,_,_] [] bA xy lm (ai bj (.G 4000 ag)) (ai av oC) rfl aU bz cI bF
   refine ba 3 (λm=>∀af,ah b (ao [n] af)->af n=O (.WE ((q++[u]).map .b))->cZ l (ao [n] af) (q++[u]) (ae++[.z f])->m [O (.b G),O (.b Z),O (.b ad),O (.g A),O (.a F),O (.a H),O (.b n),O (.a ((g.length:Int)+1)),O (.g x),O (.b u),aP,aR,W,X,P] af) ?_ λb6 aj=>?_
   .intro af cN aV dU;have aW:=cN.WF (ao.WV _ _);have b7:=b2.WG aW;refine ba 1 (λm=>m [O (.b G),O (.b Z),O (.b ad),O (.g A),O (.a F),O (.a H),O (.b n),O (.a ((g.length:Int)+1)),O (.g (dV x f)),O (.b u),aP,aR,W,X,P] af) ?_ λb6 aj=>?_
    .refine ba 2 (λm=>∀(bs:aa)(y:Nat)(z:List Int) R,ah af R->y≠n->R y=O (.WE (z.map .a))->(∀t r p,bH f=6->dV x f=L->gy A xs g.length=O (t,r,p)->z=T p/\∃bd,bs=.h [.a t,.a r,.b bd])->(z≠[]->bH f=6/\dV x f=L/\∃t r p,gy A xs g.length=O (t,r,p))->m [O (.b G),O (.b Z),O (.b ad),O (.g A),O (.a F),O (.a H),O (.b n),O (.a ((g.length:Int)+1)),O (.g (dV x f)),O (.b u),O bs,O (.b y),W,X,P] R) ?_ λb6 aj=>?_
     .intro bs y z R bJ dX aZ cO dY;have dZ:=cN.WF (ao.WG bJ);have d0:=aW.WF bJ;have d1:=bJ _ _ aV;have d2:=dU.WG (ao.WG bJ);simp?[aO,aN];refine⟨by simp,λa0 d4=>?_⟩;have be:=ah.WH (.WE []) d4;rewrite[IH (a:=y) (l:=a0) (be _ _ aZ) (ak _ _ _)];simp?[aO,aN];erw[gE];have bK:=be _ _ d1;have b8:=dZ.WF (ao.WG be);have b9:=d2.WG (ao.WG be);have bu:=d0.WF be;have cQ:=be _ _ aZ;generalize am R a0 (.WE [])=bv at bK b8 b9 bu cQ;refine⟨λd5=>?_,λd6=>?_⟩
      .have b_:z≠[]:=by rintro rfl;injection d5
       obtain⟨b',bf,t,r,p,cS⟩:=dY b_;obtain⟨ca,bd,rfl⟩:=cO t r p b' bf cS;refine CP m.WP bC bq br aA bI b' cS λB M S a1 bM bP aI bR d7 d8 cT cU k bw cW d9 cX cY d_ cb d'=>?_;subst bM bP;refine cc (eI m.WP aI.Xr) λc0 c1 cd=>?_;have ea:ch E (B++M++S)=de E B M S:=rfl;rw[ea]at c0 c1 cd;have bS:xs=g++[f]++de E B M S++bE E a1:=by erw[aA];simp[bE,hw,de]
       have al:(g++[f]).length=g.length+1:=by simp
       have a3:=aI.XU;have cf:=m.ZQ.WG bu;rw[bS]at cf;have eb:dJ f=J:=br.1;have c2:=(Rv.mp cb).1;obtain⟨D,bT⟩:∃D,D=de E B M S:=⟨_,rfl⟩;rw[<-bT]at c2 cW cX cY cb c0 c1 cd bS cf;simp? only[show∀N Y aq:aa,bQ [N,Y,aq] 0=O N fromλo o o=>rfl,show∀N Y aq:aa,bQ [N,Y,aq] 1=O Y fromλo o o=>rfl];refine FA aM (a:=a) (E:=E) (e:=B++M++S) (u:=g++[f]) (c:=D) (B:=bE E a1) (Z:=t) (g:=r) (m.Y6.WG bu) m.WP (bu _ _ m.o?) cf bT aI.Xr (by exact a7 f7 eG rfl a3.1) ?_ (s_ cT cU) (by exact dd iN w0 kv rfl al bw) d9 (by exact dd iN (ai av (.i cv bj)) (ai av m4) rfl al cX) ⟨d_,?_,d'⟩ (by exact em bA xy sD (ai av rK) rfl aU bz al) λs c3 c4 c5 ed e' bV c6 ci c7=>?_;·intro e I;rw[S1]at I;injection I with I;subst I;exact eb
       .erw[P9,R2 (by exact dd iN w0 kv rfl al bw),Rw (by exact Ar.dc [_,_,_,_,_] [] bA (a9 av m2) (a9 cR (.i m2 ag)) (a8 (.u cR av) ap) rfl c2 al bw),al,bw];refine bG (show g.length+1+k-(g.length+1)=k by exact b4 (a9 (.u h7 bk) ap) rfl) ?_;exact cb
       .have cj:=bu.WF bV;have c8:=cj _ _ m.o?;have c9:=m.ZQ.WG cj;rw[bS]at c9;have ee:(t:Int)=(((g++[f]).length+k:Nat):Int):=by erw[bw,al];rfl
        erw[ee];simp? only[show∀N Y aq:aa,bQ [N,Y,aq] 0=O N fromλo o o=>rfl,show∀N Y aq:aa,bQ [N,Y,aq] 1=O Y fromλo o o=>rfl];refine E1 aM (a:=a+8) c7 c8 c9 cW (by exact cp f7 hk (ai ap rK) rfl a3.1 cd) λac bg=>?_;have bW:=bg _ _ (bV _ _ bK);have c_:=c7.WG bg;obtain⟨⟨fa,ef⟩,_⟩:=id c_;simp?[bt,Pm];refine aY ((dp bW).2.2) ?_;simp?[bt,Pm];refine a5 _ ef _ ?_;simp?[bt,Pm];refine dz (bg _ _ c8) _ _ _ (O ((g.length:Int)+1)) (O ((g++[f]).length:Int)) rfl rfl ?_;erw[ib (g.length+1) (g.length+1) _ _ (by exact b5 ki rfl) (by rw[al]),Ti,List.take_zero];intro K c';have bh:=ah.WH (.WE (([]:List Nat).map .b)) c';have eg:n≠K:=by exact cM bW c'
        simp?[bt,Pm];rewrite[l_ (bh _ _ bW) (ak _ _ _)];refine⟨eg,by simp only[Pt,PC,PL,P6];unfold aJ;exact a7 (ai ag oC) (ai (.i (.i ag h9) aX) cP) rfl b3,?_⟩;have eh:=ao.WS (j:=[n]) (a:=n) (.WE ((q++[u]).map .b++([]:List Nat).map .b)) (b:=am ac K (.WE (([]:List Nat).map .b))) (by simp);have bx:am (am ac K (.WE (([]:List Nat).map .b))) n (.WE ((q++[u]).map .b++([]:List Nat).map .b)) n=O (.WE ((q++[u]).map .b)):=by erw[ak];simp
        have ck:ah (ao [n] bv) (ao [n] (am (am ac K (.WE (([]:List Nat).map .b))) n (.WE ((q++[u]).map .b++([]:List Nat).map .b)))):=by erw[eh];exact ao.WG ((bV.WF bg).WF bh)
        have da:∀e,bv e=U->e≠n:=λe I=>by exact hC I bK
        have bY:∀e ay,bv e=U->ac e=O ay->am (am ac K (.WE (([]:List Nat).map .b))) n (.WE ((q++[u]).map .b++([]:List Nat).map .b)) e=O ay:=λe ay I r=>by erw[aH _ _ (da e I)];exact bh _ _ r
        have db:fI ac (am (am ac K (.WE (([]:List Nat).map .b))) n (.WE ((q++[u]).map .b++([]:List Nat).map .b))):=bh.XP.WF (fI.WS (bh _ _ bW) _);have cl:je (am (am ac K (.WE (([]:List Nat).map .b))) n (.WE ((q++[u]).map .b++([]:List Nat).map .b))) s l (g++[f]) D (B++M++S) c3 c4 c5 ed:=by obtain⟨⟨ei,ej⟩,el,⟨cm,en⟩,eo⟩:=c_;exact⟨⟨ei,bY _ _ c6 ej⟩,bY _ _ ci.1 el,⟨bY _ _ ci.2.1 cm,en.Xo db⟩,bY _ _ ci.2.2 eo⟩
        have cn:am (am ac K (.WE (([]:List Nat).map .b))) n (.WE ((q++[u]).map .b++([]:List Nat).map .b)) y=O (.WE (z.map .a)):=by erw[aH _ _ dX];exact bh _ _ (bg _ _ (bV _ _ cQ))
        have dg:cV (am (am ac K (.WE (([]:List Nat).map .b))) n (.WE ((q++[u]).map .b++([]:List Nat).map .b))) l E:=((m.Y6.WG cj).WG bg).Xo db;generalize am (am ac K (.WE (([]:List Nat).map .b))) n (.WE ((q++[u]).map .b++([]:List Nat).map .b))=ep at bx ck cl cn dg;obtain⟨⟨er,dh⟩,_⟩:=id cl;have di:z.length<=100:=by
         erw[ca,<-bi];have es:=t6 (C:=C) (v:=v) (e:=p) (d:=F) (a:=H);have et:=aI.WJ;have eu:p.length=M.length:=by erw[bR,Pt];rfl
         have ev:=m.ZR;have ew:=m.Z2;show(dr C v p F H).length<=100;exact Ar.lc [_,_,_] [_,_] bX (ai ap hj) bL hh (ai av mH) pp rfl eu et.2 ev.1 ew.1 es
        have ex:∀k∈z,0<=k:=by erw[ca,<-bi];exact z3 m.ZR.1
        simp?[];refine aY ((dp bx).2.2) ?_;simp?[];refine aY ((eJ (p:=an.WY h) dh (Z:=58) (f:=52) rfl)) ?_;simp?[];refine aY (cE cn) ?_;simp?[];refine⟨by erw[Pt];unfold aJ;exact a7 eG dm rfl di,?_⟩;refine hN (k:=.x y _) (λo=>L) (λe=>(dR D k:Int)+e) cn (λi ey ez a0=>a0) (λi ey o ez a0=>?_) ?_;·simp?[];exact a0
        .intro cm eA;erw[RM.mpr (λo o=>rfl)];have a4:=ah.WH (.WE ((z.map λe=>(dR D k:Int)+e).map .a)) eA;have eB:(z.map λe=>(dR D k:Int)+e)=(z.map λe=>((B.length:Int)+e).toNat).map λ(bB:Nat)=>(bB:Int):=by erw[QX];refine Sm λe I=>?_;have:=ex e I;show(dR D k:Int)+e=(((B.length:Int)+e).toNat:Int);erw[cY];exact fK bl (aT mO (.W (.YR mO))) rfl this
         have eC:hY (am ep cm (.WE ((z.map λe=>(dR D k:Int)+e).map .a))) [n]:=by intro e I;rw[P_]at I;subst I;exact⟨_,a4 _ _ bx⟩
         refine E6 aM (a:=a+1) [n] (ad:=z.map λe=>((B.length:Int)+e).toNat) (dg.WG a4) m.WP (cl.WG a4) bT aI.Xr (by exact a7 f7 eY rfl a3.1) (by erw[ak,eB];rfl) (by erw[Pt];exact a7 eG dP rfl di) eC λeD dj au co eE eF dk dl=>?_;have eH:=co _ _ (a4 _ _ bx);have eK:n≠eD:=by exact cM (a4 _ _ bx) eE
         simp?[];rewrite[l_ eH eF];refine⟨eK,by simp only[Pt,PC,PL,P6];unfold aJ;exact cp xB (ai ap oC) (ai (.i (.i ap h9) ag) cP) rfl dl b3,?_⟩;have dn:=ao.WS (j:=[n]) (a:=n) (.WE ((q++[u]).map .b++au.map .b)) (b:=dj) (by simp);have dq:=ao.WG (j:=[n]) (a4.WF co);have eL:s≠n:=da s c6;have eM:am dj n (.WE ((q++[u]).map .b++au.map .b)) s=O (.WO 12 er (bt l c3 c4 c5 (g++[f]).length ((g++[f]).length+D.length))):=by erw[aH _ _ eL];exact co _ _ (a4 _ _ dh)
         simp?[bt,Pm];refine a5 _ eM _ ?_;simp?[bt,Pm];have eO:df E A T x (.Yx f::.q B M S::a1)=.z f::(eQ E (B++M++S) D (z.map λe=>((B.length:Int)+e).toNat) 0++df E A T (dV x f) a1):=by show .z f::(jW E A T (dV x f) f B M S a1++_)=_;unfold jW;erw[if_pos ⟨b',bf,d7,d8⟩,<-bR,<-ca,<-bT];rfl
         have eP:au.length=(eQ E (B++M++S) D (z.map λe=>((B.length:Int)+e).toNat) 0).length:=dk.WJ;refine bG (show((g++[f]).length:Int)+D.length=((g++[f]++D).length:Int) by rw[PC (as:=g++[f])];exact b4 oO rfl) (cG (xs.length-(g++[f]++D).length) (by erw[PC,al];exact bO bA (a8 (.u ap (.i bk av)) fg) rfl aU) (g++[f]++D) [] a1 (ae++[.z f]++eQ E (B++M++S) D (z.map λe=>((B.length:Int)+e).toNat) 0) (q++[u]++au) (dV x f) (O (.b u)) (O (.h [.a (((g++[f]).length+k:Nat):Int),.a r,.b bd])) (O (.b y)) (O (.b s)) (O (.a (dR D k))) P _ (by erw[P3];exact bS) fU cU cT rfl ?_ ?_ ?_ ?_ ?_);·erw[dn];exact(b8.WF ck).WF dq
         .erw[ak,<-PU];rfl
         .erw[dn];exact((b9.WG ck).WG dq).W_ dk
         .erw[<-bD,eO];simp
         .erw[PC,PC (as:=g++[f]),al,<-eP,PC,SZ];exact dd xB (ai ap (.G 4000 av)) (ai (.i cv ag) (.G 4000 (.i h8 bj))) rfl dl bF
      .have b_:z=[]:=by
        rcases z with _|⟨_,_⟩;·rfl
        .injection d6
       have ds:∀(a_:List aw)(aK:List eU),xs=(g++[f])++a_++bE E aK->(∀e∈a_,cg e)->hA aK->gQ aK->ae++[.z f]++a_.map .z++df E A T (dV x f) aK=df E A T L ar->cF [O (.b G),O (.b Z),O (.b ad),O (.g A),O (.a F),O (.a H),O (.b n),O (.a ((g.length:Int)+1)),O (.g (dV x f)),O (.b u),O bs,O (.b y),W,X,P] bv:=by intro a_ aK cq K cr cs ct;have:=cG (xs.length-(g++[f]).length) (by simp;exact aQ bA jl rfl aU) (g++[f]) a_ aK (ae++[.z f]) (q++[u]) (dV x f) (O (.b u)) (O bs) (O (.b y)) W X P _ cq K cr cs rfl b8 bK b9 ct (by simp;exact aQ (ai ag xu) (ai bk (.G 4000 cv)) rfl bF);rwa[show((g++[f]).length:Int)=(g.length:Int)+1 by simp]at this
       rcases ax with _|⟨e,eR⟩
       .refine Ls (A:=A) (c:=T) (d:=x) (u:=g) m.WP bq br (by erw[aA,P3];rfl) bI (λt r p eS eT eV=>?_) λa_ aK cq K cr cs ct=>ds a_ aK cq K cr cs ?_;·erw[<-(cO t r p eS eT eV).1];exact b_
        .erw[<-bD,<-ct];simp
       .have I:f=e:=(by simpa using bI:e=f).symm;subst I;refine ds eR V (by erw[aA];simp) (λN eW=>bC N (by simp[eW])) bq br ?_;rewrite[Lx (bC f (.head _))];erw[<-bD];simp
     .have cu:∀R,ah af R->(∀t r p,bH f=6->dV x f=L->gy A xs g.length=O (t,r,p)->False)->([]:List aa).length<=100/\∀y,R y=U->bo (an.WY h) b6 [O (.b G),O (.b Z),O (.b ad),O (.g A),O (.a F),O (.a H),O (.b n),O (.a ((g.length:Int)+1)),O (.g (dV x f)),O (.b u),O .WK,O (.b y),W,X,P] (am R y (.WE [])) (jV cF dK dL):=by refineλR bb eZ=>⟨by simp,λy aZ=>aj .WK y [] _ (bb.WF (ah.WH _ aZ)) ?_ (ak _ _ _) (λt r p aS aB aV=>(eZ t r p aS aB aV).elim) λe=>absurd rfl e⟩;exact hC aZ (bb _ _ aV)
      simp? only[aD,aC,aF,aE,aO,aN,↓nE b7];refine⟨λaL=>?_,λaL=>?_⟩
      .refine e6 _ _ _ ⟨λbf=>?_,λbf=>?_⟩
       .refine bG (show(g.length:Int)+1-1=(g.length:Int) by exact b5 (aT (.u fL aG) bm) rfl) (EZ aM (a:=a+6) (f:=g.length) (aW _ _ m.o?) (m.ZQ.WG aW) (m.Y6.WG aW) (m.aez.Xo aW.XP) m.aay (by exact a7 pt ky rfl bz) m.ajy aU λR bb=>?_);rcases bZ:gy A xs g.length with _|e0;·simp?[b1];exact cu R bb λt r p o o e=>by rw[bZ]at e;injection e
        .obtain⟨t,r,p⟩:=e0;refineλbd cJ e1=>CP m.WP bC bq br aA bI aL bZ λB M S a1 bM bP aI bR o o o o o o o o o o o o o=>?_;have du:=m.Y8.WG (aW.WF bb);obtain⟨⟨fb,dv⟩,_⟩:=id du;have cw:p≠[]/\(∀cx∈p,1<=cx/\cx<=255)/\p.length<=7:=by
          have a3:=aI.WJ;subst bR;refine⟨?_,?_,by erw[Pt];exact a3.2⟩;·rintro e;have:=congrArg QI e;simp at this;rw[this]at a3;simp at a3
          .intro cx e2;refine az (P'.mp e2) λe3 e4 e5=>?_;obtain rfl:=e5;exact(pH (aI.m? e3 e4)).2.2
         simp?[b1];refine aY ((eJ (p:=an.WY h) dv (Z:=57) (f:=68) rfl)) ?_;simp?[b1];simp? only[b1,(eJ (p:=an.WY h) dv (Z:=57) (f:=68) rfl),show∀N Y aq:aa,bQ [N,Y,aq] 2=O aq fromλo o o=>rfl];refine GQ aM (a:=a+7) du m.r? m.n? m.Z5 m.YL m.w? e1 cw.1 cw.2.1 cw.2.2 m.ZR m.Z2 λy bv e7 aZ e9=>aj (.h [.a t,.a r,.b bd]) y (dr C v p F H) _ (bb.WF e7) ?_ e9 (λfc fd fe o o e=>?_) λo=>⟨aL,bf,t,r,p,bZ⟩;·exact hC aZ (bb _ _ aV)
         .rw[bZ]at e;cases e;exact⟨by erw[<-bi];rfl,bd,rfl⟩
       .simp?[b1];exact cu af (ah.WZ _) λt r p o e o=>by rw[bf]at e;injection e
      .simp?[b1];exact cu af (ah.WZ _) λt r p e o o=>aL e
    .simp?[aD,aC,aF,aE,aO,aN];refine e8 b7 _ ?_;simp?[aD,aC,aF,aE,aO,aN];refine bU ?_;refine⟨λaL=>?_,λaL=>?_⟩
     .induction f with
      |Zm dw=>
       refine K3 b7 _ ?_;simp?[];refine e6 _ _ _ ?_;cases dw;·exact⟨λe=>(by injection e),λo=>aj⟩
       .exact⟨λo=>aj,λe=>(by injection e)⟩
      |_=>cases aL
     .have aj:=aj;induction f with|Zm dw=>exact absurd rfl aL|_=>exact aj
   .simp?[aD,aC,aF,aE];refine(dT _).mpr ?_;simp?[aD,aC,aF,aE];refine aY ((dp aS).1) ?_;simp?[aD,aC,aF,aE];refine mo aS _ _ ?_;simp?[aD,aC,aF,aE];refine⟨by erw[Pt];unfold aJ;exact a7 (ai ag oC) dm rfl b3,aj _ (by erw[cL];exact bc) (by erw[ak,PU];rfl) (by erw[cL];exact aB.W_ ⟨b2.WG bc,trivial⟩)⟩
  .refine dM q _ _ _ _ _ _ _ _ _ bc aS ?_ (by unfold aJ;exact Ar.d3 [_,_,_,_] [] pt ou xj (ai bj ag) h_ rfl bz cI bF dO);have dx:xs.length=g.length+ax.length+(bE E V).length:=by erw[aA,PC,PC];rfl
   have bM:ax=[]:=Rl (by exact dd jm w1 (a9 av aX) rfl cK dx);have e_:(bE E V).length=0:=by exact dd jm w1 oq rfl cK dx
   have bP:V=[]:=by match V,bq,e_ with|[],_,_=>rfl|.Yx a0::ff,_,dy=>unfold bE at dy;simp[hw]at dy
   subst bM bP;have:ae=df E A T L ar:=by erw[<-bD];exact((P3 _).trans (P3 _)).symm
   erw[<-this];exact aB
 .intro q cC cD bn aP aR W X P w bc aS aB aV;simp?[];rw[<-bi]at aB;exact cz n w q (bc.WF (ao.WV _ _)) aS (by erw[<-bi];exact aB.WG (ao.WV _ _)) aV
theorem z6(a:aw):bu 8 (bJ a)=L:=by induction a with|Yy c b d e=>show(L&&(L&&(L&&((b.map aa.a).all (bu 6)&&(L&&(L&&L))))))=L;erw[gC];rfl|_=>rfl
theorem k4(xs:List aw):(xs.map bJ).all (bu 8)=L:=by rewrite[Qi];intro d a;refine az (P'.mp a) λb e c=>?_;obtain rfl:=c;exact z6 b
theorem qL(b:xs.all (bu 8)=L)(c:w.all (bu 8)=L)(a Q):b3 .t (.h xs) (.h w) a Q=Q (.g (cq xs w)) a:=by
 have d:dv (.h xs) (.h w) a=O (cq xs w):=by show(if bu 9 (.h xs)&&bu 9 (.h w)then O (dx (.h xs) (.h w))else U)=_;have e:bu 9 (.h xs)=L:=b;have f:bu 9 (.h w)=L:=c;erw[e,f];rfl
 exact ma d Q
theorem Ey{a:aa->Bool}(b:xs.all a=L)(k:Nat):(xs.take k).all a=L:=by rw[Qi]at b⊢;exactλc d=>b c (Rj d)
theorem Ez{a:aa->Bool}(b:xs.all a=L)(k:Nat):(xs.drop k).all a=L:=by rw[Qi]at b⊢;exactλc d=>b c (QR d)
theorem Gx(a:Nat):b9 0 (a:Int)=(Qq a).map λ(k:Nat)=>(k:Int):=by unfold b9;erw[UD,R3];exact Sm λk b=>Q7 _
theorem Gw(a:Nat):b9 1 ((a:Int)+1)=(Qq a).map λ(k:Nat)=>((k+1:Nat):Int):=by unfold b9;exact bG (show((a:Int)+1-1).toNat=a by exact b5 (a9 (.YR (.u fL aG)) ag) rfl) (Sm λk b=>b5 (aT (.i aG bm) h6) rfl)
theorem nX(e:h=a2 an (a+4)){xs:List aw}(f:b G=O (.WE (j.map .b)))(c:bd l b j xs)(g:fd b l)(i:xs.length<=aJ)(k:∀d,ah b d->Q (.h (xs.map bJ)) d):h 31 [.b G] b Q:=nW e (l:=a+3) (d:=0) rfl f (by erw[Pt,c.WJ];exact i) (qN g (aR (aq aX jn) rfl) c) k
theorem JI(F:h=a2 an (a+9))(aH:cV b l E)(T:d6 E)(w:b G=O (.WE (e.map .a)))(br:∀M∈e,M∈bn)(N:e.length<=90)(bP:b Z=O (.WE ((j.map λ(k:Nat)=>(k:Int)).map .a)))(bs:j.length<=1000)(cm:∀d x bQ,ah b x->b d=U->x d=O (.WE (bQ.map .b))->cZ l x bQ (eQ E e (ch E e) j 0)->bQ.length<=3000->Q (.b d) x):h 78 [.b l,.b G,.b Z] b Q:=by
 refine a' F (i:=[O (.b l),O (.b G),O (.b Z),U,U,U,U,U,U,U,U,U,U,U,U,U,U,U,U,U,U]) rfl rfl λh F=>cc (eI T br) λcX bt bu=>?_;obtain⟨c,cn⟩:∃c,c=ch E e:=⟨_,rfl⟩;rw[<-cn]at cX bt bu cm;have P:c.length<=1000:=by exact cp eY hk iP rfl N bu
 refine ba 5 (λA=>∀B y r s H I,ah b I->I B=O (.WE (s.map .b))->bd l I s c->I y=O (.WE ((ew 0 c).map .a))->b r=U->I r=O (.WE (([]:List Nat).map .b))->A [O (.b l),O (.b G),O (.b Z),O (.b B),O (.h (c.map bJ)),O (.b y),H,O (.b r),O (.a 0),U,U,U,U,U,U,U,U,U,U,U,U] I) ?_ λbR ao=>?_
 .rintro B y r s H I C K aZ co ar cY;have bS:s.length=c.length:=aZ.WJ;simp? only[aO,aN,vR,↓cE (C _ _ bP)];refine C6 (λbT A=>∀(o:Nat)(R:List ek)(z:List Nat)(f:Nat)(g:Int)(r:Nat)(bU bV bW bX bY bv bw V a0 aI:Option aa) x,g=f->ah I x->b r=U->x r=O (.WE (z.map .b))->cZ l x z R->R++eQ E e c bT f=eQ E e c j 0->f<=c.length->R.length<=f+o->o+bT.length=j.length->A [O (.b l),O (.b G),O (.b Z),O (.b B),O (.h (c.map bJ)),O (.b y),H,O (.b r),O (.a g),bU,bV,bW,bX,bY,bv,bw,V,a0,aI,U,U] x) (λW=>True) (λW=>True) ?_ ?_ trivial trivial j 0 [] [] 0 _ r _ _ _ _ _ _ _ _ _ _ _ rfl (ah.WZ _) ar cY trivial rfl (QD _) (QD _) (Tg _)
  .intro k bT c0 bx _ _ _ o R z f g r bU bV bW bX bY bv bw V a0 aI x a1 p ar bz aK D as au X;subst a1
   .have aL:=C.WF p;refine⟨p _ _ (C _ _ bP),aY rfl ?_⟩;rw[Du]at D;generalize cr:ch E (e.take k++[45])=u at D;generalize cs:ch E (e.drop k)=n at D;have bZ:∀M∈e.take k++[45],M∈bn:=by
     intro M w;rcases Qh.mp w with w|w;·exact br M (Rj w)
     .rw[P_]at w;subst w;decide
    have b0:∀M∈e.drop k,M∈bn:=λM w=>br M (QR w);have ct:(e.take k++[45]).length<=91:=by erw[PC,Qs];simp;exact aQ eY (ai jp lr) rfl N
    have cu:(e.drop k).length<=90:=by erw[Qe];exact aQ eY (ai f5 lr) rfl N
    have b1:=(eI T bZ).2.1;have b2:=(eI T bZ).2.2;have b3:=(eI T b0).2.1;have b6:=(eI T b0).2.2;rw[cr]at b1 b2;rw[cs]at b3 b6;have cv:u.length<=1000:=by exact cp xA hk iP rfl ct b2
    have cw:n.length<=1000:=by exact cp eY hk iP rfl cu b6
    clear b2 b6 ct cu;have aM:d2 c u k<=P1 c.length u.length:=jR _ _;generalize c1:d2 c u k=d at D aM;have b7:fb c n k d<=P1 (c.length-d) n.length:=jR _ _;generalize c2:fb c n k d=t at D b7;obtain⟨aP,dG⟩:d<=c.length/\d<=u.length:=by exact bO o9 (.i a_ kv) rfl aM
    obtain⟨b9,c3⟩:t+d<=c.length/\t<=n.length:=by exact dd a_ wP w7 rfl aP b7
    clear aM b7;refine ba 2 (λA=>∀as ax Y ac ad,ah x ad->ad as=O (.WE (Y.map .b))->ad ax=O (.WE (ac.map .b))->bd l ad Y u->bd l ad ac n->A [O (.b l),O (.b G),O (.b Z),O (.b B),O (.h (c.map bJ)),O (.b y),H,O (.b r),O (.a f),O (.a k),O (.b as),O (.b ax),O (.h (u.map bJ)),O (.h (n.map bJ)),bv,bw,V,a0,aI,U,U] ad) ?_ λbR ao=>?_
    .rintro bA ax Y ac ad ae c4 c5 b_ b';have cx:=p.WF ae;refine ba 2 (λA=>∀(a4:Nat)(g:Int) bB,g=d->ah ad bB->A [O (.b l),O (.b G),O (.b Z),O (.b B),O (.h (c.map bJ)),O (.b y),H,O (.b r),O (.a f),O (.a k),O (.b bA),O (.b ax),O (.h (u.map bJ)),O (.h (n.map bJ)),O (.b a4),O (.a g),V,a0,aI,U,U] bB) ?_ λbR ao=>?_
     .intro a4 g bB a1 bC;subst a1;have cz:=cx.WF bC;refine ba 2 (λA=>∀(a5:Nat)(bD:List Int)(V:Option aa) a9,ah bB a9->a9 a5=O (.WE (bD.map .a))->bD.length=t->A [O (.b l),O (.b G),O (.b Z),O (.b B),O (.h (c.map bJ)),O (.b y),H,O (.b r),O (.a f),O (.a k),O (.b bA),O (.b ax),O (.h (u.map bJ)),O (.h (n.map bJ)),O (.b a4),O (.a d),V,O (.b a5),aI,U,U] a9) ?_ λbR ao=>?_
      .rintro a5 bD V a9 aR cB ca;have af:=cz.WF aR;have bb:=bC.WF aR;have dH:(bD.map aa.a).length=t:=by erw[Pt];exact ca
       simp? only[aO,aN];refine⟨λbE=>?_,λc6=>?_⟩
       .rw[if_neg (by exact aQ pd (.w (a8 ap ag)) rfl bE)]at D;have bc:z.length=R.length:=aK.WJ;have cC:((s.drop f).take (d-f)).length=d-f:=by erw[Qs,Qe,bS];exact bO a_ oL rfl aP
        simp? only[Pt,↓ce cB,ca];refine dz (af _ _ K) _ _ _ (O (f:Int)) (O (d:Int)) rfl rfl ?_;simp?[];erw[ib f d _ _ rfl rfl];intro dI c8;have cD:=ah.WH (.WE (((s.drop f).take (d-f)).map .b)) c8;have c9:=cD _ _ (aR _ _ (bC _ _ (ae _ _ bz)));rewrite[dL c9 (ak _ _ _)];simp?[];refine⟨by erw[Pt,Pt,cC];exact lT bc au (PO (Tk _ _) (PO (QW X) bs)) rfl (RP.mp bE) (PO aP P) (Pp rfl),λdJ c_=>?_⟩;have c':=ah.WH (.WE (z.map .b++((s.drop f).take (d-f)).map .b)) c_;have S:=cD.WF c';refine dz (S _ _ (bb _ _ c4)) _ _ _ (O (d:Int)) U rfl rfl ?_;simp?[];erw[qO Y d _ rfl];intro cF da;have bF:=ah.WH (.WE ((Y.drop d).map .b)) da;simp? only[Pt,↓ce (bF _ _ (S _ _ cB)),ca];refine dz (bF _ _ (S _ _ (bb _ _ c5))) _ _ _ U (O ((n.length:Int)-t)) rfl rfl ?_;simp?[];erw[yb ac (n.length-t) _ (by exact aQ a_ w5 rfl c3)];intro cG db;have bH:=ah.WH (.WE ((ac.take (n.length-t)).map .b)) db;refine dz (bH _ _ (bF _ _ (S _ _ (af _ _ K)))) _ _ _ (O (d:Int)) (O ((c.length:Int)-t)) rfl rfl ?_;simp?[];erw[ib d (c.length-t) _ _ rfl (by exact bO iM oN rfl b9)];intro cI de;have be:=ah.WH (.WE (((s.drop d).take (c.length-t-d)).map .b)) de;have aS:=(bF.WF bH).WF be;have bI:=(bb.WF S).WF aS;refine Dp F (a:=a+6) (l:=l) (be _ _ (bH _ _ (ak _ _ _))) (be _ _ (ak _ _ _)) (ak _ _ _) ((b_.W7 d).WG bI) ((b'.W3 (n.length-t)).WG bI) (((aZ.W7 d).W3 (c.length-t-d)).WG ((af.WF S).WF aS)) (λbf bg=>b1 bf (QR bg)) (λbf bg=>b3 bf (Rj bg)) (λbf bg=>bt bf (QR (Rj bg))) λcb cJ df=>?_;have aj:=ah.WH (.WO 8 cJ [(34,.b cF),(35,.b cG),(36,.b cI)]) df;refine⟨by exact Pp rfl,λdK dg=>?_⟩;have bh:=ah.WH (.WE [.b cb]) dg;simp?[];rewrite[dL (bh _ _ (aj _ _ (aS _ _ (ak _ _ _)))) (ak _ _ _)];simp?[];refine⟨by erw[PC,Pt,Pt,cC];exact Si (m:=9999999) (lT bc au (PO (Tk _ _) (PO (QW X) bs)) rfl (RP.mp bE) (PO aP P) (Pp rfl)) 1,λdh cK=>?_⟩;have cd:=ah.WH (.WE (z.map .b++((s.drop f).take (d-f)).map .b++[.b cb])) cK;have aU:=(aj.WF bh).WF cd;have di:=(aS.WF aj).WF (bh.WF cd);have cf:=S.WF di;have dj:=(ae.WF bb).WF cf;refine bx (o+1) (R++((c.drop f).take (d-f)).map .z++[.ZG (u.drop d) (n.take (n.length-t)) ((c.drop d).take (c.length-t-d))]) (z++(s.drop f).take (d-f)++[cb]) (c.length-t) _ dh _ _ _ _ _ _ _ _ _ _ _ ?_ (af.WF cf) ?_ ?_ ?_ ?_ (by exact b4 (ai f5 ag) rfl) ?_ ?_;·exact bO iM oN rfl b9
        .exact(C.WF (af.WF (S.WF ((aS.WF aj).WF bh)))).WK cK
        .erw[ak,PU,PU];rfl
        .refine cZ.W_ (cZ.W_ (aK.WG dj) (bd.Xz (((aZ.W7 f).W3 (d-f)).WG (af.WF cf)))) ⟨⟨cJ,cF,cG,cI,Y.drop d,ac.take (n.length-t),(s.drop d).take (c.length-t-d),?_,⟨?_,?_,?_⟩,⟨?_,?_,?_⟩,⟨?_,?_,?_⟩⟩,trivial⟩;·exact cd _ _ (bh _ _ (ak _ _ _))
         .exact aU _ _ (be _ _ (bH _ _ (ak _ _ _)))
         .exact(b_.W7 d).WG (bI.WF aU)
         .have:=b_.WJ;erw[Qe];unfold aJ;exact b8 dP mD (ai gw cP) rfl cv this
         .exact aU _ _ (be _ _ (ak _ _ _))
         .exact(b'.W3 _).WG (bI.WF aU)
         .have:=b'.WJ;erw[Qs];unfold aJ;exact bO dP (ai (.w f5 av) cP) rfl cw
         .exact aU _ _ (ak _ _ _)
         .exact((aZ.W7 d).W3 _).WG ((af.WF S).WF (aS.WF aU))
         .erw[Qs,Qe];unfold aJ;exact ff dP wz rfl P
        .erw[<-D];simp only[P9]
        .have dk:((c.drop f).take (d-f)).length=d-f:=by erw[Qs,Qe];exact bO a_ oL rfl aP
         erw[PC,PC,Pt,dk];simp only[PL,P6];exact Ar.dc [_,_,_,_,_,_] [] pd (ai av m4) (ai (.i cR ap) fs) (ai (.i (.i av fg) h9) (.i (.u fs cR) m2)) rfl bE au b9
        .rw[PL]at X;exact bO lx mJ rfl X
       .rw[if_pos (by exact aQ (.w pd) (a8 ap ag) rfl c6)]at D;refine bx (o+1) R z f _ r _ _ _ _ _ _ _ _ _ _ _ rfl af ar (aR _ _ (bC _ _ (ae _ _ bz))) (aK.WG (ae.WF bb)) D as (by exact bO su wQ rfl au) (by rw[PL]at X;exact bO lx mJ rfl X)
      .have ay:=cz _ _ co;simp? only[aD,aC,aF,aE,aO,aN,Pt];refine bG (show P1 ((c.length:Int)-d) (n.length:Int)=((P1 (c.length-d) n.length:Nat):Int) by exact bO a_ (aT (.w (.u cS bm) fh) (.W (.w fg av))) rfl aP) ⟨by exact bO dP (.i (.i (aq gx aG) (a3 aG f3)) (.i (aq gx rN) (a3 rN f3))) rfl P,by erw[i0];unfold aJ;exact bO dP (ai (.YR (.u rN aG)) cP) rfl P,?_⟩;erw[kL,Gw];refine hN (k:=.YM) (λg=>cq ((c.map bJ).drop (c.length-g.toNat)) ((n.map bJ).drop (n.length-g.toNat))&&Ps (k<=dR c (c.length-g.toNat))) (λg=>g) trivial (λi bi cg q=>?_) (λi bi W cg q=>q) ?_
       .refine az (P'.mp bi) λo aA ci=>?_;obtain rfl:=ci;rw[Ri]at aA;rw[R3]at q;simp? only[Pt];refine kF _ _ _ (O (.a ((c.length:Int)-((o+1:Nat):Int)))) U (O (((c.length-(o+1):Nat)):Int)) U (by simp only[e5];congr 3;exact ff iG wF rfl aA) rfl ?_;simp?[];erw[kM];simp? only[Pt];refine kF _ _ _ (O (.a ((n.length:Int)-((o+1:Nat):Int)))) U (O (((n.length-(o+1):Nat)):Int)) U (by simp only[e5];congr 3;exact ff iG (aT (.u kq h6) (.W (.u bj bk))) rfl aA) rfl ?_;simp?[];erw[kM];rewrite[qL (Ez (k4 c) _) (Ez (k4 n) _)];simp? only[Pt];erw[gE];refine⟨λaB=>?_,λaB=>?_⟩;·rw[aB]at q;rewrite[ec ay];erw[q8 c (c.length-(o+1)) (by exact b4 (ai r_ ag) rfl) _ (by exact ff iG wF rfl aA)];simp?[];rw[TI]at q;exact bG (show Ps ((k:Int)<=(dR c (c.length-(o+1)):Int))=Ps (k<=dR c (c.length-(o+1))) by rw[decide_eq_decide];exact RP) q
        .rw[aB]at q;exact q
       .intro a5 dl;have aj:=ah.WH (.WE ((((((Qq (P1 (c.length-d) n.length)).map λ(k:Nat)=>((k+1:Nat):Int)).filter λg=>cq ((c.map bJ).drop (c.length-g.toNat)) ((n.map bJ).drop (n.length-g.toNat))&&Ps (k<=dR c (c.length-g.toNat))).map λg=>g)).map .a)) dl;refine ao a5 _ _ _ aj (ak _ _ _) ?_;erw[Pt,Ur,Pt,<-c2,<-NG bt b3];congr 1
     .have ay:=cx _ _ co;simp? only[aD,aC,aF,aE,aO,aN,Pt];refine bG (show P1 (c.length:Int) (u.length:Int)=((P1 c.length u.length:Nat):Int) by exact b4 (aT (.w bm cS) oT) rfl) ⟨by exact aQ dP (.i (aq gx oT) (a3 oT f3)) rfl P,by erw[i0];unfold aJ;exact aQ dP (ai (.YR (.u oT aX)) cP) rfl P,?_⟩;erw[kL,Gx];refine hN (k:=.YM) (λg=>cq ((c.map bJ).take (g.toNat+1)) ((u.map bJ).take (g.toNat+1))&&Ps (dR c (g.toNat+1)<=k)) (λg=>g) trivial (λi bi cg q=>?_) (λi bi W cg q=>q) ?_
      .refine az (P'.mp bi) λo aA ci=>?_;obtain rfl:=ci;rw[Ri]at aA;rw[R3]at q;simp?[];refine kF _ _ _ U (O (.a ((o:Int)+1))) U (O ((o+1:Nat):Int)) rfl rfl ?_;simp?[];erw[jL];refine kF _ _ _ U (O (.a ((o:Int)+1))) U (O ((o+1:Nat):Int)) rfl rfl ?_;simp?[];erw[jL];rewrite[qL (Ey (k4 c) _) (Ey (k4 u) _)];simp?[];erw[gE];refine⟨λaB=>?_,λaB=>?_⟩;·rw[aB]at q;rewrite[ec ay];erw[q8 c (o+1) (by exact bO sj fM rfl aA) _ (by exact b5 ki rfl)];simp?[];rw[TI]at q;exact bG (show Ps ((dR c (o+1):Int)<=(k:Int))=Ps (dR c (o+1)<=k) by rw[decide_eq_decide];exact RP) q
       .rw[aB]at q;exact q
      .intro a4 dn;have aj:=ah.WH (.WE ((((((Qq (P1 c.length u.length)).map λ(k:Nat)=>(k:Int)).filter λg=>cq ((c.map bJ).take (g.toNat+1)) ((u.map bJ).take (g.toNat+1))&&Ps (dR c (g.toNat+1)<=k)).map λg=>g)).map .a)) dn;simp?[];refine dt (ak _ _ _) _ ?_;simp?[];simp? only[↓ce (ak _ _ _),Pt];refine ao a4 _ _ ?_ aj;erw[Ur,Pt,<-c1,<-NY bt b1];congr 1
    .simp?[aD,aC,aF,aE];refine dz (aL _ _ w) _ _ _ U (O (k:Int)) rfl rfl ?_;simp?[];erw[jL,<-Rt];intro dM dq;have dr:=ah.WH (.WE ((e.take k).map .a)) dq;refine⟨by exact Pp rfl,λdN ds=>?_⟩;have cL:=ah.WH (.WE [.a 45]) ds;rewrite[dL (cL _ _ (ak _ _ _)) (ak _ _ _)];simp?[];refine⟨by simp only[Pt,Qs,PL,P6];unfold aJ;exact aQ eY wU rfl N,λdu dv=>?_⟩;have dw:=ah.WH (.WE ((e.take k).map .a++[.a 45])) dv;have cN:=(dr.WF cL).WF dw;refine kJ F (a:=a) (aH.WG (aL.WF cN)) T (G:=du) (e:=e.take k++[45]) (by erw[ak,PU];rfl) bZ (by erw[PC,Qs];simp;exact aQ eY (ai jp oz) rfl N) λbA a9 Y aR W cO cj=>?_;simp?[];rw[cr]at cj;have cQ:=cN.WF aR;refine dz (cQ _ _ (aL _ _ w)) _ _ _ (O (k:Int)) U rfl rfl ?_;simp?[];erw[kM,<-Ru];intro dx dy;have cT:=ah.WH (.WE ((e.drop k).map .a)) dy;have bK:=cQ.WF cT;refine kJ F (a:=a) (aH.WG (aL.WF bK)) T (G:=dx) (e:=e.drop k) (ak _ _ _) b0 (by erw[Qe];exact aQ eY (ai f5 c7) rfl N) λax aV ac v W cU ck=>?_;simp?[];rw[cs]at ck;simp? !only[];have bL:=cT.WF v;exact nX F (a:=a+4) (bL _ _ cO) (cj.WG bL) (aH.Xj.WG (aL.WF (bK.WF v))) (by unfold aJ;exact a7 dP dm rfl cv) λdO al=>nX F (a:=a+4) (al _ _ cU) (ck.WG al) (aH.Xj.WG ((aL.WF (bK.WF v)).WF al)) (by unfold aJ;exact a7 dP dm rfl cw) λdQ bl=>ao bA ax Y ac _ (((bK.WF v).WF al).WF bl) (bl _ _ (al _ _ (bL _ _ cO))) (bl _ _ (al _ _ cU)) (((cj.WG bL).WG al).WG bl) ((ck.WG al).WG bl)
  .intro o R z f g r bU bV bW bX bY bv bw V a0 aI x a1 p ar bz aK D as au X;subst a1
   .refine⟨p _ _ (C _ _ bP),?_⟩;simp?[];refine dz (p _ _ K) _ _ _ (O (f:Int)) U rfl rfl ?_;simp?[];erw[qO s f _ rfl];intro dS dA;have bo:=ah.WH (.WE ((s.drop f).map .b)) dA;rewrite[dL (bo _ _ bz) (ak _ _ _)];simp?[];have bc:z.length=R.length:=aK.WJ;have cW:o=j.length:=X;refine⟨by simp only[Pt,Qe];exact lT bc au (PO (QW cW) bs) bS as P (Pp rfl),λd aM=>?_⟩;have cl:=ah.WH (.WE (z.map .b++(s.drop f).map .b)) aM;refine cm d _ (z++s.drop f) (((C.WF p).WF bo).WF cl) (((C.WF p).WF bo).WK aM) ?_ ?_ ?_;·erw[ak,PU];rfl
    .erw[<-D];exact cZ.W_ ((aK.WG bo).WG cl) (bd.Xz ((aZ.W7 f).WG ((p.WF bo).WF cl)))
    .erw[PC,Qe];exact lT bc au (PO (QW cW) bs) bS as P (Pp rfl)
 .simp?[aD,aC,aF,aE,vR];refine kJ F (a:=a) aH T w br (by exact a7 eY eG rfl N) λB I s C dT K bM=>?_;simp?[];rw[<-cn]at bM;refine nX F (a:=a+4) K bM (aH.Xj.WG C) (by unfold aJ;exact cp eY hk h_ rfl N bu) λdB p=>⟨by exact Pp rfl,λy ay=>?_⟩;have ae:=ah.WH (.WE [.a 0]) ay;have dU:B≠y:=by exact cM (p _ _ K) ay
  have dC:=ae _ _ (p _ _ K);simp?[];refine aY (cE dC) ?_;simp?[];refine nQ (l:=l) (T:=I) (λW dD A=>∀(aW:List aw)(H:Option aa) aV,c=aW++dD->ah dB aV->aV y=O (.WE ((ew 0 aW).map .a))->A [O (.b l),O (.b G),O (.b Z),O (.b B),O (.h (c.map bJ)),O (.b y),H,U,U,U,U,U,U,U,U,U,U,U,U,U,U] aV) (λW=>True) (λW=>True) ?_ ?_ trivial trivial bM [] _ _ rfl ae (ak _ _ _)
  ··refineλdV dW q dX c0 dE dY bx _ _ _ aW H aV bq v am=>⟨v _ _ (p _ _ K),aY rfl ?_⟩
    .skip;simp?[Qy];refine aY ((dp am).1) ?_;simp?[Qy];refine fB am _ _ ?_;simp? only[(dp am).1,↓ec am,pX,vL,Qy];refine JE F (a:=a+7) ((dE.WG p).WG v) ?_;simp?[];refine mo am _ _ ?_;simp?[];have:aW.length<=c.length:=by erw[bq];simp
     refine⟨by erw[Pt,vK];unfold aJ;exact em a_ (ai av lr) (ai ap se) (ai bk cP) rfl this N bu,?_⟩;refine bx (aW++[q]) _ _ (by erw[bq];simp) (v.WS ay _) ?_;erw[ak,vJ,PU];rfl
  ··refineλaW H aV bq v am=>⟨v _ _ (p _ _ K),?_⟩;simp?[];refine⟨by exact Pp rfl,λr ar=>?_⟩;simp? !only[];rw[P3]at bq;rw[<-bq]at am;have bN:=ah.WH (.WE []) ar;have dF:=(C.WF p).WF (v.WF bN);exact ao B y r s _ _ dF (bN _ _ (v _ _ (p _ _ K))) (bM.WG (p.WF (v.WF bN))) (bN _ _ am) (((C.WF p).WF v).WK ar) (ak _ _ _)
structure cf where
 T:List Int
 YB:List Int
 I:List Int
 YV:List Int
structure hX(F:cf):Prop where
 ZN:F.T≠[]/\F.T.length<=3/\∀P∈F.T,0<=P/\P<=8
 ZB:jd F.YB F.I F.YV
def g4(a:cf):List eU:=a.T.map (λb=>.Yx (bv b))++[.q a.YB a.I a.YV]
def kV(a:List Int):List eU:=a.map λb=>.Yx (bv b)
def eE(a:List cf)(b:List Int):List eU:=a.flatMap g4++kV b
noncomputable def iU(b:Bool)(a:Int):Bool:=if a<5\/6<a then b else Ps (a=6)
def dn(a:Bool)(b:List Int):Bool:=b.foldl iU a
noncomputable def k0(a:List cf)(b:List Int):List Int:=match a with|[]=>b.take 1|c::_=>c.T.take 1
noncomputable def jS(a:cf):Int:=a.T.getLast?.getD 0
def hE(b c:Bool)(a:cf)(d:List cf)(e:List Int):Bool:=c&&(Ps (jS a∈[(0:Int),7,8])&&(Ps (¬k0 d e∈[[(3:Int)],[5],[6]])&&(Ps (a.I.head?≠O 65)||b)))
def ik(b:Bool)(c:List Int->List Int)(d:Bool)(a:cf)(e:List cf)(f:List Int):List Nat:=if hE b d a e f then(c (a.I.map bF)).map λk=>((a.YB.length:Int)+k).toNat else[]
noncomputable def iT(b:bp)(d:Bool)(e:List Int->List Int)(c:List Int):Bool->List cf->List ek|_,[]=>(c.map bv).map .z|f,a::g=>(a.T.map bv).map .z++eQ b (a.YB++a.I++a.YV) (de b a.YB a.I a.YV) (ik d e (dn f a.T) a g c) 0++iT b d e c (dn f a.T) g
theorem n8(a:0<=d/\d<=8):d=0\/d=1\/d=2\/d=3\/d=4\/d=5\/d=6\/d=7\/d=8:=(bx (aq ag gu) bl (.B ey (.B lq (.B lp (.B ln (.B rJ (.B rI (.B rH (.B rF (aT ag gu))))))))) rfl a.2 a.1)
theorem ya(a:Bool)(b:0<=d/\d<=8):dV a (bv d)=iU a d:=by rcases n8 b with rfl|rfl|rfl|rfl|rfl|rfl|rfl|rfl|rfl<;>rfl
theorem vH(a:0<=d/\d<=8):dJ (bv d)=J:=by rcases n8 a with rfl|rfl|rfl|rfl|rfl|rfl|rfl|rfl|rfl<;>rfl
theorem q7(a:0<=d/\d<=8):a0 (bv d)=[]:=by rcases n8 a with rfl|rfl|rfl|rfl|rfl|rfl|rfl|rfl|rfl<;>rfl
theorem DN(a:0<=d/\d<=8):(bH (bv d)=6)↔d∈[(0:Int),7,8]:=by rcases n8 a with rfl|rfl|rfl|rfl|rfl|rfl|rfl|rfl|rfl<;>decide
theorem C4(a:0<=d/\d<=8)(xs:List aw):e_ (bv d::xs)=Ps (¬[d]∈[[(3:Int)],[5],[6]]):=by unfold e_;erw[if_neg (by rw[vH a];simp)];rcases n8 a with rfl|rfl|rfl|rfl|rfl|rfl|rfl|rfl|rfl<;>decide
theorem pK(a:bp)(b c:List eU):bE a (b++c)=bE a b++bE a c:=RL
theorem tz(c:bp)(a:List Int):bE c (a.map λb=>.Yx (bv b))=a.map bv:=by unfold bE;induction a with|nil=>rfl|cons b a d=>erw[Qj,Qt,d];rfl
theorem Ad(b:bp)(a:cf):bE b (g4 a)=a.T.map bv++de b a.YB a.I a.YV:=by unfold g4;erw[pK,tz];simp[bE,hw,de]
theorem rm(a:cf)(b:List cf)(c:List Int):eE (a::b) c=g4 a++eE b c:=by unfold eE;erw[Qt,P9];rfl
theorem LV(f:bp){b:List cf}(i:∀c∈b,hX c)(j:e.length<=1/\∀a∈e,0<=a/\a<=8):e_ (bE f (eE b e))=Ps (¬k0 b e∈[[(3:Int)],[5],[6]]):=by
 rcases b with _|⟨c,b⟩
 .rcases e with _|⟨a,g⟩;·rfl
  .have:eE [] (a::g)=.Yx (bv a)::g.map λa=>.Yx (bv a):=rfl;erw[this];show e_ (bv a::bE f _)=_;rewrite[C4 (j.2 a (by simp))];rfl
 .have h:=i c (by simp);rcases d:c.T with _|⟨a,g⟩;·exact absurd d h.ZN.1
  .erw[rm];unfold g4;erw[d];show e_ (bv a::bE f _)=_;rewrite[C4 (h.ZN.2.2 a (by rw[d];simp))];have k:k0 (c::b) e=[a]:=by show c.T.take 1=_;erw[d];rfl
   erw[k];rfl
theorem CQ(e:bp)(f:Bool)(g:List Int->List Int)(h i j:List Int)(d:List eU):∀(b:List Int)(a:Int)(c:Bool),(∀l∈a::b,0<=l/\l<=8)->df e f g c ((a::b).map (λa=>.Yx (bv a))++.q h i j::d)=((a::b).map bv).map .z++(jW e f g (dn c (a::b)) (bv (((a::b).getLast?).getD 0)) h i j d++df e f g (dn c (a::b)) d)|[],a,c,m=>by show df e f g c (.Yx (bv a)::.q h i j::d)=.z (bv a)::(jW e f g (iU c a) (bv a) h i j d++df e f g (iU c a) d);erw[<-ya c (m a (by simp))];rfl|k::b,a,c,m=>by have o:=CQ e f g h i j d b k (iU c a) (λl n=>m l (by simp at n⊢;exact .inr n));show df e f g c (.Yx (bv a)::.Yx (bv k)::(b.map (λa=>.Yx (bv a))++.q h i j::d))=_;have p:df e f g c (.Yx (bv a)::.Yx (bv k)::(b.map (λa=>.Yx (bv a))++.q h i j::d))=.z (bv a)::df e f g (dV c (bv a)) (.Yx (bv k)::(b.map (λa=>.Yx (bv a))++.q h i j::d)):=rfl;erw[p,ya c (m a (by simp))];have q:(.Yx (bv k)::(b.map (λa=>.Yx (bv a))++.q h i j::d):List eU)=(k::b).map (λa=>.Yx (bv a))++.q h i j::d:=rfl;erw[q,o];refine bG (show(a::k::b).getLast?=(k::b).getLast? from List.getLast?_cons_cons) ?_;rfl
theorem CS(c:bp)(d:Bool)(e:List Int->List Int):∀(h:List Int)(a:Bool),df c d e a (kV h)=(h.map bv).map .z|[],_=>rfl|[b],_=>rfl|b::f::g,a=>by have i:=CS c d e (f::g) (dV a (bv b));show df c d e a (.Yx (bv b)::kV (f::g))=_;have j:df c d e a (.Yx (bv b)::kV (f::g))=.z (bv b)::df c d e (dV a (bv b)) (kV (f::g)):=rfl;erw[j,i];rfl
theorem CR(c:bp)(d:Bool)(g:List Int->List Int)(t:e.length<=1/\∀f∈e,0<=f/\f<=8):∀(l:List cf)(b:Bool),(∀a∈l,hX a)->df c d g b (eE l e)=iT c d g e b l
|[],b,_=>CS c d g e b
|a::h,b,u=>by have v:=u a (by simp);have w:∀a∈h,hX a:=λB C=>u B (PY _ C);have x:=CR c d g t h (dn b a.T) w;erw[rm];unfold g4;erw[P9];cases j:a.T with
 |nil=>exact absurd j v.ZN.1
 |cons f i=>
  have m:=v.ZN.2.2;rw[j]at m x;show df c d g b ((f::i).map (λf=>.Yx (bv f))++.q a.YB a.I a.YV::eE h e)=_;erw[CQ c d g a.YB a.I a.YV _ i f b m,x];have D:iT c d g e b (a::h)=(a.T.map bv).map .z++eQ c (a.YB++a.I++a.YV) (de c a.YB a.I a.YV) (ik d g (dn b a.T) a h e) 0++iT c d g e (dn b a.T) h:=rfl;erw[D,j,P9];congr 2;have y:jS a=((f::i).getLast?).getD 0:=by unfold jS;erw[j];rfl
  erw[<-y];have z:0<=jS a/\jS a<=8:=by erw[y];cases n:(f::i).getLast? with
   |none=>rw[So]at n;cases n
   |some o=>exact m o (To n)
  unfold jW ik hE;erw[LV c w t];by_cases k:bH (bv (jS a))=6/\dn b (f::i)=L/\(a.I.head?≠O 65\/d=L)/\Ps (¬k0 h e∈[[(3:Int)],[5],[6]])=L;·erw[if_pos k];rw[if_pos];obtain⟨p,q,r,s⟩:=k;erw[q,s,decide_eq_true ((DN z).mp p)];simpa using r
  .erw[if_neg k];rewrite[if_neg];·rfl
   .intro A;apply k;simp only[Qc,TJ]at A;obtain⟨p,q,r,s⟩:=A;exact⟨(DN z).mpr (of_decide_eq_true q),p,s.imp (λo=>of_decide_eq_true o) id,r⟩
theorem xK(k:∀a∈e,0<=a/\a<=8):∀(f:List cf),(∀c∈f,hX c)->gQ (eE f e)/\hA (eE f e)
|[],_=>by
 have:∀b:List Int,(∀a∈b,0<=a/\a<=8)->gQ (kV b)/\hA (kV b):=by intro b;induction b with
  |nil=>exactλ_=>⟨trivial,trivial⟩
  |cons a b g=>exactλd=>⟨⟨vH (d a (by simp)),(g λh i=>d h (by simp[i])).1⟩,trivial⟩
 exact this e k
|c::l,d=>by
 have j:=d c (by simp);obtain⟨m,n⟩:=xK k l λo p=>d o (PY _ p);erw[rm];have q:∀b:List Int,(∀a∈b,0<=a/\a<=8)->gQ (b.map (λa=>.Yx (bv a))++.q c.YB c.I c.YV::eE l e):=by intro b;induction b with
  |nil=>exactλ_=>⟨j.ZB,n,m⟩
  |cons a b g=>exactλd=>⟨vH (d a (by simp)),g λh i=>d h (by simp[i])⟩
 unfold g4;erw[P9];refine⟨q c.T j.ZN.2.2,?_⟩;cases r:c.T with|nil=>exact absurd r j.ZN.1|cons a b=>trivial
section
theorem GY(z?:aw):bu 6 (bJ z?)=L:=by induction z? with|Yy a A b c=>show(L&&(L&&(L&&((A.map aa.a).all (bu 4)&&(L&&(L&&L))))))=L;erw[gC];rfl|_=>rfl
theorem MO(xs:List aw):(xs.map bJ).all (bu 6)=L:=by rewrite[Qi];intro c a;refine az (P'.mp a) λz? d b=>?_;obtain rfl:=b;exact GY z?
theorem GZ(z?:ek):bu 8 (nZ z?)=L:=by induction z? with|z z?=>exact z6 z?|ZG b c d=>have a:=MO;show(L&&((b.map bJ).all (bu 6)&&((c.map bJ).all (bu 6)&&((d.map bJ).all (bu 6)&&L))))=L;erw[a,a,a];rfl
theorem vk(xs:List ek):(xs.map nZ).all (bu 8)=L:=by rewrite[Qi];intro c a;refine az (P'.mp a) λz? d b=>?_;obtain rfl:=b;exact GZ z?
theorem Do(d:h=a2 an (a+7)){xs:List ek}(e:T G=O (.WE (j.map .b)))(f:cZ l T j xs)(g:fd T l)(i:j.length<=aJ)(k:∀c,ah T c->Q (.h (xs.map nZ)) c):h 31 [.b G] T Q:=nW d (l:=a+6) (d:=0) rfl e (by erw[Pt];exact i) (MF g (aR (aq aX (.H 59)) rfl) f) k
theorem q6{i g:Nat}{j:a6}(l:j=a2 an (i+4)){k:dh}{m:aa->ab->(aa->ab->Prop)->Prop}(n:∀c b o,j 79 [.a c] b o->m (.a c) b o):∀(d:List Int)(b:ab)(Q:List aa->ab->Prop),(∀a,ah b a->k.WP a)->(∀e a,ah b a->bd g a e (d.map bv)->Q (e.map .b) a)->dS (λx b Q=>Q (.g L) b) m k (d.map .a) b Q|[],b,Q,f,h=>by exact QN (f b (ah.WZ b)) (h [] b (ah.WZ b) trivial)|c::d,b,Q,f,h=>by erw[Qj];exact QN (f b (ah.WZ b)) (n c b _ (NB l (a:=i) (l:=g) λr s p y t=>q6 l (g:=g) n d s _ (λa u=>f a (p.WF u)) λe v q w=>h (r::e) v (p.WF q) ⟨t.WG q,w⟩))
theorem I_(g:h=a2 an (a+1))(e:T l=O (.WN G c))(k:∀i∈bn,be c (14*1048576+i)=O (.a (bF i)))(m:∀d f,ah T f->jg f d->Q (.b d) f):mk h 13 [.b l] T Q:=by
 refineλd n j o p=>a' g (i:=[O (.b d),O (.b l)]) rfl rfl λh g=>?_;simp? only[El];refine cK rfl (Pp rfl) ?_;simp?[];have:l≠d:=by rintro rfl;rw[j]at e;injection e
 exact m d _ (ah.WH _ j) ⟨n,l,G,c,ak _ _ _,((aH _ _ this).trans e),k⟩
def uq:List (Int×aa):=bn.map λa=>(14*1048576+a,.a (bF a))
theorem I':∀a∈bn,be (i5 [] uq) (14*1048576+a)=O (.a (bF a)):=by intro a b;simp only[bn,PM,P0,or_false]at b;rcases b with rfl|rfl|rfl|rfl|rfl|rfl|rfl|rfl|rfl|rfl|rfl<;>rfl
def up:List aa:=bn.map λa=>.h [.a (14*1048576+a),.a (bF a)]
theorem I9(b:ab):l2 b up=O uq:=rfl
theorem vg{f:List Int}(c:T a=O (.WE (f.map .a)))(d:T l=O (.WE (e.map .a))):dv (.b a) (.b l) T=O (Ps (f=e)):=by erw[nS c d (gC 8 f) (gC 8 e),nf];rfl
theorem Ix(g:T a=O (.WE [.a 3]))(h:T l=O (.WE [.a 5]))(i:T G=O (.WE [.a 6]))(d:T f=O (.WE (e.map .a)))(Q):b3 .ZE (.b f) (.h [.b a,.b l,.b G]) T Q=Q (.g (Ps (¬e∈[[(3:Int)],[5],[6]]))) T:=by
 have j:dv (.b a) (.b f) T=O (Ps ([3]=e)):=vg (f:=[3]) g d;have k:dv (.b l) (.b f) T=O (Ps ([5]=e)):=vg (f:=[5]) h d;have m:dv (.b G) (.b f) T=O (Ps ([6]=e)):=vg (f:=[6]) i d;have n:gc (.b f) T [.b a,.b l,.b G]=O (Ps (e∈[[(3:Int)],[5],[6]])):=by
  show(dv (.b a) (.b f) T).bind (λz?=>((dv (.b l) (.b f) T).bind λo=>((dv (.b G) (.b f) T).bind λp=>(O J).map (p||·)).map (o||·)).map (z?||·))=_;erw[j,k,m];show O (Ps ([3]=e)||(Ps ([5]=e)||(Ps ([6]=e)||J)))=_;congr 1;simp only[PM,P0,or_false,Bool.or_false];rewrite[Wu];simp only[TJ,decide_eq_true_iff];constructor
  .rintro(c|c|c);·exact .inl c.symm
   .exact .inr (.inl c.symm)
   .exact .inr (.inr c.symm)
  .rintro(c|c|c);·exact .inl c.symm
   .exact .inr (.inl c.symm)
   .exact .inr (.inr c.symm)
 refine(bI (d:=λq=>Q (.g (!q)) T) n).trans ?_;erw[decide_not];rfl
noncomputable def lj(b:ab)(g:aa)(a:cf):Prop:=∃c d e f,g=.h [.b c,.b d,.b e,.b f]/\b c=O (.WE (a.T.map .a))/\b d=O (.WE (a.YB.map .a))/\b e=O (.WE (a.I.map .a))/\b f=O (.WE (a.YV.map .a))
theorem lj.WG{c:ab}{d:cf}(z?:lj T o d)(a:ah T c):lj c o d:=by exact O7 z? λe f g h i j k l m=>Oz e f g h i (a _ _ j) (a _ _ k) (a _ _ l) (a _ _ m)
noncomputable def ix(b:ab):List aa->List cf->Prop:=bq (lj b)
section
variable{A:List cf}(z?:ix b vs A)
include z?
theorem ix.WG(a:ah b T):ix T vs A:=bq.WR z? λc c z?=>z?.WG a
theorem ix.WJ:vs.length=A.length:=bq.WJ z?
theorem ix.Xa(k:Nat){a:cf}(d:A[k]?=O a):∃c,vs[k]?=O c/\lj b c a:=bq.Xa z? k d
theorem ix.W_{a:List cf}(c:ix b us a):ix b (vs++us) (A++a):=bq.W_ z? c
end
structure mv(b:ab)(aj al am an ao ap aq l? ar:Nat)(S:bp)(A:List bN)(P ac ad:List (Int×aa))(YL ae af:Int)(ag:Option (List Int×List Int))(ah:List aa)(F:List cf)(R:List Int):Prop where
 Y6:cV b aj S
 WP:d6 S
 ZP:b al=O (.WE (A.map g3))
 L?:rp A
 S?:A.length<=1000
 Y8:cb b am an ao ap P YL ac ad
 r?:eF P YL
 n?:fq P ac A
 YL:YL<=1000
 w?:rs ad ag
 Ze:mw b aq ag
 ZR:1<=ae/\ae<=3
 Z2:1<=af/\af<=3
 l?:b l?=O (.WE ah)
 Zk:ix b ah F
 Z5:∀as∈F,hX as
 s?:1<=F.length/\F.length<=3
 g?:b ar=O (.WE (R.map .a))
 N?:R.length<=1/\∀ai∈R,0<=ai/\ai<=8
theorem mv.WG{g:ab}{h i j k m:Nat}{n o:List (Int×aa)}{p q:Int}{r:List cf}(z?:mv T a l G Z h i j k m E C c n o d p q v w r e)(f:ah T g):mv g a l G Z h i j k m E C c n o d p q v w r e:=⟨z?.Y6.WG f,z?.WP,f _ _ z?.ZP,z?.L?,z?.S?,z?.Y8.WG f,z?.r?,z?.n?,z?.YL,z?.w?,z?.Ze.WG f,z?.ZR,z?.Z2,f _ _ z?.l?,z?.Zk.WG f,z?.Z5,z?.s?,f _ _ z?.g?,z?.N?⟩
end
theorem G9(b:bp)(a:cf)(l:d6 b)(c:hX a):(∀f∈a.T.map bv++de b a.YB a.I a.YV,∀e∈a0 f,e∈bn)/\((a.T.map bv++de b a.YB a.I a.YV).flatMap a0).length<=9/\(a.T.map bv++de b a.YB a.I a.YV).length<=100:=by
 refine cc (eI l c.ZB.Xr) λj p m=>?_;have k:=c.ZB.XU;have n:(a.T.map bv).flatMap a0=[]:=by erw[VR];rewrite[VS];exactλg h=>q7 (c.ZN.2.2 g h)
 refine⟨λf d e i=>?_,?_,?_⟩
 .rcases Qh.mp d with d|d;·refine az (P'.mp d) λg h o=>?_;obtain rfl:=o;rw[q7 (c.ZN.2.2 g h)]at i;cases i
  .have:e∈(ch b (a.YB++a.I++a.YV)).flatMap a0:=VB.mpr ⟨f,d,i⟩;rw[j]at this;exact c.ZB.Xr e this
 .erw[RL,n,Rs];show((ch b (a.YB++a.I++a.YV)).flatMap a0).length<=9;erw[j];exact k.1
 .erw[PC,Pt];have:=c.ZN.2.1;show _+(ch b (a.YB++a.I++a.YV)).length<=100;exact em fi (ai ap iF) (ai av (.i (.G 8 ap) m6)) (ai js c7) rfl this k.1 m
theorem MK(f:b a=O (.WE xs))(g:l2 b xs=O c)(Q):cz .WN [.b a] b Q=∀d e,b d=U->Q (.b d) (am b d (.WN e (i5 [] c))):=by exact(bI f).trans (bI (d:=λc=>∀d e,b d=U->Q (.b d) (am b d (.WN e (i5 [] c)))) g)
theorem v2(a:bp)(j:d6 a)(g:e.length<=1/\∀c∈e,0<=c/\c<=8):∀(d:List cf),(∀h∈d,hX h)->(∀f∈bE a (eE d e),∀k∈a0 f,k∈bn)/\((bE a (eE d e)).flatMap a0).length<=9*d.length/\(bE a (eE d e)).length<=100*d.length+1
|[],_=>by
 have:bE a (eE [] e)=e.map bv:=tz a e;erw[this];refine⟨λf b k l=>?_,?_,by erw[Pt];simpa using g.1⟩;·obtain⟨c,i,rfl⟩:=P'.mp b;rw[q7 (g.2 c i)]at l;cases l
 .have n:(e.map bv).flatMap a0=[]:=by erw[VR];rewrite[VS];exactλc i=>q7 (g.2 c i)
  erw[n];simp
|h::o,m=>by
 obtain⟨p,q,r⟩:=v2 a j g o λs t=>m s (PY _ t);obtain⟨u,v,w⟩:=G9 a h j (m h (by simp));erw[rm,pK,Ad];refine⟨λf b=>?_,?_,?_⟩
 .rcases Qh.mp b with b|b;·exact u f b
  .exact p f b
 .erw[RL,PC,PL];exact b8 f7 (ai ap (.G 9 av)) (ai d8 (.G 9 h8)) rfl v q
 .erw[PC,PL];exact b8 eG (ai ap (.i (.G 100 av) aG)) (ai d8 (.i (.G 100 h8) aG)) rfl w r
theorem JH{H as au av W X y:Nat}(i:h=a2 an (a+11)){z:Bool}{aw ax ay aA aB aG aH aI aK aL aM aP aQ aS aT:Option aa}{aU aV:List (Int×aa)}{s t:Int}{g:List cf}{q u:Nat}{k:List Nat}(f:mv b G Z H as au av W X y E C c aU aV d s t v w g e)(bc:b q=O (.WE (j.map .b)))(be:bd G b j (bE E (g.flatMap g4)))(aW:j.length<=1000)(bf:b u=O (.WE (k.map .b))){aX:List ek}(bg:cZ G b k aX)(bh:aX++(e.map bv).map .z=iT E z (λY=>dr C v Y s t) e L g)(aZ:k.length<=100000)(bi:∀I,ah b I->Q (.g L) I):bo (an.WY h) (gN 12 d1) [O (.b l),O (.g A),O (.b G),O (.b Z),O (.b H),O (.b W),aw,ax,O (.a s),O (.a t),O (.g z),O (.b X),ay,aA,aB,aG,aH,O (.b y),O (.b q),O (.b u),aI,aK,aL,aM,aP,aQ,aS,aT,U,U,U,U,U,U,U,U,U,U,U,U] b (g7 Q):=by
 have m:=f.N?;refine ba 1 (λac=>∀q u j k p,ah b p->p q=O (.WE (j.map .b))->bd G p j (bE E (eE g e))->j.length<=1001->p u=O (.WE (k.map .b))->(cZ G p k (df E z (λY=>dr C v Y s t) L (eE g e)))->k.length<=100001->ac [O (.b l),O (.g A),O (.b G),O (.b Z),O (.b H),O (.b W),aw,ax,O (.a s),O (.a t),O (.g z),O (.b X),ay,aA,aB,aG,aH,O (.b y),O (.b q),O (.b u),aI,aK,aL,aM,aP,aQ,aS,aT,U,U,U,U,U,U,U,U,U,U,U,U] p) ?_ λb1 bj=>?_
 .rintro q u j k p K ad ae b2 bk bl bm;have B:=f.WG K;have af:(bE E (eE g e)).length<=2000:=by exact PO (v2 E f.WP m g f.Z5).2.2 (PO (SQ (Vq 100 f.s?.2)) (Pp rfl))
  simp?[aO,aN,d1];refine nX i (a:=a+7) ad ae B.Y6.Xj (by unfold aJ;exact a7 pt dm rfl af) λa0 bq=>?_;simp? only[PL,P6,R6,R4,R5,PP,PR,PQ,eq_self,true_implies,false_implies,not_true_eq_false,not_false_eq_true,and_true,true_and,and_self,implies_true,reduceCtorEq,decide_true,decide_false];refine⟨(aR (ai wm c7) rfl),by unfold aJ;exact aR (ai wm cP) rfl,?_⟩;refine jZ (k:=.YM) (λbr=>L) (λx=>match x with|.a M=>.h [.a (14*1048576+M),.a (bF M)]|x=>x) trivial (λx N aj r=>r) (λx N br aj r=>?_) ?_;·have N:x∈bn.map aa.a:=N;refine az (P'.mp N) λM bs bt=>?_;obtain rfl:=bt;refine BZ i (a:=a+10) (qP M bs) ?_;simp?[];refine uy i (a:=a+10) ?_;simp?[];exact⟨Pp rfl,r⟩
  .show∀al:Nat,a0 al=U->cz .WN [.b al] (am a0 al (.WE up)) _;intro b3 bu;have bw:=ah.WH (.WE up) bu;rewrite[MK (ak _ _ _) (I9 _)];intro b4 bx bz;have bA:=ah.WH (.WN bx (i5 [] uq)) bz;simp?[PL,P6,PP,PR,PQ];refine I_ i (a:=a+10) (ak _ _ _) I' λbB a1 P bC=>?_;simp?[];have o:=(bq.WF bw).WF (bA.WF P);have n:=B.WG o;refine cc (v2 E f.WP m g f.Z5) λbD bG b5=>?_;have bH:=f.s?;have ac:EK a1 G q H bB as au av E j (bE E (eE g e)) c aU aV d s t C v:=⟨n.Y6,n.WP,n.Y8,n.r?,n.n?,n.L?.Zw,n.YL,n.w?,bC,o _ _ ad,ae.WG o,n.ZR,n.Z2,bD,(cp (ai ag (.G 9 ap)) ku pr rfl bG bH.2),(af)⟩;obtain⟨bI,bJ⟩:=xK m.2 g f.Z5;refine Lr i (a:=a) ac rfl bI bJ λb6 b7 b8 bK bL bM bO=>?_;simp?[];have D:=o.WF bK;refine Do i (a:=a+4) bL bM (B.Y6.Xj.WG D) bO λb9 R=>Do i (a:=a+4) (R _ _ (D _ _ bk)) ((bl.WG D).WG R) ((B.Y6.Xj.WG D).WG R) (by unfold aJ;exact a7 (ai ag (.H 100001)) dm rfl bm) λb_ bP=>?_;simp?[];rewrite[qL (vk _) (vk _)];erw[ta (vk _)];simp?[];have S:=(D.WF R).WF bP;refine nX i (a:=a+7) (S _ _ ad) (ae.WG S) (B.Y6.Xj.WG S) (by unfold aJ;exact a7 pt dm rfl af) λbQ bR=>?_;simp?[];rewrite[qL (k4 _) (k4 _)];erw[ta (k4 _)];exact bi bQ ((K.WF S).WF bR)
 .simp?[aD,aC,aF,aE,aO,aN,d1];refine aY (cE f.g?) ?_;simp?[aD,aC,aF,aE,aO,aN,d1];simp? only[aD,aC,aF,aE,aO,aN,d1,↓cE f.g?,Pt];refine⟨by unfold aJ;exact a7 m8 dm rfl m.1,?_⟩;refine q6 i (i:=a+7) (g:=G) (k:=.x y _) (λbS b aj r=>r) e b _ (λI ao=>ao _ _ f.g?) λT p K a3=>?_;intro b' bT;have a4:=ah.WH (.WE (T.map .b)) bT;have a5:=K.WF a4;simp?[aD,aC,aF,aE,aO,aN,d1];rewrite[dL (a5 _ _ bc) (ak _ _ _)];simp?[];have a8:T.length=e.length:=by erw[a3.WJ,Pt];rfl
  refine⟨by simp only[Pt];unfold aJ;exact em bX s1 lN o_ rfl a8 aW m.1,λbU bV=>?_⟩;have a9:=ah.WH (.WE (j.map .b++T.map .b)) bV;have aq:=a5.WF a9;simp? only[↓cE (aq _ _ f.g?),Pt];refine⟨by unfold aJ;exact a7 m8 dm rfl m.1,?_⟩;refine q6 i (i:=a+7) (g:=G) (k:=.x y _) (λbS b aj r=>r) e _ _ (λI ao=>ao _ _ (aq _ _ f.g?)) λV a1 P a_=>?_;intro ca bW;have ar:=ah.WH (.WE (V.map .b)) bW;have o:=(aq.WF P).WF ar;have a':V.length=e.length:=by erw[a_.WJ,Pt];rfl
  simp?[];rewrite[dL (o _ _ bf) (ak _ _ _)];simp?[];refine⟨by simp only[Pt];unfold aJ;exact em bX s0 lN o_ rfl a' aZ m.1,λbY bZ=>?_⟩;have F:=ah.WH (.WE (k.map .b++V.map .b)) bZ;have bb:=(P.WF ar).WF F;simp? !only[];refine bj bU bY (j++T) (k++V) _ (o.WF F) ?_ ?_ (by erw[PC];exact em bX s1 lN (ai jr (.H 1001)) rfl a8 aW m.1) ?_ ?_ (by erw[PC];exact em bX s0 lN (ai jr (.H 100001)) rfl a' aZ m.1);·erw[bb _ _ (ak _ _ _),PU];rfl
  .have b0:bE E (eE g e)=bE E (g.flatMap g4)++e.map bv:=by unfold eE;erw[pK];congr 1;exact tz E e
   erw[b0];exact bd.W_ (be.WG (o.WF F)) (a3.WG ((a4.WF a9).WF bb))
  .erw[ak,PU];rfl
  .erw[CR E z _ m g L f.Z5,<-bh];exact cZ.W_ (bg.WG (o.WF F)) (bd.Xz (a_.WG (ar.WF F)))
theorem JF{M dq ds du N P R:Nat}(bh:h=a2 an (a+11)){m:Bool}{F W X au aw ax ay:Option aa}{dv dw:List (Int×aa)}{n j:Int}{aI:List cf}(t:mv b G Z M dq ds du N P R E C c dv dw d n j v w aI e)(bz:∀aK,ah b aK->Q (.g L) aK):bo (an.WY h) (gN 10 d1) [O (.b l),O (.g A),O (.b G),O (.b Z),O (.b M),O (.b N),F,W,O (.a n),O (.a j),O (.g m),O (.b P),X,au,aw,ax,ay,O (.b R),U,U,U,U,U,U,U,U,U,U,U,U,U,U,U,U,U,U,U,U,U,U] b (g7 Q):=by
 have cJ:w.length=aI.length:=t.Zk.WJ;have aZ:=t.s?;have d':=t.N?;refine ba 2 (λu=>∀(q r:Nat)(H I:List Nat)(ae:List ek)(g:Bool)(F au aw ax ay a0 aP p af aj S z:Option aa) s,ah b s->s q=O (.WE (H.map .b))->bd G s H (bE E (aI.flatMap g4))->H.length<=1000->s r=O (.WE (I.map .b))->cZ G s I ae->ae++(e.map bv).map .z=iT E m (λB=>dr C v B n j) e L aI->I.length<=100000->u [O (.b l),O (.g A),O (.b G),O (.b Z),O (.b M),O (.b N),F,W,O (.a n),O (.a j),O (.g m),O (.b P),X,au,aw,ax,ay,O (.b R),O (.b q),O (.b r),O (.g g),a0,aP,p,af,aj,S,z,U,U,U,U,U,U,U,U,U,U,U,U] s) ?_ λaR K=>?_;·exactλq r H I ae g F au aw ax ay a0 aP p af aj S z s a1 bA bB a4 bC bD bH a5=>JH bh (a:=a) (t.WG a1) bA bB a4 bC bD bH a5 λaK bI=>bz aK (a1.WF bI)
 .simp?[aD,aC,aF,aE,aO,aN,d1];refine⟨Pp rfl,λq dx=>⟨Pp rfl,λr cK=>?_⟩⟩;have cL:=(ah.WH (.WE []) dx).WF (ah.WH (.WE []) cK);have dy:q≠r:=fx cK;simp? !only[↓ce (cL _ _ t.l?),cJ];refine⟨(a7 fi w8 rfl aZ.2),i8 (λi u=>∀(k:Nat)(bi:List cf)(aL:List cf)(q:Nat)(r:Nat)(H:List Nat)(I:List Nat)(ae:List ek)(g:Bool)(F:Option aa)(au:Option aa)(aw:Option aa)(ax:Option aa)(ay:Option aa)(a0:Option aa)(aP:Option aa)(p:Option aa)(af:Option aa)(aj:Option aa)(S:Option aa)(z:Option aa) s,i=k->aI=bi++aL->bi.length=k->ah b s->s q=O (.WE (H.map .b))->bd G s H (bE E (bi.flatMap g4))->H.length<=300*k->s r=O (.WE (I.map .b))->cZ G s I ae->(ae++iT E m (λB=>dr C v B n j) e g aL=iT E m (λB=>dr C v B n j) e L aI)->I.length<=4000*k->u [O (.b l),O (.g A),O (.b G),O (.b Z),O (.b M),O (.b N),F,W,O (.a n),O (.a j),O (.g m),O (.b P),X,au,aw,ax,ay,O (.b R),O (.b q),O (.b r),O (.g g),a0,aP,p,af,aj,S,z,U,U,U,U,U,U,U,U,U,U,U,U] s) (λx=>True) (λx=>True) ?_ ?_ trivial trivial 0 [] aI q r [] [] [] L F au aw ax ay U U U U U U U _ rfl rfl rfl cL (by erw[aH _ _ dy,ak];rfl) trivial (Pp rfl) (ak _ _ _) trivial rfl (Pp rfl)⟩
  .intro i cM dA a8 dB _ _ _;rintro k bi aL q r H I ae g F au aw ax ay a0 aP p af aj S z s rfl al Y a1 bA bB a4 bC bD bH a5;refine⟨trivial,aY rfl ?_⟩;rcases aL with _|⟨f,D⟩;·have:=congrArg QI al;simp at this;exact(em bX ot (a3 cS fh) .K rfl Y this a8).elim
   .have bJ:=t.WG a1;have dC:aI[k]?=O f:=by erw[al,R2 (aQ bX a_ rfl Y),Y,Ti];rfl
    have a':hX f:=t.Z5 f (by erw[al];simp);obtain⟨bZ,cN,ao,az,ac,aA,rfl,bb,cO,cd,dE⟩:=bJ.Zk.Xa k dC;have bK:=a'.ZB.XU;have aS:=a'.ZB.WJ;have aU:=a'.ZN;refine ba 1 (λu=>u [O (.b l),O (.g A),O (.b G),O (.b Z),O (.b M),O (.b N),F,W,O (.a n),O (.a j),O (.g m),O (.b P),X,O (.b ao),O (.b ac),O (.b az),O (.b aA),O (.b R),O (.b q),O (.b r),O (.g g),O (.a k),aP,p,af,aj,S,z,U,U,U,U,U,U,U,U,U,U,U,U] s) ?_ λaR K=>?_
    .refine ba 1 (λu=>∀(T:Nat)(aB:List Nat) ar,ah s ar->ar T=O (.WE (aB.map .b))->bd G ar aB (f.T.map bv)->u [O (.b l),O (.g A),O (.b G),O (.b Z),O (.b M),O (.b N),F,W,O (.a n),O (.a j),O (.g m),O (.b P),X,O (.b ao),O (.b ac),O (.b az),O (.b aA),O (.b R),O (.b q),O (.b r),O (.g g),O (.a k),O (.b T),p,af,aj,S,z,U,U,U,U,U,U,U,U,U,U,U,U] ar) ?_ λaR K=>?_
     .rintro T aB ar V cQ cg;refine ba 1 (λu=>∀p,u [O (.b l),O (.g A),O (.b G),O (.b Z),O (.b M),O (.b N),F,W,O (.a n),O (.a j),O (.g m),O (.b P),X,O (.b ao),O (.b ac),O (.b az),O (.b aA),O (.b R),O (.b q),O (.b r),O (.g (dn g f.T)),O (.a k),O (.b T),p,af,aj,S,z,U,U,U,U,U,U,U,U,U,U,U,U] ar) ?_ λaR K=>?_
      .refineλp=>ba 3 (λu=>∀(bc:Nat)(y:Nat)(be:Nat) ad,ah ar ad->ad bc=O (.WE ((f.YB++f.I++f.YV).map .a))->ad y=O (.WE ((k0 D e).map .a))->ad be=O (.WE ((f.I.map bF).map .a))->u [O (.b l),O (.g A),O (.b G),O (.b Z),O (.b M),O (.b N),O (.b be),W,O (.a n),O (.a j),O (.g m),O (.b P),X,O (.b ao),O (.b ac),O (.b az),O (.b aA),O (.b R),O (.b q),O (.b r),O (.g (dn g f.T)),O (.a k),O (.b T),p,O (.b bc),O (.b y),S,z,U,U,U,U,U,U,U,U,U,U,U,U] ad) ?_ λaR K=>?_
       .rintro bc y be ad b0 cT dF dG;have ch:=V.WF b0;have bf:=bJ.WG ch;refine ba 1 (λu=>∀aM,ah ad aM->u [O (.b l),O (.g A),O (.b G),O (.b Z),O (.b M),O (.b N),O (.b be),W,O (.a n),O (.a j),O (.g m),O (.b P),X,O (.b ao),O (.b ac),O (.b az),O (.b aA),O (.b R),O (.b q),O (.b r),O (.g (dn g f.T)),O (.a k),O (.b T),p,O (.b bc),O (.b y),O (.g (hE m (dn g f.T) f D e)),z,U,U,U,U,U,U,U,U,U,U,U,U] aM) ?_ λaR K=>?_
        .rintro aM bm;have b1:=bf.WG bm;refine ba 1 (λu=>∀(aV:Nat) aW,ah aM aW->(aW aV=O (.WE (((ik m (λB=>dr C v B n j) (dn g f.T) f D e).map λ(k:Nat)=>(k:Int)).map .a)))->u [O (.b l),O (.g A),O (.b G),O (.b Z),O (.b M),O (.b N),O (.b be),W,O (.a n),O (.a j),O (.g m),O (.b P),X,O (.b ao),O (.b ac),O (.b az),O (.b aA),O (.b R),O (.b q),O (.b r),O (.g (dn g f.T)),O (.a k),O (.b T),p,O (.b bc),O (.b y),O (.g (hE m (dn g f.T) f D e)),O (.b aV),U,U,U,U,U,U,U,U,U,U,U,U] aW) ?_ λaR K=>?_
         .rintro aV aW bg b2;simp?[aO,aN];have cU:=b1.WG bg;have ci:=V.WF (b0.WF (bm.WF bg));have b3:=b0.WF (bm.WF bg);have cV:=bm.WF bg;have bn:aB.length=f.T.length:=by erw[cg.WJ,Pt];rfl
          rewrite[dL (ci _ _ bA) (b3 _ _ cQ)];simp?[];refine⟨by simp only[Pt];unfold aJ;exact Ar.lc [_,_,_,_,_] [] bX (ai av (.G 300 bj)) (a3 kq m0) (ai cR c1) ku o_ rfl bn a4 a8 aZ.2 aU.2.1,λea dH=>?_⟩;have cj:=ah.WH (.WE (H.map .b++aB.map .b)) dH;refine kJ bh (a:=a+3) (cU.Y6.WG cj) t.WP (cj _ _ (cV _ _ cT)) a'.ZB.Xr (a7 f7 eG rfl bK.1) λeb ed ck cW ee dI cX=>?_;simp?[];refine cc (eI t.WP a'.ZB.Xr) λef eg dJ=>?_;have cY:ck.length<=88:=by erw[cX.WJ];exact cp f7 hk (ai ap (.H 88)) rfl bK.1 dJ
          rewrite[dL (cW _ _ (ak _ _ _)) dI];simp?[];refine⟨by simp only[PC,Pt];unfold aJ;exact Ar.ro [_,_,_,_,_,_] [] bX xw xi xf (ai fs c1) ku (ai oX cP) rfl bn cY a4 a8 aZ.2 aU.2.1,λc0 dK=>?_⟩;have c2:=ah.WH (.WE (H.map .b++aB.map .b++ck.map .b)) dK;have b4:=(cj.WF cW).WF c2;rewrite[dL (b4 _ _ (ci _ _ bC)) (b4 _ _ (b3 _ _ cQ))];simp?[];refine⟨by simp only[Pt];unfold aJ;exact Ar.lc [_,_,_,_,_] [] bX xj (a3 kq m0) (ai cR c1) ku o_ rfl bn a5 a8 aZ.2 aU.2.1,λeh dM=>?_⟩;have c3:=ah.WH (.WE (I.map .b++aB.map .b)) dM;have cl:=b4.WF c3;have dN:(ik m (λB=>dr C v B n j) (dn g f.T) f D e).length<=1000:=by
           unfold ik;split;·erw[Pt];have bM:=t6 (C:=C) (v:=v) (e:=f.I.map bF) (d:=n) (a:=j);have cm:=t.ZR;have cn:=t.Z2;rw[Pt]at bM;show(dr C v (f.I.map bF) n j).length<=1000;exact Ar.d3 [_,_] [_,_] dD bL hh (ai ap mH) iP rfl aS.2 cm.1 cn.1 bM
           .simp
          refine JI bh (a:=a+2) (cU.Y6.WG cl) t.WP (cl _ _ (cV _ _ cT)) a'.ZB.Xr (a7 f7 eY rfl bK.1) (cl _ _ b2) dN λei ej c4 c5 el dO dP c6=>?_;simp?[];have dQ:=c3.WF c5;rewrite[dL (c5 _ _ (ak _ _ _)) dO];simp?[];refine⟨by simp only[PC,Pt];unfold aJ;exact Ar.ro [_,_,_,_,_,_] [] bX xx xh xf (ai fs c1) ku (ai oX cP) rfl bn c6 a5 a8 aZ.2 aU.2.1,λdR dT=>?_⟩;have c7:=ah.WH (.WE (I.map .b++aB.map .b++c4.map .b)) dT;have co:=dQ.WF c7;have cq:=b4.WF co;have cr:=ci.WF cq;refine dB (k+1) (bi++[f]) D c0 dR (H++aB++ck) (I++aB++c4) (ae++(f.T.map bv).map .z++eQ E (f.YB++f.I++f.YV) (de E f.YB f.I f.YV) (ik m (λB=>dr C v B n j) (dn g f.T) f D e) 0) (dn g f.T) (O (.b be)) (O (.b ao)) (O (.b ac)) (O (.b az)) (O (.b aA)) (O (.a k)) (O (.b T)) p (O (.b bc)) (O (.b y)) (O (.g (hE m (dn g f.T) f D e))) (O (.b aV)) _ (b5 ki rfl) (by erw[al];simp) (by erw[PC,Y];rfl) (a1.WF cr) ?_ ?_ ?_ ?_ ?_ ?_ ?_;·erw[co _ _ (ak _ _ _),PU,PU];rfl
          .erw[RL,pK];have dU:bE E ([f].flatMap g4)=f.T.map bv++de E f.YB f.I f.YV:=by erw[<-Ad];simp
           erw[dU,<-P9];exact bd.W_ (bd.W_ (bB.WG cr) (cg.WG (b3.WF cq))) (cX.WG (c2.WF co))
          .erw[PC,PC];exact Ar.d3 [_,_,_,_,_] [] bX xw xi ku (ai oX (.G 300 m1)) rfl bn cY a4 aU.2.1
          .erw[ak,PU,PU];rfl
          .refine cZ.W_ (cZ.W_ (bD.WG cr) (bd.Xz (cg.WG (b3.WF cq)))) (dP.WG c7)
          .erw[<-bH];show _=ae++((f.T.map bv).map .z++eQ E (f.YB++f.I++f.YV) (de E f.YB f.I f.YV) (ik m (λB=>dr C v B n j) (dn g f.T) f D e) 0++iT E m (λB=>dr C v B n j) e (dn g f.T) D);simp only[P9]
          .erw[PC,PC];exact Ar.d3 [_,_,_,_,_] [] bX xx xh ku (ai oX (.G 4000 m1)) rfl bn c6 a5 aU.2.1
         .simp?[aD,aC,aF,aE,aO,aN];refine e6 _ _ _ ⟨λcs=>?_,λcs=>⟨Pp rfl,λaV ct=>K aV _ (ah.WH _ ct) ?_⟩⟩
          .refine JC bh (a:=a+10) b1.ZP b1.L?.Zw t.S? b1.Ze (bm _ _ dG) (by erw[Pt];exact aS.2) t.ZR t.Z2 λbq aW bg c8 b2=>?_;simp?[];have bM:=t6 (C:=C) (v:=v) (e:=f.I.map bF) (d:=n) (a:=j);have cm:=t.ZR;have cn:=t.Z2;have dV:=z3 (C:=C) (v:=v) (e:=f.I.map bF) (b:=j) t.ZR.1;rw[Pt]at bM;have c9:=(V.WF (b0.WF (bm.WF bg))) _ _ cO;simp? only[↓cE b2,Pt];refine⟨by unfold aJ;exact Ar.d3 [_,_] [_,_] dD bL hh (ai ap mH) h_ rfl aS.2 cm.1 cn.1 bM,?_⟩;refine hN (k:=.x bq _) (λx=>L) (λo=>(f.YB.length:Int)+o) b2 (λi cu b6 as=>as) (λi cu x b6 as=>?_) ?_;·simp?[];refine dt c9 _ ?_;simp?[];simp? only[↓ce c9,Pt];exact as
           .intro aV ct;erw[RM.mpr (λx x=>rfl)];refine K aV _ (bg.WF (ah.WH _ ct)) ?_;erw[ak];unfold ik;erw[if_pos cs];have br:((dr C v (f.I.map bF) n j).map λk=>((f.YB.length:Int)+k).toNat).map (λ(k:Nat)=>(k:Int))=(dr C v (f.I.map bF) n j).map λo=>(f.YB.length:Int)+o:=by erw[QX];refine Sm λo aX=>?_;have:=dV o aX;show(((f.YB.length:Int)+o).toNat:Int)=(f.YB.length:Int)+o;exact fK bl (aT (.W (.YR mO)) mO) rfl this
            exact congrArg (λo=>O (ca.WE (o.map .a))) br.symm
          .erw[ak];unfold ik;erw[if_neg (by rw[cs];decide)];rfl
        .simp?[aD,aC,aF,aE,aO,aN];have bO:∀(bq:Bool)(aK:ab),bq=hE m (dn g f.T) f D e->ah ad aK->bo (an.WY h) aR [O (.b l),O (.g A),O (.b G),O (.b Z),O (.b M),O (.b N),O (.b be),W,O (.a n),O (.a j),O (.g m),O (.b P),X,O (.b ao),O (.b ac),O (.b az),O (.b aA),O (.b R),O (.b q),O (.b r),O (.g (dn g f.T)),O (.a k),O (.b T),p,O (.b bc),O (.b y),O (.g bq),z,U,U,U,U,U,U,U,U,U,U,U,U] aK cM:=λbq aK br bI=>by subst br;exact K _ bI
         obtain⟨o,aX⟩:∃o,f.T.getLast?=O o:=by
          rcases c_:f.T.getLast? with _|o;·rw[So]at c_;exact absurd c_ aU.1
          .exact⟨o,rfl⟩
         have b8:jS f=o:=by unfold jS;erw[aX];rfl
         obtain⟨cv,c',da⟩:∃cv c',f.I=cv::c':=by
          rcases dW:f.I with _|⟨db,dX⟩;·rw[dW]at aS;simp at aS
          .exact wd db dX rfl
         refine e6 _ _ _ ⟨λbs=>?_,λbs=>bO J ad (by unfold hE;erw[bs];rfl) (ah.WZ _)⟩;rewrite[ec (ch _ _ bb)];erw[pX,aX];simp?[Qy];refine⟨Pp rfl,?_⟩;rewrite[u0 o [0,7,8] (vs:=[.a 0,.a 7,.a 8]) rfl];simp?[Qy];refine bU ?_;refine⟨λbP=>⟨Pp rfl,λbt cw=>⟨Pp rfl,λbq c8=>⟨Pp rfl,λdb dY=>⟨Pp rfl,?_⟩⟩⟩⟩,λbP=>bO J ad (by unfold hE;erw[bs,b8,decide_eq_false bP];rfl) (ah.WZ _)⟩;have bR:=ah.WH (.WE [.a 3]) cw;have dc:=ah.WH (.WE [.a 5]) c8;have cx:=ah.WH (.WE [.a 6]) dY;have bS:=(bR.WF dc).WF cx;rewrite[Ix (e:=k0 D e) (cx _ _ (dc _ _ (ak _ _ _))) (cx _ _ (ak _ _ _)) (ak _ _ _) (bS _ _ dF)];simp?[Qy];refine bU ?_;refine⟨λb9=>?_,λb9=>bO J _ (by unfold hE;erw[bs,b8,decide_eq_true bP,decide_eq_false b9];rfl) bS⟩;rewrite[ec (bS _ _ (ch _ _ cd))];erw[zT,da];simp?[VK,Qy];refine il _ _ _ _ ?_;simp?[VK,Qy];refine bU ?_;have dd:(f.I.head?≠O 65)↔¬cv=65:=by erw[da];simp
         refine⟨λcz=>bO L _ ?_ bS,λcz=>bO m _ ?_ bS⟩;·unfold hE;erw[bs,b8,decide_eq_true bP,decide_eq_true b9,decide_eq_true (dd.mpr cz)];rfl
         .unfold hE;erw[bs,b8,decide_eq_true bP,decide_eq_true b9,decide_eq_false (λas=>cz (dd.mp as))];exact Bool.casesOn m rfl rfl
       .simp?[aD,aC,aF,aE,aO,aN];rewrite[dL (V _ _ cO) (V _ _ cd)];simp?[];refine⟨by simp only[Pt];unfold aJ;exact cp m8 (ai ap hj) o' rfl bK.2 aS.2,λdf dZ=>?_⟩;have dg:=ah.WH (.WE (f.YB.map .a++f.I.map .a)) dZ;rewrite[dL (ak _ _ _) (dg _ _ (V _ _ dE))];simp?[];have d0:f.YV.length<=1:=by rcases a'.ZB.t? with br|br<;>erw[br]<;>simp
        refine⟨by simp only[PC,Pt];unfold aJ;exact em m8 lN (ai av hj) (ai (.i fO ag) cP) rfl d0 bK.2 aS.2,λbT d2=>?_⟩;have d4:=ah.WH (.WE (f.YB.map .a++f.I.map .a++f.YV.map .a)) d2;have b_:=dg.WF d4;have dh:am (am ar df (.WE (f.YB.map .a++f.I.map .a))) bT (.WE (f.YB.map .a++f.I.map .a++f.YV.map .a)) bT=O (.WE ((f.YB++f.I++f.YV).map .a)):=by erw[ak,PU,PU];rfl
        have bf:=(bJ.WG V).WG b_;have b':=b_ _ _ (V _ _ cd);generalize am (am ar df (.WE (f.YB.map .a++f.I.map .a))) bT (.WE (f.YB.map .a++f.I.map .a++f.YV.map .a))=ad at b_ dh bf b';have aL:∀(y:Nat)(cB:List Int)(aM:ab),cB=k0 D e->ah ad aM->aM y=O (.WE (cB.map .a))->((f.I.map aa.a).length<=aJ/\dS (λx b Q=>Q (aa.g L) b) (λbZ b Q=>h 76 [bZ] b Q) (.x ac (f.I.map .a)) (f.I.map .a) aM λus aW=>∀bt:Nat,aW bt=U->bo (an.WY h) aR [O (.b l),O (.g A),O (.b G),O (.b Z),O (.b M),O (.b N),O (.b bt),W,O (.a n),O (.a j),O (.g m),O (.b P),X,O (.b ao),O (.b ac),O (.b az),O (.b aA),O (.b R),O (.b q),O (.b r),O (.g (dn g f.T)),O (.a k),O (.b T),p,O (.b bT),O (.b y),S,z,U,U,U,U,U,U,U,U,U,U,U,U] (am aW bt (.WE us)) cM):=by rintro y cB aM rfl cC bV;refine⟨by erw[Pt];unfold aJ;exact a7 dD dm rfl aS.2,?_⟩;refine hN (k:=.x ac _) (λx=>L) bF (cC _ _ b') (λi cu b6 as=>as) (λi cu x b6 as=>uy bh (a:=a+10) as) ?_;intro bt cw;have bR:=ah.WH (.WE (((f.I.filter λx=>L).map bF).map .a)) cw;refine K bT y bt _ ((b_.WF cC).WF bR) (bR _ _ (cC _ _ dh)) (bR _ _ bV) ?_;erw[ak,RM.mpr (λx x=>rfl)];rfl
        rewrite[ce bf.l?];simp?[];refine bU ?_;erw[cJ];refine⟨λd5=>?_,λd6=>?_⟩
        .rcases D with _|⟨cD,en⟩;·have:=congrArg QI al;simp at this;exact(em bX sD (a3 lB fh) .K rfl Y this d5).elim
         .have d7:aI[k+1]?=O cD:=by erw[al,R2 (aQ bX iL rfl Y),Y];refine bG (show k+1-k=1 by exact b5 (a9 (.u bk ag) aG) rfl) ?_;rfl
          obtain⟨eo,d8,ep,er,es,et,rfl,bW,eu,ev,ew⟩:=bf.Zk.Xa (k+1) d7;rewrite[ec bf.l?];refine bG (show(k:Int)+1=((k+1:Nat):Int)from rfl) ?_;erw[ih,d8];simp? only[show∀di bZ dj cb:aa,bQ [di,bZ,dj,cb] 0=O di fromλx x x x=>rfl];refine dz bW _ U (O (.a 1)) U (O ((1:Nat):Int)) rfl rfl ?_;simp?[];erw[jL,<-Rt];intro y bV;have bY:=ah.WH (.WE ((cD.T.take 1).map .a)) bV;simp? only[↓cE (bY _ _ b')];exact aL y (cD.T.take 1) _ rfl bY (ak _ _ _)
        .have cF:D=[]:=by have:=congrArg QI al;rw[PC,PL]at this;exact Rl (f1 bX (.w (a3 lB fh)) (a9 av (.i ag m2)) oq rfl Y d6 this)
         subst cF;refine dz bf.g? _ U (O (.a 1)) U (O ((1:Nat):Int)) rfl rfl ?_;simp?[];erw[jL,<-Rt];intro y bV;have bY:=ah.WH (.WE ((e.take 1).map .a)) bV;simp? only[↓cE (bY _ _ b')];exact aL y (e.take 1) _ rfl bY (ak _ _ _)
      .simp?[aD,aC,aF,aE,aO,aN];refine aY (cE (V _ _ bb)) ?_;simp?[aD,aC,aF,aE,aO,aN];refine hL (λbu dk u=>∀p o,o=dn g bu->f.T=bu++dk->u [O (.b l),O (.g A),O (.b G),O (.b Z),O (.b M),O (.b N),F,W,O (.a n),O (.a j),O (.g m),O (.b P),X,O (.b ao),O (.b ac),O (.b az),O (.b aA),O (.b R),O (.b q),O (.b r),O (.g o),O (.a k),O (.b T),p,af,aj,S,z,U,U,U,U,U,U,U,U,U,U,U,U] ar) (λx=>True) (λx=>True) ?_ ?_ trivial trivial f.T p _ rfl rfl
       .intro cb bu dk ex bW _ _ _ p o aX bw;subst aX;refine⟨V _ _ bb,?_⟩;simp?[];refine b7 (λbz=>bz) (λbz=>by exact bU bz) ?_;have cG:dn g (bu++[cb])=iU (dn g bu) cb:=by unfold dn;erw[Uq];rfl
        refine⟨λo=>?_,λo=>⟨λcI=>?_,λcI=>?_⟩⟩;·refine bW _ _ ?_ (by erw[bw];simp);erw[cG];unfold iU;erw[if_pos (.inl o)];rfl
        .refine bW _ _ ?_ (by erw[bw];simp);erw[cG];unfold iU;erw[if_pos (.inr cI)];rfl
        .refine bW _ _ ?_ (by erw[bw];simp);erw[cG];unfold iU;erw[if_neg (bx (.w sX) (.w (a3 hm ag)) (.w (.B sX (a3 hm ag))) rfl o cI)];rfl
       .refineλbu p o aX bw=>⟨V _ _ bb,?_⟩;simp?[];rw[P3]at bw;erw[aX,<-bw];exact K p
     .simp?[aD,aC,aF,aE,aO,aN];refine aY (cE bb) ?_;simp?[aD,aC,aF,aE,aO,aN];simp? only[aD,aC,aF,aE,aO,aN,↓cE bb,Pt];refine⟨by unfold aJ;exact a7 fi dm rfl aU.2.1,?_⟩;exact q6 bh (i:=a+7) (g:=G) (k:=.x ao _) (λdj b b6 as=>as) f.T s _ (λaK bI=>bI _ _ bb) λd9 ar V d_=>λT dl=>K T d9 _ (V.WF (ah.WH _ dl)) (ak _ _ _) (d_.WG (ah.WH _ dl))
    .simp?[aD,aC,aF,aE,cA,PL,P6,Qn,Q5,QJ,Q6,PP,PR,PQ];refine fB bJ.l? _ _ (aY cN ?_);simp?[aD,aC,aF,aE,cA,PL,P6,Qn,Q5,QJ,Q6,PP,PR,PQ];simp? !only[↓ec bJ.l?,ih,cN];exact K
  .intro i dA c0 a8;rintro k bi aL q r H I ae g F au aw ax ay a0 aP p af aj S z s rfl al Y a1 bA bB a4 bC bD bH a5;refine⟨trivial,?_⟩;simp?[];have dp:=congrArg QI al;rw[PC]at dp;have cF:aL=[]:=Rl (f1 bX (aq fh cS) (a9 av m4) oq rfl Y a8 dp);subst cF;rw[P3]at al;subst al;exact K q r H I ae g F au aw ax ay a0 aP p af aj S z _ a1 bA bB (em bX (ai av (.G 300 ap)) fi s1 rfl Y a4 aZ.2) bC bD bH (em bX (ai av xu) fi s0 rfl Y a5 aZ.2)
theorem bC.Xf(k:bC (·=a) b T)(f:a∈j):ah (ao j b) (ao j T):=λg h c=>by
 have e:g∉j:=λd=>by rw[ao.WK d]at c;injection c
 rw[ao.W0 e]at c⊢;exact k _ _ c λd=>e (by erw[d];exact f)
theorem ah.X'(h:ah b T){f:List Nat}(c:∀d∈f,d∈j\/b d=U):ah (ao j b) (ao f T):=λd i a=>by
 have g:d∉j:=λe=>by rw[ao.WK e]at a;injection a
 rw[ao.W0 g]at a;rewrite[ao.W0];·exact h _ _ a
 .intro e;rcases c d e with c|c;·exact g c
  .rw[c]at a;injection a
theorem cV.Xs(h:cV b a E)(e:hY b j):cV (ao j b) a E:=by
 refine we h λi k l m n f o p q=>cc p λr g s=>wa i k l m n ?_ o ⟨r,?_,s⟩ q;·erw[ao.W0 λd=>by obtain⟨xs,c⟩:=e _ d;rw[f]at c;cases c];exact f
 .erw[ao.W0 λd=>by obtain⟨xs,c⟩:=e _ d;rw[g]at c;cases c];exact g
theorem q4(c:bY b a l):∃xs,b a=O (.WE xs):=by exact d7 c λe f g d h=>⟨_,d⟩
theorem cb.W8{m n:List (Int×aa)}(o:cb b a l G Z c d m n){f:Nat}(e:b f=O (.WE xs)):f∉[a,l,G,Z]:=by
 obtain⟨⟨p,g⟩,⟨t1,h⟩,⟨q,i⟩,⟨r,j⟩,s⟩:=o;intro k;simp only[PM,P0,or_false]at k;rcases k with rfl|rfl|rfl|rfl;·rw[e]at g;cases g
 .rw[e]at h;cases h
 .rw[e]at i;cases i
 .rw[e]at j;cases j
theorem cb.X9{f g:Nat}{h i:List (Int×aa)}(j:cb b G Z f g c d h i)(m:bY b a l)(k:bC (·=a) b T):cb T G Z f g c d h i:=by obtain⟨xs,n⟩:=(q4 m);have e:=j.W8 n;simp only[PM,P0,or_false,not_or]at e;obtain⟨⟨o,p⟩,⟨t1,q⟩,⟨r,s⟩,⟨t,u⟩,v⟩:=j;exact⟨⟨o,k _ _ p (PB e.1)⟩,⟨t1,k _ _ q (PB e.2.1)⟩,⟨r,k _ _ s (PB e.2.2.1)⟩,⟨t,k _ _ u (PB e.2.2.2)⟩,v⟩
structure cO(ai F:ab)(P aj al am ac ad ae af R S:Nat)(an:bp)(ap:List bN)(aq ar as:List (Int×aa))(au:Int)(av ag:List aa)(aw:List cf):Prop where
 Y3:bY F P aj
 j?:ah (ao [P] ai) (ao [P,R,ac,ad,ae,af,S] F)
 Y6:cV (ao [P,R,ac,ad,ae,af,S] F) al an
 ZP:ao [P,R,ac,ad,ae,af,S] F am=O (.WE (ap.map g3))
 Y8:cb F ac ad ae af aq au ar as
 Ze:F R=O (.WE av)
 ZD:F S=O (.WE ag)
 Zk:ix (ao [P,R,ac,ad,ae,af,S] F) ag aw
 Zu:P≠R/\P≠S/\R≠S
theorem cO.W3{e:ab}{o f g h i j m:Nat}{p q:List (Int×aa)}{r:List aa}{t:List cf}(s:cO b T a l Z o f g h i j m E C c p q d w r t)(k:bC (·=a) T e)(u:bY e a G):cO b e a G Z o f g h i j m E C c p q d w r t:=by have n:ah (ao [a,j,f,g,h,i,m] T) (ao [a,j,f,g,h,i,m] e):=k.Xf (by simp);exact⟨u,s.j?.WF n,s.Y6.WG n,n _ _ s.ZP,s.Y8.X9 s.Y3 k,k _ _ s.Ze (PB s.Zu.1),k _ _ s.ZD (PB s.Zu.2.1),s.Zk.WG n,s.Zu⟩
theorem cO.WG{f:ab}{g h i j k m:Nat}{n o:List (Int×aa)}{p:List aa}{q:List cf}(s:cO b T a l G Z g h i j k m E C c n o d w p q)(e:ah T f):cO b f a l G Z g h i j k m E C c n o d w p q:=⟨s.Y3.WG e,s.j?.WF (ao.WG e),s.Y6.WG (ao.WG e),ao.WG e _ _ s.ZP,s.Y8.WG e,e _ _ s.Ze,e _ _ s.ZD,s.Zk.WG (ao.WG e),s.Zu⟩
theorem cO.WR{e f g h i j:Nat}{m n:List (Int×aa)}{o:List aa}{p:List cf}(s:cO b T a l G Z e f g h i j E C c m n d w o p)(q:l<=k):cO b T a k G Z e f g h i j E C c m n d w o p:=⟨s.Y3.WR q,s.j?,s.Y6,s.ZP,s.Y8,s.Ze,s.ZD,s.Zk,s.Zu⟩
theorem cO.XK{f g h i j e:Nat}{n p:List (Int×aa)}{k:List aa}{q:List cf}(s:cO b T a l G Z f g h i j e E C c n p d w k q){r:cf}(t:lj (ao [a,j,f,g,h,i,e] T) o r):cO b (am T e (.WE (k++[o]))) a l G Z f g h i j e E C c n p d w (k++[o]) (q++[r]):=by have m:ao [a,j,f,g,h,i,e] (am T e (.WE (k++[o])))=ao [a,j,f,g,h,i,e] T:=ao.WS _ (by simp);refine d7 s.Y3 λu v x y z=>⟨⟨u,v,x,((aH _ _ s.Zu.2.1).trans y),z⟩,by erw[m];exact s.j?,by erw[m];exact s.Y6,by erw[m];exact s.ZP,s.Y8.WS (s.Y8.W8 s.ZD) _,((aH _ _ s.Zu.2.2).trans s.Ze),ak _ _ _,by erw[m];exact s.Zk.W_ ⟨t,trivial⟩,s.Zu⟩
theorem cO.Xc{g h i j k m:Nat}{o p:List (Int×aa)}{q:List aa}{r:List cf}(s:cO b T a l G Z g h i j k m E C c o p d w q r){n:Nat}(f:T n=U):n∉[a,k,g,h,i,j,m]:=by
 have e:=s.Y8.XV f;simp only[PM,P0,or_false,not_or]at e⊢;refine⟨?_,?_,e.1,e.2.1,e.2.2.1,e.2.2.2,?_⟩;·exactλt=>s.Y3.WI (t▸f)
 .exact hC f s.Ze
 .exact hC f s.ZD
noncomputable def jP:Nat->aI->gS|0,.c s _=>s|k+1,.c _ a=>jP k a|_,.e=>.D
noncomputable def kZ:gS->aI|.R _ _ a=>a|_=>.e
theorem cO.Yh{f g h i e j:Nat}{n o:List (Int×aa)}{p:List aa}{q:List cf}(s:cO b T a l G Z f g h i e j E C c n o d w p q)(m:List aa):cO b (am T e (.WE m)) a l G Z f g h i e j E C c n o d m p q:=by have k:ao [a,e,f,g,h,i,j] (am T e (.WE m))=ao [a,e,f,g,h,i,j] T:=ao.WS _ (by simp);exact d7 s.Y3 λr t u v x=>⟨⟨r,t,u,((aH _ _ s.Zu.1).trans v),x⟩,by erw[k];exact s.j?,by erw[k];exact s.Y6,by erw[k];exact s.ZP,s.Y8.WS (s.Y8.W8 s.Ze) _,ak _ _ _,((aH _ _ (PB s.Zu.2.2)).trans s.ZD),by erw[k];exact s.Zk,s.Zu⟩
theorem cO.Ym{o:ab}{f g h i j m:Nat}{r x t:List (Int×aa)}{u:List aa}{v:List cf}(s:cO b T a l G Z f g h i j m E C c r x d w u v)(y:cb o f g h i c d r t)(k:bC (·∈[f,g,h,i]) T o):cO b o a l G Z f g h i j m E C c r t d w u v/\ah (ao [a,j,f,g,h,i,m] T) (ao [a,j,f,g,h,i,m] o):=by
 have p:ah (ao [a,j,f,g,h,i,m] T) (ao [a,j,f,g,h,i,m] o):=λz I q=>by
  have n:z∉[a,j,f,g,h,i,m]:=λe=>by rw[ao.WK e]at q;injection q
  rw[ao.W0 n]at q⊢;refine k _ _ q λe=>n ?_;simp only[PM,P0,or_false]at e⊢;rcases e with e|e|e|e;·exact .inr (.inr (.inl e))
  .exact .inr (.inr (.inr (.inl e)))
  .exact .inr (.inr (.inr (.inr (.inl e))))
  .exact .inr (.inr (.inr (.inr (.inr (.inl e)))))
 obtain⟨xs,n⟩:=q4 s.Y3;have A:=s.Y8.W8 n;exact d7 s.Y3 λB D F n H=>⟨⟨⟨B,D,F,k _ _ n A,H⟩,s.j?.WF p,s.Y6.WG p,p _ _ s.ZP,y,k _ _ s.Ze (s.Y8.W8 s.Ze),k _ _ s.ZD (s.Y8.W8 s.ZD),s.Zk.WG p,s.Zu⟩,p⟩
theorem AZ{g h:Int}(k:b a=O (.WE [.a d]))(j:∀c i,ah b i->b c=U->i c=O (.WE (if g=h then[.a d]else[]))->Q (.b c) i):dK .YO (.b a) (.a (if Ps (g=h)=L then 1 else 0)) b Q:=by
 rewrite[qi k];by_cases e:g=h;·refine⟨by simp[e],λc f=>j c _ (ah.WH _ f) f ?_⟩;erw[ak,if_pos e];simp[e]
 .refine⟨by simp[e],λc f=>j c _ (ah.WH _ f) f ?_⟩;erw[ak,if_neg e];simp[e]
noncomputable def od(a:ab)(b:List aa):Option (List Int×List Int)->Prop|none=>b=[]|some (e,f)=>∃c d,b=[.h [.b c,.b d]]/\a c=O (.WE (e.map .a))/\a d=O (.WE (f.map .a))
theorem od.WG(a:od b w v)(c:ah b T):od T w v:=by
 rcases v with _|i;·exact a
 .exact cn a λd e f g h=>⟨d,e,f,c _ _ g,c _ _ h⟩
theorem DB{i b:Int}(c:a<=k+20*i.toNat+5)(e:k<=230)(f:i<d)(g:d<=3)(h:b<=6):(a:Int)+b<=100000:=by omega
theorem JB(w:h=a2 an (a+12))(bI:bY b l 0)(cZ:∀dC,bC (·=l) b dC->Q (.g L) dC):h 80 [.b l,.g A] b Q:=by
 refine a' w (i:=[O (.b l),O (.g A),U,U,U,U,U,U,U,U,U,U,U,U,U,U,U,U,U,U,U,U,U,U,U,U,U,U,U,U,U,U,U,U,U,U,U,U,U,U]) rfl rfl λh w=>ba 2 (λF=>∀n p K E o,bY o l 200->ah (ao [l] b) (ao [l] o)->cV (ao [l] o) n K->d6 K->ao [l] o p=O (.WE (E.map g3))->rp E->E.length<=8->F [O (.b l),O (.g A),O (.b n),O (.b p),U,U,U,U,U,U,U,U,U,U,U,U,U,U,U,U,U,U,U,U,U,U,U,U,U,U,U,U,U,U,U,U,U,U,U,U] o) ?_ λar H=>?_
 .rintro n p K E o bZ es et c0 eu b0 cI;refine ba 1 (λF=>∀d f g j c t,bY t l 200->ah (ao [l] b) (ao [l,c,d,f,g,j] t)->cV (ao [l,c,d,f,g,j] t) n K->ao [l,c,d,f,g,j] t p=O (.WE (E.map g3))->cb t d f g j [] 1 [] []->t c=O (.WE [])->l≠c->F [O (.b l),O (.g A),O (.b n),O (.b p),O (.b d),O (.b c),U,U,U,U,U,U,U,U,U,U,U,U,U,U,U,U,U,U,U,U,U,U,U,U,U,U,U,U,U,U,U,U,U,U] t) ?_ λar H=>?_
  .rintro d f g j c t ci ev ew cK c1 ex dE;refine ba 1 (λF=>∀(C:List (Int×aa))(D:Int)(G:List (Int×aa))(x:Option aa)(v:Option aa) q,bY q l 200->ah (ao [l] b) (ao [l,c,d,f,g,j] q)->cV (ao [l,c,d,f,g,j] q) n K->ao [l,c,d,f,g,j] q p=O (.WE (E.map g3))->cb q d f g j C D G []->q c=O (.WE [])->eF C D->fq C G E->D<=1000->F [O (.b l),O (.g A),O (.b n),O (.b p),O (.b d),O (.b c),x,v,U,U,U,U,U,U,U,U,U,U,U,U,U,U,U,U,U,U,U,U,U,U,U,U,U,U,U,U,U,U,U,U] q) ?_ λar H=>?_
   .rintro C D G x v q bn ez eA eB bz b1 ck b2 bJ;refine ba 2 (λF=>∀(Y:Int)(Z:Int)(as:Bool) m,(1<=Y/\Y<=3)->(1<=Z/\Z<=3)->bY m l 210->bC (·=l) q m->F [O (.b l),O (.g A),O (.b n),O (.b p),O (.b d),O (.b c),x,v,O (.a Y),O (.a Z),O (.g as),U,U,U,U,U,U,U,U,U,U,U,U,U,U,U,U,U,U,U,U,U,U,U,U,U,U,U,U,U] m) ?_ λar H=>?_
    .rintro Y Z as m eC eD b3 bK;refine ba 2 (λF=>∀(e:Nat)(N:List aa)(z:List cf)(x v ay aA ae P R:Option aa) o,cO b o l 300 n p d f g j c e K E C G [] D [] N z->(∀y∈z,hX y)->1<=z.length->z.length<=3->F [O (.b l),O (.g A),O (.b n),O (.b p),O (.b d),O (.b c),x,v,O (.a Y),O (.a Z),O (.g as),O (.b e),ay,aA,ae,P,R,U,U,U,U,U,U,U,U,U,U,U,U,U,U,U,U,U,U,U,U,U,U,U] o) ?_ λar H=>?_
     .refineλe N z x v ay aA ae P R M af b4 c2 eE=>ba 1 (λF=>∀(b5:List (Int×aa))(bM:List aa)(bO:Option (List Int×List Int))(x:Option aa)(v:Option aa)(ay:Option aa)(aA:Option aa)(ae:Option aa)(P:Option aa)(R:Option aa) o,cO b o l 310 n p d f g j c e K E C G b5 D bM N z->rs b5 bO->od (ao [l,c,d,f,g,j,e] o) bM bO->F [O (.b l),O (.g A),O (.b n),O (.b p),O (.b d),O (.b c),x,v,O (.a Y),O (.a Z),O (.g as),O (.b e),ay,aA,ae,P,R,U,U,U,U,U,U,U,U,U,U,U,U,U,U,U,U,U,U,U,U,U,U,U] o) ?_ λar H=>?_
      .rintro b5 bM bO x v ay aA ae P R V ac eG eH;refine ba 1 (λF=>∀(aB:Nat)(a8:List Int) o,cO b o l 320 n p d f g j c e K E C G b5 D bM N z->od (ao [l,c,d,f,g,j,e] o) bM bO->o aB=O (.WE (a8.map .a))->(a8.length<=1/\∀I∈a8,0<=I/\I<=8)->F [O (.b l),O (.g A),O (.b n),O (.b p),O (.b d),O (.b c),x,v,O (.a Y),O (.a Z),O (.g as),O (.b e),ay,aA,ae,P,R,O (.b aB),U,U,U,U,U,U,U,U,U,U,U,U,U,U,U,U,U,U,U,U,U,U] o) ?_ λar H=>?_
       .rintro aB a8 au S dF bP eI;have b6:=ao.WV [l,c,d,f,g,j,e] au;have eK:mw au c bO:=by
         rcases bO with _|bp;·have bq:bM=[]:=dF;have:=S.Ze;rw[bq]at this;exact this
         .refine cn dF λbA bb bq c3 c4=>?_;have:=S.Ze;rw[bq]at this;exact fe bA bb this (b6 _ _ c3) (b6 _ _ c4)
        have eL:mv au n p d f g j c e aB K E C G b5 D Y Z bO N z a8:=⟨S.Y6.WG b6,c0,b6 _ _ S.ZP,b0,by exact a7 m7 dP rfl cI,S.Y8,ck,b2,bJ,eG,eK,eC,eD,S.ZD,S.Zk.WG b6,b4,⟨c2,eE⟩,bP,eI⟩;exact JF w (a:=a) eL λcl eM=>cZ cl λb7 dG bq aw=>eM _ _ (b6 _ _ (S.j? b7 dG (by erw[ao.W0 (by simpa using aw)];exact bq)))
       .have c5:∀(aB:Nat)(a8:List Int)(au:ab)(aI:Nat),aI<=320->cO b au l aI n p d f g j c e K E C G b5 D bM N z->ah (ao [l,c,d,f,g,j,e] V) (ao [l,c,d,f,g,j,e] au)->au aB=O (.WE (a8.map .a))->a8.length<=1->(∀I∈a8,0<=I/\I<=8)->bo (an.WY h) ar [O (.b l),O (.g A),O (.b n),O (.b p),O (.b d),O (.b c),x,v,O (.a Y),O (.a Z),O (.g as),O (.b e),ay,aA,ae,P,R,O (.b aB),U,U,U,U,U,U,U,U,U,U,U,U,U,U,U,U,U,U,U,U,U,U] au (g7 Q):=λaB a8 au aI c6 S eN c3 c4 c8=>H aB a8 _ (S.WR c6) (eH.WG eN) c3 ⟨c4,c8⟩;simp?[aD,aC,aF,aE,aO,aN,d1];rcases A with _|_
        .simp?[];refine dy w (a:=a+10) ac.Y3 (by exact aR (ai lE cQ) rfl) (by exact aR lI rfl) λaK au aL T eP dH=>?_;simp?[];refine bU ?_;have S:=ac.W3 dH eP;have cm:ah (ao [l,c,d,f,g,j,e] V) (ao [l,c,d,f,g,j,e] au):=dH.Xf (by simp);refine⟨λr=>?_,λr=>⟨by exact Pp rfl,λaB bP=>?_⟩⟩;·refine dy w (a:=a+10) S.Y3 (by exact aR (ai sP cQ) rfl) (by exact aR xn rfl) λaM cl cL br c9 co=>?_;simp?[];have cN:=S.W3 co c9;refine⟨by exact Pp rfl,λaB bP=>?_⟩;have aS:=ah.WH (.WE [.a aM]) bP;exact c5 aB [aM] _ _ (by exact aR (ai (.i sP aG) sq) rfl) (cN.WG aS) ((cm.WF (co.Xf (by simp))).WF (ao.WG aS)) (ak _ _ _) (by exact Pp rfl) (λI aV=>by rw[P_]at aV;exact Ar.dc [] [_,_] (aT ag ap) iD (a3 ap iF) xr rfl aV cL br)
         .have aS:=ah.WH (.WE []) bP;exact c5 aB [] _ _ (by exact aR (ai sP sq) rfl) (S.WG aS) (cm.WF (ao.WG aS)) (ak _ _ _) (by exact Pp rfl) fU
        .simp?[];refine⟨by exact Pp rfl,λaB bP=>?_⟩;have aS:=ah.WH (.WE []) bP;exact c5 aB [] _ _ (by exact aR (ai lE sq) rfl) (ac.WG aS) (ao.WG aS) (ak _ _ _) (by exact Pp rfl) fU
      .simp?[aD,aC,aF,aE,aO,aN,d1];rcases A with _|_
       .simp?[];refine dy w (a:=a+10) af.Y3 (by exact aR (ai pa cQ) rfl) (by exact aR lI rfl) λaK V aL T cq cr=>?_;simp?[];refine bU ?_;have ac:=af.W3 cr cq;refine⟨λr=>?_,λr=>H [] [] U x v ay aA ae P R _ (ac.WR (by exact aR (ai sQ lE) rfl)) rfl rfl⟩;obtain⟨y,bs⟩:∃y,z.getLast?=O y:=by
         rcases dI:z.getLast? with _|y;·rw[So]at dI;rw[dI]at c2;simp at c2
         .exact⟨y,rfl⟩
        have dJ:hX y:=b4 y (To bs);have c_:N.length=z.length:=ac.Zk.WJ;rw[Sp]at bs;obtain⟨aW,dM,fX,aZ,aj,a0,rfl,fY,fZ,dN,cP⟩:=ac.Zk.Xa _ bs;rw[<-c_,<-Sp]at dM;rewrite[ec ac.ZD];erw[t4,dM];have dO:=ao.WV [l,c,d,f,g,j,e] V;have bA:=dJ.ZB.WJ;simp? only[show∀cs aW I ad:aa,bQ [cs,aW,I,ad] 2=O I fromλr r r r=>rfl,↓cE (dO _ _ dN),Pt];refine⟨by unfold aJ;exact a7 dD dm rfl bA.2,?_⟩;refine hN (k:=.x aj _) (λr=>L) bF (dO _ _ dN) (λi eQ bt B=>B) (λi eQ r bt B=>uy w (a:=a+10) B) ?_;simp?[];erw[RM.mpr (λr r=>rfl)];intro bc dQ;have aS:=ah.WH (.WE ((y.I.map bF).map .a)) dQ;have S:=ac.WG aS;have c':=ac.Xc dQ;have eR:bc≠l:=λu=>c' (by erw[u];simp);have da:=ak V bc (.WE ((y.I.map bF).map .a));have eS:ah (ao [l,c,d,f,g,j,e] V) (ao [l,c,d,f,g,j,e] (am V bc (.WE ((y.I.map bF).map .a)))):=ao.WG aS;generalize am V bc (.WE ((y.I.map bF).map .a))=au at aS S da eS;simp? only[(dp S.Ze).1,↓ce da,Pt];refine dy w (a:=a+10) S.Y3 (by exact aR (ai sQ cQ) rfl) (by exact Ar.cT [_] [] (ai cD ag) dD (.i (aq aG bm) (aq bm c7)) rfl bA.1 bA.2) λaM cl cL br c9 co=>?_;simp?[];have cN:=S.W3 co c9;have dR:=co _ _ da eR;simp? only[↓ce dR,Pt];refine⟨⟨by exact aR sY rfl,by exact aR (a3 cD na) rfl⟩,by exact Pp rfl,λbb dT=>⟨by exact Pp rfl,?_⟩⟩;have db:=ah.WH (.WE [.a aM,.a ((y.I.length:Int)/2)]) dT;have dd:=cN.WG db;have dU:=cN.Xc dT;have dV:=db _ _ dR;have dW:=ak cl bb (.WE [.a aM,.a ((y.I.length:Int)/2)]);generalize am cl bb (.WE [.a aM,.a ((y.I.length:Int)/2)])=de at db dd dV dW;rewrite[hU dd.Ze];simp?[];refine⟨by simp[aJ],?_⟩;have ct:=dd.Yh ([]++[.h [.b bc,.b bb]]);have cR:bc≠c:=λu=>c' (by erw[u];simp);have eT:bb≠c:=λu=>dU (by erw[u];simp);have df:am de c (.WE ([]++[.h [.b bc,.b bb]])) bc=O (.WE ((y.I.map bF).map .a)):=by exact((aH _ _ cR).trans dV)
        have dh:am de c (.WE ([]++[.h [.b bc,.b bb]])) bb=O (.WE ([aM,(y.I.length:Int)/2].map .a)):=by exact((aH _ _ eT).trans dW)
        generalize am de c (.WE ([]++[.h [.b bc,.b bb]]))=f0 at ct df dh;obtain⟨⟨eU,di⟩,_⟩:=id ct.Y8;simp? only[(eJ (p:=an.WY h) di (Z:=67) (f:=66) rfl),↓ec ct.Ze,Rs,eO,fE];have dX:∀cu∈y.I.map bF,1<=cu/\cu<=255:=λcu bR=>by refine az (P'.mp bR) λeV eW eX=>?_;obtain rfl:=eX;exact(pH (dJ.ZB.m? eV eW)).2.2
        refine N4 w (a:=a+8) ct.Y8 df dh (λu=>?_) dX (by erw[Pt];exact bA.2) (λad bd=>?_) (by exact Pp rfl) λf1 eY eZ=>?_;·have:=congrArg QI u;simp at this;rw[this]at bA;simp at bA
        .simp only[PM,P0,or_false]at bd;erw[Pt];rcases bd with rfl|rfl;·exact⟨cL,Sv br⟩
         .exact⟨UI (Ss _) (by decide),V8 _ (Ss _)⟩
        .obtain⟨e0,dY⟩:=ct.Ym eY eZ;refine H _ _ (O (y.I.map bF,[aM,(y.I.length:Int)/2])) _ v ay aA ae P R _ (e0.WR (by exact aR (ai (.i sQ aG) lE) rfl)) ⟨rfl,dX⟩ ⟨bc,bb,rfl,?_,?_⟩;·exact dY _ _ (by erw[ao.W0 c'];exact df)
         .exact dY _ _ (by erw[ao.W0 dU];exact dh)
       .simp?[];exact H [] [] U x v ay aA ae P R _ (af.WR (by exact aR (ai pa lE) rfl)) rfl rfl
     .have dZ:∀(e:Nat)(ax:Int)(o:ab)(k:Nat),k<=230->1<=ax->ax<=3->cO b o l k n p d f g j c e K E C G [] D [] [] []->b_ (dg (an.WY h) (kZ (jP 7 d1))) (.z 12) .YM (dq 0 ax) [O (.b l),O (.g A),O (.b n),O (.b p),O (.b d),O (.b c),x,v,O (.a Y),O (.a Z),O (.g as),O (.b e),U,U,U,U,U,U,U,U,U,U,U,U,U,U,U,U,U,U,U,U,U,U,U,U,U,U,U,U] o (lb (bo (an.WY h) ar) (g7 Q)):=by
       refineλe ax o k bu b9 W s=>i8 (λi F=>∀(N:List aa)(z:List cf)(ay:Option aa)(aA:Option aa)(ae:Option aa)(P:Option aa)(R:Option aa) o,cO b o l (k+20*i.toNat) n p d f g j c e K E C G [] D [] N z->(∀y∈z,hX y)->(z.length:Int)=i->F [O (.b l),O (.g A),O (.b n),O (.b p),O (.b d),O (.b c),x,v,O (.a Y),O (.a Z),O (.g as),O (.b e),ay,aA,ae,P,R,U,U,U,U,U,U,U,U,U,U,U,U,U,U,U,U,U,U,U,U,U,U,U] o) (λr=>True) (λr=>True) ?_ ?_ trivial trivial [] [] U U U U U _ s fU rfl
       .intro i cw d0 be dj _ _ _;rintro N z ay aA ae P R o s b4 cx;refine⟨trivial,aY rfl (ba 1 (λF=>∀(bf:Nat)(bB:List Int) o,cO b o l (k+20*i.toNat+4) n p d f g j c e K E C G [] D [] N z->ao [l,c,d,f,g,j,e] o bf=O (.WE (bB.map .a))->bB≠[]->bB.length<=3->(∀I∈bB,0<=I/\I<=8)->F [O (.b l),O (.g A),O (.b n),O (.b p),O (.b d),O (.b c),x,v,O (.a Y),O (.a Z),O (.g as),O (.b e),O (.a i),O (.b bf),ae,P,R,U,U,U,U,U,U,U,U,U,U,U,U,U,U,U,U,U,U,U,U,U,U,U] o) ?_ λar H=>?_)⟩
        .rintro bf bB o s aV d2 d3 d4;refine ba 1 (λF=>∀(aj:Nat)(bp:List Int) t,cO b t l (k+20*i.toNat+11) n p d f g j c e K E C G [] D [] N z->ah (ao [l,c,d,f,g,j,e] o) (ao [l,c,d,f,g,j,e] t)->ao [l,c,d,f,g,j,e] t aj=O (.WE (bp.map .a))->1<=bp.length->bp.length<=6->(∀I∈bp,97<=I/\I<=100)->F [O (.b l),O (.g A),O (.b n),O (.b p),O (.b d),O (.b c),x,v,O (.a Y),O (.a Z),O (.g as),O (.b e),O (.a i),O (.b bf),O (.b aj),P,R,U,U,U,U,U,U,U,U,U,U,U,U,U,U,U,U,U,U,U,U,U,U,U] t) ?_ λar H=>?_
         .rintro aj bp t d5 e1 dk e2 d8 e3;refine ba 1 (λF=>∀(aj:Nat)(al:Int) q,cO b q l (k+20*i.toNat+12) n p d f g j c e K E C G [] D [] N z->ah (ao [l,c,d,f,g,j,e] t) (ao [l,c,d,f,g,j,e] q)->ao [l,c,d,f,g,j,e] q aj=O (.WE ((al::bp).map .a))->(al=65\/(97<=al/\al<=100))->F [O (.b l),O (.g A),O (.b n),O (.b p),O (.b d),O (.b c),x,v,O (.a Y),O (.a Z),O (.g as),O (.b e),O (.a i),O (.b bf),O (.b aj),P,R,U,U,U,U,U,U,U,U,U,U,U,U,U,U,U,U,U,U,U,U,U,U,U] q) ?_ λar H=>?_
          .rintro aj al q d_ e4 dk e5;refine ba 1 (λF=>∀(aZ:Nat)(a0:Nat)(b':List Int)(ca:List Int) m,cO b m l (k+20*i.toNat+14) n p d f g j c e K E C G [] D [] N z->ah (ao [l,c,d,f,g,j,e] q) (ao [l,c,d,f,g,j,e] m)->ao [l,c,d,f,g,j,e] m aZ=O (.WE (b'.map .a))->ao [l,c,d,f,g,j,e] m a0=O (.WE (ca.map .a))->b'=[]\/b'=[40]->ca=[]\/ca=[46]->F [O (.b l),O (.g A),O (.b n),O (.b p),O (.b d),O (.b c),x,v,O (.a Y),O (.a Z),O (.g as),O (.b e),O (.a i),O (.b bf),O (.b aj),O (.b aZ),O (.b a0),U,U,U,U,U,U,U,U,U,U,U,U,U,U,U,U,U,U,U,U,U,U,U] m) ?_ λar H=>?_
           .rintro aZ a0 b' ca m X d' e7 aw e8 e9;simp?[aO,aN,kZ,jP,d1];refine aY ((dp X.ZD).1) ?_;simp?[aO,aN,kZ,jP,d1];refine dy w (a:=a+10) X.Y3 (by exact en eo hp kw (ai (.i ls (.H 14)) cQ) rfl W be bu) (by exact aR iO rfl) λaK M aL T bS bD=>?_;simp?[];refine bU ?_;have af:=X.W3 bD bS;have ea:ah (ao [l,c,d,f,g,j,e] m) (ao [l,c,d,f,g,j,e] M):=bD.Xf (by simp);have c_:N.length=z.length:=X.Zk.WJ;have eb:∀(bT:Nat)(bV:List Int)(V:ab),ah M V->ao [l,c,d,f,g,j,e] V bT=O (.WE (bV.map .a))->bV≠[]->bV.length<=3->(∀I∈bV,0<=I/\I<=8)->[aa.b bT,.b aZ,.b aj,.b a0].length<=100/\dA (an.WY h) (.W9 e) [.h [.b bT,.b aZ,.b aj,.b a0]] V λr au=>cw .WL [O (.b l),O (.g A),O (.b n),O (.b p),O (.b d),O (.b c),x,v,O (.a Y),O (.a Z),O (.g as),O (.b e),O (.a i),O (.b bf),O (.b aj),O (.b aZ),O (.b a0),U,U,U,U,U,U,U,U,U,U,U,U,U,U,U,U,U,U,U,U,U,U,U] au:=by
             intro bT bV V ed br cc cd cz;have ac:=af.WG ed;have dl:ah (ao [l,c,d,f,g,j,e] m) (ao [l,c,d,f,g,j,e] V):=ea.WF (ao.WG ed);refine⟨by exact Pp rfl,?_⟩;rewrite[hU ac.ZD];simp?[];refine⟨by erw[c_];unfold aJ;exact en eo hp ko dm rfl W be cx,?_⟩;have e_:lj (ao [l,c,d,f,g,j,e] V) (.h [.b bT,.b aZ,.b aj,.b a0]) ⟨bV,b',al::bp,ca⟩:=⟨bT,aZ,aj,a0,rfl,br,dl _ _ e7,dl _ _ (d' _ _ dk),dl _ _ aw⟩;refine dj (N++[.h [.b bT,.b aZ,.b aj,.b a0]]) (z++[⟨bV,b',al::bp,ca⟩]) _ _ _ _ _ _ ((ac.XK e_).WR (by exact fK bl (ai (.i ww aG) (.i ag (.G 20 (.YR bk)))) rfl d0)) (λy bs=>?_) (by simp;exact cx);rcases Qh.mp bs with bs|bs;·exact b4 y bs
             .rw[P_]at bs;subst bs;refine⟨⟨cc,cd,cz⟩,⟨e8,e9,λcu bR=>?_,by simp;exact Ar.cT [_] [] fQ ps (.i fQ ps) rfl e2 d8⟩⟩;rcases PM.mp bR with rfl|bR;·exact e5
              .exact .inr (e3 cu bR)
            have ee:ao [l,c,d,f,g,j,e] M bf=O (.WE (bB.map .a)):=ea _ _ (d' _ _ (e4 _ _ (e1 _ _ aV)));refine⟨λr=>?_,λr=>eb bf bB M (ah.WZ _) ee d2 d3 d4⟩;rewrite[zq (ao.WV _ _ _ _ ee)];refineλB a1=>eb B bB.reverse _ (ah.WH _ a1) ?_ (by simpa using d2) (by simpa using d3) (λI aV=>d4 I (Tn.mp aV));erw[ao.W0 (af.Xc a1),ak,R0];rfl
           .simp?[aD,aC,aF,aE,aO,aN,kZ,jP,d1];refine⟨by exact Pp rfl,λad bd=>?_⟩;have bv:=ah.WH (.WE [.a 40]) bd;have a4:=d_.WG bv;have cB:=d_.Xc bd;have dn:ad≠l:=λu=>cB (by erw[u];simp);refine dy w (a:=a+10) a4.Y3 (by exact en eo hp kw (ai wv cQ) rfl W be bu) (by exact aR xp rfl) λT m cL br bW aQ=>?_;simp?[];have X:=a4.W3 aQ bW;refine AZ (aQ _ _ (ak _ _ _) dn) λaZ M cS e' fa=>?_;have af:=X.WG cS;have fb:=X.Xc e';refine⟨by exact Pp rfl,λB a1=>?_⟩;have a5:=ah.WH (.WE [.a 46]) a1;have ef:=af.WG a5;have fc:=af.Xc a1;have fd:B≠l:=λu=>fc (by erw[u];simp);refine dy w (a:=a+10) ef.Y3 (by exact en eo hp kw (ai (.i wv aG) cQ) rfl W be bu) (by exact aR iO rfl) λaM V cc cd ff dr=>?_;simp?[];have ac:=ef.W3 dr ff;refine AZ (dr _ _ (ak _ _ _) fd) λa0 au cm fg fh=>?_;have S:=ac.WG cm;have fj:=ac.Xc fg;have fk:ah (ao [l,c,d,f,g,j,e] q) (ao [l,c,d,f,g,j,e] M):=((ao.WG bv).WF (aQ.Xf (by simp))).WF (ao.WG cS);have eg:ah (ao [l,c,d,f,g,j,e] M) (ao [l,c,d,f,g,j,e] au):=((ao.WG a5).WF (dr.Xf (by simp))).WF (ao.WG cm);simp? !only[];refine H aZ a0 (if T=1 then[40]else[]) (if aM=1 then[46]else[]) _ (S.WR (by exact gY (ai (.i (.i rO aG) aG) ww) rfl)) (fk.WF eg) (eg _ _ ?_) ?_ ?_ ?_;·erw[ao.W0 fb,fa];split<;>rfl
            .erw[ao.W0 fj,fh];split<;>rfl
            .split;·exact .inr rfl
             .exact .inl rfl
            .split;·exact .inr rfl
             .exact .inl rfl
          .simp?[aD,aC,aF,aE,aO,aN,kZ,jP,d1];refine⟨by exact Pp rfl,λad bd=>?_⟩;have bv:=ah.WH (.WE [.a 97,.a 65,.a 97,.a 98]) bd;have a4:=d5.WG bv;have cB:=d5.Xc bd;have dn:ad≠l:=λu=>cB (by erw[u];simp);have cg:=ak t ad (.WE [.a 97,.a 65,.a 97,.a 98]);have ds:ah (ao [l,c,d,f,g,j,e] t) (ao [l,c,d,f,g,j,e] (am t ad (.WE [.a 97,.a 65,.a 97,.a 98]))):=ao.WG bv;generalize am t ad (.WE [.a 97,.a 65,.a 97,.a 98])=q at bv a4 cg ds;have bi:∀(al:Int)(m:ab)(aI:Nat),(al=65\/(97<=al/\al<=100))->aI<=k+20*i.toNat+12->cO b m l aI n p d f g j c e K E C G [] D [] N z->ah (ao [l,c,d,f,g,j,e] t) (ao [l,c,d,f,g,j,e] m)->[aa.a al].length<=100/\∀B:Nat,m B=U->dK .WM (.b B) (.b aj) (am m B (.WE [.a al])) λaW M=>bo (an.WY h) ar [O (.b l),O (.g A),O (.b n),O (.b p),O (.b d),O (.b c),x,v,O (.a Y),O (.a Z),O (.g as),O (.b e),O (.a i),O (.b bf),O aW,P,R,U,U,U,U,U,U,U,U,U,U,U,U,U,U,U,U,U,U,U,U,U,U,U] M cw:=by refineλal m aI bR bX X bj=>⟨by exact Pp rfl,λB a1=>?_⟩;have a5:=ah.WH (.WE [.a al]) a1;have dt:=bj _ _ dk;rewrite[dL (ak _ _ _) (a5 _ _ (ao.WV _ _ _ _ dt))];simp?[];refine⟨by simp only[Pt,PL,P6];unfold aJ;exact a7 ps wV rfl d8,λu bw=>?_⟩;have cU:=ah.WH (.WE ([.a al]++bp.map .a)) bw;have af:=X.WG a5;refine H u al _ ((af.WG cU).WR (by exact bX)) (bj.WF (ao.WG (a5.WF cU))) ?_ bR;erw[ao.W0 (af.Xc bw),ak];rfl
           refine e6 _ _ _ ⟨λr=>?_,λr=>?_⟩;·rewrite[ec cg];erw[eO];exact bi 97 q _ (by exact aR r3 rfl) (by exact gY (ai (.i h5 jz) rO) rfl) a4 ds
           .refine dy w (a:=a+10) a4.Y3 (by exact en eo hp kw (ai (.i ls jz) cQ) rfl W be bu) (by exact aR mY rfl) λaK m aL T bW aQ=>?_;simp?[];have X:=a4.W3 aQ bW;have bj:ah (ao [l,c,d,f,g,j,e] t) (ao [l,c,d,f,g,j,e] m):=ds.WF (aQ.Xf (by simp));rewrite[ec (aQ _ _ cg dn)];have dt:aK=0\/aK=1\/aK=2\/aK=3:=by exact bx (a3 ag cj) bl (.B ey wL) rfl T aL
            rcases dt with u|u|u|u<;>erw[u];·erw[eO];exact bi 97 m _ (by exact aR r3 rfl) (by exact gY oA rfl) X bj
            .erw[fE];exact bi 65 m _ (by exact aR (.B (aT iH iH) (.i (aq hi iH) (aq iH c7))) rfl) (by exact gY oA rfl) X bj
            .erw[g6];exact bi 97 m _ (by exact aR r3 rfl) (by exact gY oA rfl) X bj
            .erw[LI];exact bi 98 m _ (by exact aR (.B (aT mE iH) (.i (aq hi mE) (aq mE c7))) rfl) (by exact gY oA rfl) X bj
         .simp?[aD,aC,aF,aE,aO,aN,kZ,jP,d1];have bi:∀(ax:Int)(m:ab)(aI:Nat),1<=ax->ax<=6->aI<=k+20*i.toNat+5->cO b m l aI n p d f g j c e K E C G [] D [] N z->ah (ao [l,c,d,f,g,j,e] o) (ao [l,c,d,f,g,j,e] m)->(dq 0 ax).length<=aJ/\dS (λr b Q=>Q (.g L) b) (λaW b Q=>h 71 [.b l,.a 4] b λcs t=>dK .WM (.a 97) cs t Q) .YM (dq 0 ax) m λus M=>∀B:Nat,M B=U->bo (an.WY h) ar [O (.b l),O (.g A),O (.b n),O (.b p),O (.b d),O (.b c),x,v,O (.a Y),O (.a Z),O (.g as),O (.b e),O (.a i),O (.b bf),O (.b B),P,R,U,U,U,U,U,U,U,U,U,U,U,U,U,U,U,U,U,U,U,U,U,U,U] (am M B (.WE us)) cw:=by refineλax m aI b9 W bX X bj=>⟨by erw[i0];unfold aJ;exact bg s5 wS rfl W,?_⟩;refine pF w (a:=a+10) (d:=97) X.Y3 (DB bX bu be (by assumption) W) (by exact aR mY rfl) (by exact bg bL bl rfl b9) (λbt cs t=>dK .WM (.a 97) cs t bt) (λaW b bt ad=>ad) (λbt u b B=>B) λch M du cC cF bw=>?_;intro B a1;have af:=X.W3 cC du;have a5:=ah.WH (.WE (ch.map .a)) a1;refine H B ch _ ((af.WG a5).WR (by exact Ar.cT [_,_] [_,_] s5 (ai ag (.i oE ft)) (ai sd (.i oE jz)) rfl W bX)) ((bj.WF (cC.Xf (by simp))).WF (ao.WG a5)) ?_ (by exact fr bL mW fQ rfl b9 cF) (by exact fr s5 mW ps rfl W cF) (λI aV=>by have:=bw I aV;exact bx h4 xe sG rfl this.1 this.2);erw[ao.W0 (af.Xc a1),ak];rfl
          refine e6 _ _ _ ⟨λr=>⟨by decide,bi 2 o _ (by exact aR (aq aG cD) rfl) (by exact aR (aq cD hm) rfl) (by exact gY (ai (.i h5 cj) (.i h5 ft)) rfl) s (ah.WZ _)⟩,λr=>dy w (a:=a+10) s.Y3 (by exact en eo hp kw (ai (.i ls cj) cQ) rfl W be bu) (by exact aR xo rfl) λaK m aL T bW aQ=>?_⟩;simp?[];exact⟨by exact bx sW bl oP rfl T aL,bi (1+aK) m _ (by exact bg bl pc rfl aL) (by exact bg sW (aq d9 hm) rfl T) (by exact gY (ai (.i (.i h5 cj) aG) (.i h5 ft)) rfl) (s.W3 aQ bW) (aQ.Xf (by simp))⟩
        .simp?[aD,aC,aF,aE,kZ,jP,d1];refine⟨by exact Pp rfl,λad bd=>?_⟩;have bv:=ah.WH (.WE [.a 0]) bd;have a4:=s.WG bv;have cB:=s.Xc bd;have cg:ao [l,c,d,f,g,j,e] (am o ad (.WE [.a 0])) ad=O (.WE [.a 0]):=by erw[ao.W0 cB,ak];rfl
         generalize am o ad (.WE [.a 0])=q at bv a4 cg;have bi:∀(ax:Int)(m:ab)(aI:Nat),0<=ax->ax<=2->aI<=k+20*i.toNat+1->cO b m l aI n p d f g j c e K E C G [] D [] N z->ah (ao [l,c,d,f,g,j,e] q) (ao [l,c,d,f,g,j,e] m)->(dq 0 ax).length<=aJ/\dS (λr b Q=>Q (.g L) b) (λaW b Q=>h 71 [.b l,.a 9] b Q) .YM (dq 0 ax) m λus M=>∀B:Nat,M B=U->dK .WM (.b ad) (.b B) (am M B (.WE us)) λaW V=>bo (an.WY h) ar [O (.b l),O (.g A),O (.b n),O (.b p),O (.b d),O (.b c),x,v,O (.a Y),O (.a Z),O (.g as),O (.b e),O (.a i),O aW,ae,P,R,U,U,U,U,U,U,U,U,U,U,U,U,U,U,U,U,U,U,U,U,U,U,U] V cw:=by
          refineλax m aI b9 W bX X bj=>⟨by erw[i0];unfold aJ;exact bg h3 wS rfl W,?_⟩;refine pF w (a:=a+10) (d:=0) X.Y3 (DB (PO bX (Tk _ 4)) bu be (by assumption) (QU W (by decide))) (by exact aR xn rfl) (by exact b9) (λbt=>bt) (λaW b bt ad=>ad) (λbt u b B=>by rw[Q7]at B;exact B) λch M du cC cF bw=>?_;intro B a1;have af:=X.W3 cC du;have a5:=ah.WH (.WE (ch.map .a)) a1;have cS:ah (ao [l,c,d,f,g,j,e] q) (ao [l,c,d,f,g,j,e] M):=bj.WF (cC.Xf (by simp));rewrite[dL (a5 _ _ (ao.WV _ _ _ _ (cS _ _ cg))) (ak _ _ _)];simp?[];refine⟨by simp only[Pt,PL,P6];unfold aJ;exact fr h3 mW wV rfl W cF,λu eh=>?_⟩;have cU:=ah.WH (.WE ([.a 0]++ch.map .a)) eh;have ac:=af.WG a5;refine H u (0::ch) _ ((ac.WG cU).WR (by exact Ar.cT [_,_] [_,_] h3 (ai ag (.i oE aG)) (ai sd (.i oE cj)) rfl W bX)) ?_ (by simp) (by simp;exact fr h3 mW kx rfl W cF) (λI aV=>?_);·erw[ao.W0 (ac.Xc eh),ak];rfl
          .rcases PM.mp aV with rfl|aV;·exact aR (.i ke (aq aX gu)) rfl
           .have:=bw I aV;exact bx bl (a3 ag (.i aX iF)) xr rfl this.1 this.2
         refine e6 _ _ _ ⟨λr=>⟨by decide,bi 0 q _ (by exact aR ke rfl) (by exact aR (aq aX cD) rfl) (by exact gY (ai h5 rP) rfl) a4 (ah.WZ _)⟩,λr=>dy w (a:=a+10) a4.Y3 (by exact en eo hp kw (ai ls cQ) rfl W be bu) (by exact aR iO rfl) λaK m aL T bW aQ=>?_⟩;simp?[];exact⟨by exact bx fu bl r8 rfl T aL,bi aK m _ (by exact aL) (by exact bg fu h3 rfl T) (by exact gY (ai rP rP) rfl) (a4.W3 aQ bW) (aQ.Xf (by simp))⟩
       .intro i d0 ei be;rintro N z ay aA ae P R o s b4 cx;refine⟨trivial,?_⟩;simp?[];exact H e N z x v ay aA ae P R _ (s.WR (by exact en eo kw mR (ai ls pa) rfl W bu ei)) b4 (by exact en bL cJ ko fQ rfl b9 be cx) (by exact en eo ko mR fi rfl W cx ei)
      simp?[aD,aC,aF,aE,aO,aN,d1];refine⟨by exact Pp rfl,λe cW=>?_⟩;have fl:c≠l:=PB dE;have dv:cO b (am m e (.WE [])) l 210 n p d f g j c e K E C G [] D [] [] []:=by
       have dw:ah (ao [l,c,d,f,g,j] q) (ao [l,c,d,f,g,j] m):=bK.Xf (by simp);have bE:=ah.WH (.WE []) cW;have aP:ah (ao [l,c,d,f,g,j] m) (ao [l,c,d,f,g,j,e] (am m e (.WE []))):=bE.X' λb7 aw=>by
        simp only[PM,P0,or_false]at aw⊢;rcases aw with rfl|rfl|rfl|rfl|rfl|rfl|rfl;·exact .inl (.inl rfl)
        .exact .inl (.inr (.inl rfl))
        .exact .inl (.inr (.inr (.inl rfl)))
        .exact .inl (.inr (.inr (.inr (.inl rfl))))
        .exact .inl (.inr (.inr (.inr (.inr (.inl rfl)))))
        .exact .inl (.inr (.inr (.inr (.inr (.inr rfl)))))
        .exact .inr cW
       have ej:=bK _ _ b1 fl;refine⟨b3.WG bE,(ez.WF dw).WF aP,eA.WG (dw.WF aP),aP _ _ (dw _ _ eB),(bz.X9 bn bK).WG bE,bE _ _ ej,ak _ _ _,trivial,dE,?_,?_⟩;·exactλu=>b3.WI (u▸cW)
       .exact cM ej cW
      refine e6 _ _ _ ⟨λr=>⟨by decide,dZ e 1 _ 210 (by exact aR (ai sM sH) rfl) (by exact aR rE rfl) (by exact aR rD rfl) dv⟩,λr=>dy w (a:=a+10) dv.Y3 (by exact aR (ai sM cQ) rfl) (by exact aR iO rfl) λaK M aL T bS bD=>?_⟩;simp?[];exact⟨by exact bx bl fu oP rfl aL T,dZ e (1+aK) _ 211 (by exact aR (ai (.H 211) sH) rfl) (by exact bg bl pc rfl aL) (by exact bg fu sC rfl T) (dv.W3 bD bS)⟩
    .simp?[aD,aC,aF,aE,aO,aN,d1];rcases A with _|_;·simp?[];refine dy w (a:=a+10) (d:=2) bn (by exact aR (ai m3 cQ) rfl) (by exact aR lI rfl) λT m br cc b3 bK=>?_;simp?[];refine dy w (a:=a+10) (d:=3) b3 (by exact aR xk rfl) (by exact aR iO rfl) λaM M cd cz bS bD=>?_;simp? !only[];refine dy w (a:=a+10) bS (by exact aR (ai si cQ) rfl) (by exact aR lI rfl) λdx V fm fn cq cr=>?_;simp?[];exact H (1+T) (1+aM) (Ps (dx=0)) _ (by exact bx ju bl oQ rfl cc br) (by exact bx bl fu oQ rfl cd cz) (cq.WR (by exact aR wC rfl)) ((bK.WF bD).WF cr)
     .simp?[];refine dy w (a:=a+10) (d:=1) bn (by exact aR (ai m3 cQ) rfl) (by exact aR xq rfl) λT m br cc b3 bK=>?_;simp?[];refine dy w (a:=a+10) (d:=1) b3 (by exact aR xk rfl) (by exact aR xq rfl) λaM M cd cz bS bD=>?_;simp? !only[];refine dy w (a:=a+10) bS (by exact aR (ai si cQ) rfl) (by exact aR lI rfl) λdx V fm fn cq cr=>?_;simp?[];exact H (1+T) (1+aM) (Ps (dx=0)) _ (by exact bx (a3 ag aG) bl oQ rfl cc br) (by exact bx bl (a3 ag aG) oQ rfl cd cz) (cq.WR (by exact aR wC rfl)) ((bK.WF bD).WF cr)
   .have fo:=ao.WV [l,c,d,f,g,j] t;simp? only[aD,aC,aF,aE,aO,aN,d1,↓cE (fo _ _ cK)];refine qI g3 (λek F=>∀(bG:List bN)(C:List (Int×aa))(D:Int)(G:List (Int×aa))(x v:Option aa) q,E=bG++ek->bY q l 200->ah (ao [l,c,d,f,g,j] t) (ao [l,c,d,f,g,j] q)->cb q d f g j C D G []->q c=O (.WE [])->eF C D->fq C G bG->D<=1+4*bG.length->(C.length:Int)<=D->G.length<=bG.length->F [O (.b l),O (.g A),O (.b n),O (.b p),O (.b d),O (.b c),x,v,U,U,U,U,U,U,U,U,U,U,U,U,U,U,U,U,U,U,U,U,U,U,U,U,U,U,U,U,U,U,U,U] q) (λr=>True) (λr=>True) ?_ ?_ trivial trivial E [] [] 1 [] _ _ _ rfl ci (ah.WZ _) c1 ex ⟨λr r bI=>aU bI,λr r r bI=>aU bI,by exact aR rE rfl⟩ ⟨λr r bI=>aU bI,fU⟩ (by simp) (by simp) (by exact Pp rfl)
    ··intro y ek cw dj _ _ _ bG C D G x v q bH bn aP bz b1 ck b2 bJ cR dz;have el:bG.length+1<=8:=by have:=congrArg QI bH;simp at this;exact b8 m7 (a9 ag (.i ap h8)) (ai cv gu) rfl cI this
      refine⟨ao.WV _ _ _ _ (aP _ _ cK),aY (c:=[O (.b l),O (.g A),O (.b n),O (.b p),O (.b d),O (.b c),O (bh y.1),O (bh y.2),U,U,U,U,U,U,U,U,U,U,U,U,U,U,U,U,U,U,U,U,U,U,U,U,U,U,U,U,U,U,U,U]) rfl ?_⟩;obtain⟨⟨eU,di⟩,_⟩:=id bz;simp?[];refine aY ((eJ (p:=an.WY h) di (Z:=66) (f:=65) rfl)) ?_;simp?[];have em:=b0.U?;rw[bH,PU,Qj,Uk]at em;refine N2 w (a:=a+7) bz ck b2 (λcZ fp=>(b0.Zw cZ (by erw[bH];simp[fp])).XC) (b0.Zw y (by erw[bH];simp)) (λu=>em.2.2 _ u _ (QS ..) rfl) (by exact fr (ai bk gu) (aq ag rX) s4 rfl el bJ) cR (by exact cp a_ (ai cv gu) dP rfl dz el) λm fs fv fw fx cP fy fz fA fB fC=>?_;simp?[];obtain⟨xs,aw⟩:=q4 bn;have fD:=bz.W8 aw;have fF:=bz.W8 b1;have fG:ah (ao [l,c,d,f,g,j] q) (ao [l,c,d,f,g,j] m):=λb7 dG bq=>by
       have aw:b7∉[l,c,d,f,g,j]:=λu=>by rw[ao.WK u]at bq;injection bq
       rw[ao.W0 aw]at bq⊢;exact cP _ _ bq λu=>aw (PY _ (PY _ u))
      exact d7 bn λfH fI fJ fM fN=>dj (bG++[y]) fs fv fw _ _ _ (by erw[bH];simp) ⟨fH,fI,fJ,cP _ _ fM fD,fN⟩ (aP.WF fG) fx (cP _ _ b1 fF) fy fz (by simp;exact Ar.cT [_] [_,_] xl (aq ap rX) (aq ag (.i aG (.G 4 fL))) rfl fA bJ) fB (by simp;exact b8 a_ (ai av bk) (ai av cv) rfl dz fC)
    .intro bG C D G x v q bH bn aP bz b1 ck b2 bJ cR dz;·refine⟨ao.WV _ _ _ _ (aP _ _ cK),?_⟩;simp?[];rw[P3]at bH;rw[<-bH]at b2 bJ;exact H C D G x v _ bn (ev.WF aP) (ew.WG aP) (aP _ _ cK) bz b1 ck b2 (by exact fr m7 (aq ag rX) rB rfl cI bJ)
  .simp?[aD,aC,aF,aE,aO,aN,d1];refine GK w (a:=a+10) λd f g j t bE fO c1=>?_;simp?[];refine⟨by exact Pp rfl,λc cX=>?_⟩;simp? !only[];have aP:=bE.WF (ah.WH (.WE []) cX);have cG:ah (ao [l] o) (ao [l,c,d,f,g,j] (am t c (.WE []))):=aP.X' λb7 aw=>by
    simp only[PM,P0,or_false]at aw⊢;rcases aw with rfl|rfl|aw;·exact .inl rfl
    .exact .inr (bE.WK cX)
    .exact .inr (fO b7 (by simpa using aw))
   exact H d f g j c _ (bZ.WG aP) (es.WF cG) (et.WG cG) (cG _ _ eu) (c1.WG (ah.WH _ cX)) (ak _ _ _) (λu=>bZ.WI (bE.WK (u▸cX)))
 .simp?[aD,aC,aF,aE,d1];refine JG w (a:=a+4) bI (by exact aR (ai aX rU) rfl) λn o K bZ fP f2 f3 fR c0=>?_;simp?[];have ep:∀(cY:Int)(t:ab),0<=cY/\cY<=5->bY t l 41->bC (·=l) o t->h 74 [.b l,.a cY] t λaW q=>bo (an.WY h) ar [O (.b l),O (.g A),O (.b n),O aW,U,U,U,U,U,U,U,U,U,U,U,U,U,U,U,U,U,U,U,U,U,U,U,U,U,U,U,U,U,U,U,U,U,U,U,U] q (g7 Q):=by
   refineλcY t c6 ci dB=>JD w (a:=a+9) ci (by exact aR (ai oW rU) rfl) c6 λp q E bn fS cI fT c8 b0 fV=>?_;simp?[];have er:=dB.WF fS;have cG:ah (ao [l] o) (ao [l] q):=er.Xf (by simp);have fW:cV (ao [l] o) n K:=fR.Xs λu bw=>by rw[P_]at bw;subst bw;exact q4 bZ
   exact H n p K E _ (bn.WR (by exact aR (ai (.i oW jn) m3) rfl)) ((fP.WF er).Xf (by simp)) (fW.WG cG) c0 (by erw[ao.W0 (by simpa using fT)];exact c8) b0 fV
  exact e6 _ _ _ ⟨λr=>ep 0 o (by exact aR xt rfl) (bZ.WR (by exact aR (ai sS oW) rfl)) (bC.WZ _ _),λr=>dy w (a:=a+10) bZ (by exact aR (ai sS cQ) rfl) (by exact aR xo rfl) λaK t aL T ci dB=>ep aK t (by exact bx sW bl (.i bl op) rfl T aL) (ci.WR (by exact aR (ai (.i sS aG) oW) rfl)) dB⟩
theorem yK:∀c:List Int,∃a,fR (c.map .a)=O a|[]=>⟨0,rfl⟩|b::d=>by obtain⟨a,e⟩:=yK d;exact⟨b+a,congrArg (T_ (b+·)) e⟩
theorem JA(d:h=a2 an (a+13))(c:b l=O (.W5 (e.map .a)))(B:e.length<=63):h 81 [.b l] b λu v=>u=.g L/\v l=O (.W5 (e.map .a)):=by
 refine a' d (i:=[O (.b l),U,U]) rfl rfl λh d=>?_;obtain⟨C,o⟩:=yK e;refine ba 1 (λj=>∀k:Bool,j [O (.b l),O (.g k),U] b) ?_ λD p=>?_
 .intro k;simp?[aO,aN,j_];refine uu c _ ?_;simp?[aO,aN,j_];simp? only[aO,aN,j_,↓uv c,Pt];refine⟨(b5 (.i (aq gx rW) (a3 rW f3)) rfl),i8 (λi j=>∀m g,g l=O (.W5 (e.map .a))->j [O (.b l),O (.g k),m] g) (λ_=>True) (λ_=>True) ?_ ?_ trivial trivial U _ c⟩;·intro i E q r w _ _ _;rintro m g f;refine⟨trivial,aY rfl ?_⟩;simp?[];refine Nf d (a:=a+11) f (fr bl (a3 ag rW) (.i bl h3) rfl q r) λF G s=>?_;simp?[];refine Nq d (a:=a+11) λH I x t y=>?_;simp?[];have z:=x _ _ (s _ _ f);refine JB d (a:=a) y λK A=>?_;simp?[];refine w _ _ (A _ _ z ?_);rintro rfl;rw[s _ _ f]at t;injection t
  .intro i q M r;rintro m g f;refine⟨trivial,?_⟩;simp?[];exact⟨trivial,f⟩
 .simp?[aD,aC,aF,aE,j_];refine uu c _ ?_;simp?[aD,aC,aF,aE,j_];refine b7 (λn=>by refine Fy c o _ ?_;simp?[aD,aC,aF,aE,j_];exact n) (λn=>n) ?_;simp? only[aD,aC,aF,aE,j_,↓uv c,Pt,↓yL c o];refine⟨λ_=>p _,λ_=>p _⟩
end Spec
end Mine
end
open Mine
theorem PySem.Challenge.cw_rg0169_01_holds : PySem.Challenge.rw_rg0169_01.Holds :=
 Lt λb c a=>Spec.JA (a:=47) rfl (if_pos rfl) a
