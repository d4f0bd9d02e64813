import PyProof.Rows.All
import PyProof.ListIndex
import PyProof.Cells
import PyProof.CompFree
import PyProof.DelItemList
import PyProof.DictCalls
import PyProof.DictDisplay
import PyProof.EnumFor
import PyProof.EnumMake
import PyProof.EqAt
import PyProof.EqKinds
import PyProof.NeKinds
import PyProof.ExcBaseAll.ValueError
import PyProof.ExcClass3
import PyProof.ExcInit
import PyProof.StationsW
import PyProof.RangeFor
import PyProof.InstEq
import PyProof.InstStoreFacts
import PyProof.IsiPairs
import PyProof.ListNew
import PyProof.ListCopy
import PyProof.ListStr
import PyProof.WalkInts
import PyProof.Rows.Tup
import PyProof.Rows.Lst
import PyProof.SetKind
import PyProof.WalksPairs
import PyProof.Rows.DictMethods
import PyProof.Rows.Chain
import PyProof.Rows.RuleN_abs
import PyProof.Rows.TupMore
import PyProof.SliceMore
import PyProof.Rows.Range3
import PyProof.Rows.PlainStore
import PyProof.SetRoads
import PyProof.Rows.SetFrom
import Wide.BytesRules
import KE.BitLaws
import Open.Line
import OpenK.KWalk
import OpenK.KMore
import Open.Pieces
import KE.BytesMake
import KE.KBytesWalk
import Wide.All
import Lean
import PySem.Challenge.RW_nz0227_01
set_option Elab.async false
set_option tactic.hygienic false
set_option maxRecDepth 1000000
set_option maxHeartbeats 0
set_option linter.all false
set_option compiler.extract_closed false
set_option bootstrap.genMatcherCode false
set_option genSizeOf false
set_option genInjectivity false
open Array renaming getElem?_eq_getElem->Mt
open Bool renaming true->ae,false->aA,and_eq_true->he,false_eq_true->ng,casesOn->t5,eq_iff_iff->t6,false_ne_true->t7,or_eq_true->t8,false_and->E7,or_true->E8,and_self->Mx,or_eq_false_iff->Us
open Classical renaming byContradiction->Uv
open Decidable renaming decide->eg
open Eq renaming refl->iv,symm->rf
open Exists renaming elim->cv
open False renaming elim->MD
open ForInStep renaming yield->uf
open Function renaming comp->yW
open HAdd renaming hAdd->FT
open Inhabited renaming default->jQ
open Int renaming natCast_nonneg->ht,toNat_natCast->h8,ofNat_lt->mc,ofNat_le->sJ,toNat->us,eq_ofNat_of_zero_le->ze,le_of_lt->zf,le_trans->zg,natCast_add->B3,natCast_ne_zero_iff_pos->B4,not_lt->B5,fdiv_eq_ediv_of_nonneg->MI,lt_trans->MJ,toNat_lt->MK,natAbs_of_nonneg->U6,neg_lt_of_neg_lt->U7,sub_eq_iff_eq_add'->U8
open LawfulMonad renaming bind_assoc->uv,pure_bind->zk
open List renaming length_map->d0,mem_cons->fw,mem_cons_self->fK,mem_cons_of_mem->f8,replicate->f9,mem_map->hQ,map_cons->h9,getElem?_eq_getElem->iy,length_append->iz,size_toArray->iA,all_eq_true->i3,mem_singleton->jk,not_mem_nil->jl,filter_cons->kE,getElem?_eq_some_iff->kF,getElem?_map->kZ,mem_append->md,casesOn->mO,getElem?_eq_none->mP,range->nn,nodup_cons->n5,length_take->o6,map_append->p8,mem_map_of_mem->rt,getElem?_append_left->sM,getElem?_append_right->sN,length_cons->sO,lookup_cons->sP,set_set->sQ,contains_cons->uw,getElem_of_mem->ux,length_range->uy,all_cons->wk,length_drop->wl,any_cons->zl,drop_zero->zm,getElem_map->zn,getElem_mem->zo,length_set->zp,length_singleton->zq,mem_of_getElem?->zr,nil_append->zs,rec->zt,drop_eq_getElem_cons->B6,getElem?_range->B7,map_map->B8,mem_append_left->B9,mem_append_right->Ca,nodup_nil->Cb,replicate_succ->Cc,append_assoc->FY,drop_length->FZ,ext_getElem?->F0,forIn_cons->F1,getElem?_eq_none_iff->F2,getElem?_toArray->F3,length_filter_le->F4,length_replicate->F5,map_take->F6,nodup_append->F7,zip_cons_cons->F8,flatMap_cons->MM,flatten_cons->MN,forall_mem_cons->MO,getElem?_set_ne->MP,getElem_inj->MQ,map_drop->MR,map_nil->MS,map_set->MT,mem_range->MU,mem_reverse->MV,contains_iff_mem->Vf,filter_eq_self->Vg,getElem?_set_self->Vh,length_filter_eq_length_iff->Vi,take_of_length_le->Vj
open List.Nodup renaming sublist->Ve
open Nat renaming le_trans->cQ,le_refl->cW,lt_of_lt_of_le->eE,lt_of_le_of_lt->eI,zero_le->hf,le_of_eq->iB,lt_irrefl->jn,mod_lt->jo,le_of_lt->jz,beq->kG,le_add_right->k4,ne_of_lt->mf,le_of_ble_eq_true->mQ,casesOn->n7,lt_trans->n8,not_lt->n9,min_eq_left->pe,add_le_add_left->rx,min_le_right->ry,min_le_left->sT,sub_le->sU,succ_le_succ->sV,le_succ->uB,le_succ_of_le->uC,add_le_add_right->wm,div_le_self->wn,le_of_not_lt->wo,lt_of_not_le->wq,add_assoc->zu,add_comm->zv,add_le_add->Ce,add_sub_of_le->Cf,blt->Cg,le_of_add_left_le->Ch,lt_of_le_of_ne->Ci,lt_or_ge->Cj,mod_eq_of_lt->Ck,le_add_left->F9,lt_of_add_right_lt->Ga,lt_succ_self->Gb,min_eq_right->Gc,mul_le_mul_left->Gd,le_total->MX,lt_of_lt_of_eq->MY,lt_succ_of_le->MZ,mul_succ->M0,not_lt_zero->M1,sub_pos_of_lt->M2,add_le_add_iff_right->Vm,add_sub_self_left->Vn,eq_of_beq_eq_true->Vo,mod_mul_right_div_self->Vp,not_add_one_le_zero->Vq,sub_le_iff_le_add'->Vr,succ_add_eq_add_succ->Vs
open Nat.le renaming intro ->zw
open Nat.succ renaming inj->M3
open Ne renaming symm->Cm
open Option renaming some->J,none->ac,casesOn->oa,map_eq_some_iff->rz,isSome_iff_exists->sW,map_some->Cn,isNone_iff_eq_none->Gg,bind_some->Na,elim->Nb
open Option.some renaming inj->ci
open Prod renaming snd->rA
open Prod.mk renaming inj->ND
open Pure renaming pure->bK
open PyProof renaming noPylong_small->Vt
open PySem renaming Value->aG,Expr->aU,Addr->a1,Heap->bq,wpAny_bind->b4,Shared->cn,Params->cB,Stmt->cD,wpAny->cG,wpAny_pure->cL,model->c8,World->eJ,OsState->gv,standAt->gw,holding->gO,wpAny_of_eq->hG,DictEntry->hT,starEach->ic,wpAny_specialOf->ie,builtinLookup_eq_fast->iL,typeLookup_type->iM,typeLookup->jp,Scope->jA,backTo->jB,bindL->kk,Around->kI,clipAt->k7,mainGlobals->k8,sizeLine_eq->k9,Code->lH,NameKind->lI,argsOk->mg,sizeLine->mh,wpAny_field->mi,compEnvC->mS,Flow->nq,table->nu,Operator->oh,getItem->oj,bm_if_false->pf,envsOf->pg,Model->qh,assignEach->qk,entryFor->ql,evalEach->qm,treeTable->qn,wpAny_call_entry->qo,wpAny_newObj_type->qp,cellsFrom->rD,checkBuiltinCall->rE,constantsAlone->rF,field->rG,isSubtype_type->rH,rawInt->rI,wpAny_holding->rJ,wpAny_rule->rK,bindC->s5,builtinsNs->s6,compareOp->s7,swapsWith->s8,wpAny_isInstance->s9,wpAny_loadPart_at->ta,wpAny_typeOf->tc,InCallC->uF,Program->uG,assignInOrder->uH,firstArgMember->uI,letTemporaryGo->uJ,wpAny_callSpecial?_slot->uK,BoolOp->ww,bindName->wD,excClassObj->wE,setItem->wF,swappedStores->wG,typeIs_int->wH,wpAny_mono->wI,ExcBaseFacts->zx,binaryOp->zB,bootBuiltins->zC,delItem->zD,plainId_quiet->zE,release->zF,signature?_of->zG,valueAt->zH,without->zI,wpAny_attempt->zJ,attributeBase->Cw,bm_if_true->Cx,callWith->Cy,dropValue->Cz,entryFor_of_tree->CA,execs_cons->CB,foldedSetIterable->CC,keeperOf->CD,sysModules->CE,unpackItems->CF,wpAny_call->CG,wpAny_isSubtype_exc->CH,Comprehension->Gn,assignStores->Gr,checkTypeCall->Gs,clipAt_nat->Gu,codeAny_of_tree->Gv,getMethod_builtin->Gw,isSubtype_stop->Gx,methodCall->Gy,name_of_addr->Gz,slot_listiter_next->GA,wpAny_handled->GB,wpAny_load->GC,wpAny_loadPart'->GD,wpAny_mkBytes->GF,wpAny_seqItems->GG,wpAny_setField->GH,wpAny_standAt->GI,wpAny_throw->GJ,wpCode_mono->GK,codeAny_builtin->NM,comprehension->NN,entry_typeCall->NO,leftWithCleanup->NP,letOwnedTupleGo->NQ,methodCallForm->NR,newFunctionEnv->NS,opaqueClassAbove->NT,pushCells_keeps->NU,wpAny_execs_cons->NV,wpAny_isNot_other->NW,wpAny_is_other->NX,wpAny_loadPart->NY,wpAny_lookBehind->NZ,wpAny_sequenceKey->N0,wpCode_iff_wp->N1
open PySem.Around renaming under_plainId->Gh
open PySem.Builtin renaming bitAnd->wy
open PySem.Builtin.BaseException renaming bexcPut->ass
open PySem.Builtin.Bytes renaming fitsIndex->wx,exportsOf->Gi,subscript?->Gj,tooLong->Gk,write->Gl,decodersThatHold->NE,buffer?->Vu,checkCodecArg->Vv,checkResize->Vw,ownRelease->Vx,sliceParts->Vy,sliced->Vz,slotIsOwn->VA
open PySem.Builtin.List renaming listExtendWith->NF,listFitsIndex->VB
open PySem.Builtin.ObjectAttr renaming storeInDict->VC
open PySem.Builtin.Range renaming rangeSize->og,small->VD
open PySem.Code renaming quiet_builtin->Gm
open PySem.DictEntry renaming refKey->NG
open PySem.Env renaming blockKind->Go
open PySem.Flow renaming next->sZ
open PySem.Heap renaming lt_size->gE,get?_push_size->hU,size_push->ib,get?_push_of_some->k6,size_after_update->qg,get?_update_self->s0,get?_update_other->uE,ExtBut->zy,SameBut->zz,update->NI,get?_none_of_le->VE,get?_update_ne->VF
open PySem.Heap.SameBut renaming update->NH
open PySem.NameKind renaming free->s1,cell->NJ
open PySem.Obj renaming mapSeq->rB,mapBytearray->wz,putName->zA
open PySem.PyData renaming keyHash->wA
open PySem.ScopeKind renaming isAnnotationScope->NK,function->VG
open PySem.Sem renaming wp->gN,wp_mono->lJ,wp_bind'->wB
open PySem.Str renaming ofString->oi
open PySem.Value renaming ref->lK,none->s2,type->Gp
open PySem.W renaming instObj->kj,findIn->nr,dictOf->qi,segRun_of->qj,emptyDict->rC,boot_heap->s3,typeIs_bytes->s4,keepIn->wC,looks_findIn->Cv,looks_nsIn->Gq
open PySem.W.FB renaming slot_bytes_add->NL,slot_bytes_getitem->VH
open UInt8 renaming ofNat->hV,toNat_lt->rN,toNat_ofNat'->CJ
noncomputable section
set_option tactic.hygienic true
namespace Mine.Internal
theorem aY{c:Prop}{h:Decidable c}(aD:c){ay:Sort _}{t e:ay}:ite c t e=t:=if_pos aD
theorem a8{c:Prop}{h:Decidable c}(aD:¬c){ay:Sort _}{t e:ay}:ite c t e=e:=if_neg aD
theorem CN{k:Int}{m:Nat}(h:k.natAbs<m):k<m:=Int.lt_of_le_of_lt Int.le_natAbs (mc.mpr h)
theorem GV{k:Int}{m:Nat}(h:k.natAbs<m): -(m:Int)<k:=U7 (CN ((Int.natAbs_neg k).symm▸h))
theorem CM{k:Int}(h:k.natAbs<2^62): -2^63<=k/\k<2^63:=
 ⟨zg (by decide) (zf (GV h)),Int.lt_of_lt_of_le (CN h) (by decide)⟩
theorem XI{a b q:Int}(ha:a.natAbs<2^62)(wO:b.natAbs<2^62)(ai:0<=q)(ak:q<=b - a - 1):0<=q+1/\q+1<2^63:=
 ⟨Int.le_add_one ai,Int.lt_of_le_of_lt (Int.add_le_of_le_sub_right ak) (Int.lt_of_lt_of_le (Int.add_lt_add (CN wO) (U7 (GV ha))) (by decide))⟩
theorem XM{b c:Int}(bu:0<c)(ai:c<1000000)(wO:b.natAbs<2^62): -2^63<=b+(c - 1)/\b+(c - 1)<2^63:=
 ⟨zg (zg (by decide) (zf (GV wO))) (Int.le_add_of_nonneg_right (Int.sub_nonneg_of_le bu)),
  MJ (Int.add_lt_add (CN wO) (MJ (Int.sub_lt_self _ (by decide)) ai)) (by decide)⟩
theorem Xi{a2 a b i:Nat}(h:¬i<min b a2 - min a a2)(ak:a+i<b):a2<=a+i:=by
 rcases MX a2 a with q|q
 ·exact cQ q (k4 ..)
 ·rcases MX a2 b with p|p
  ·rw [Gc p,pe q] at h;exact Vr.mp (wo h)
  ·rw [pe p,pe q] at h;exact absurd (Nat.lt_sub_of_add_lt (zv a i▸ak)) h
theorem asu{j k i:Nat}(h:j - i=k+1):j - (i+1)=k:=(Nat.sub_add_eq ..).trans (h▸rfl)
theorem asv{j k i:Nat}(h:j - i=k+1):i+1<=j:=Nat.lt_of_sub_pos (h▸Nat.succ_pos _)
theorem Xh{p a:Nat}(h:p<=48 - a):48+p<=65536:=cQ (rx (cQ h (sU 48 a)) 48) (by decide:48+48<=65536)
theorem wO{a2:Nat}(h:a2<=8):4+4*a2+(48 - 4*(a2+1))=48:=by
 rw [zv 4,<-M0];exact Cf (cQ (Gd 4 (sV h)) (by decide))
theorem XE{a b c d:Nat}(ai:a<=b+1)(ak:c<=a+1)(aZ:d<=c+1):d<=max (b+5) 7:=
 cQ aZ (cQ (sV ak) (cQ (sV (sV ai)) (cQ (rx (by decide:3<=5) b) (Nat.le_max_left ..))))
theorem XF{a b c:Nat}(ak:b<=a+4)(aZ:c<=b+1):c<=max (a+5) 7:=cQ aZ (cQ (sV ak) (Nat.le_max_left ..))
theorem Xo{x:Nat}(h:14<=x)(ai:x<17):x=14\/x=15\/x=16:=by
 exact(by decide:∀x<17,14<=x->x=14\/x=15\/x=16) x ai h
theorem Xx{a b c e:Nat}(h:a+b<=96)(ak:48<=a+(c+e)):b - (c+e)<=48:=by
 have :=Nat.sub_le_sub_right (k:=a+(c+e)) h;rw [Nat.add_sub_add_left] at this;exact cQ this (cQ (Nat.sub_le_sub_left ak 96) (by decide))
theorem Xq{n:Nat}(h:n<=8):(8:Int) - (n:Int)=((8 - n:Nat):Int):=(Int.ofNat_sub h).symm
theorem XB{a b:Nat}(h:a<=b - 1)(bu:0<b):a+1<=b:=Nat.add_le_of_le_sub bu h
theorem th{off x d:Nat}(h:off+x<=96)(ak:d<x):(off+d)/48=0\/(off+d)/48=1:=by
 have :(off+d)/48<2:=Nat.div_lt_of_lt_mul (eE (Nat.add_lt_add_left ak off) h);exact(by decide:∀y<2,y=0\/y=1) _ this
theorem XH(n:Nat):n/2/5%60+(1+n/2/300%20)<=96:=
 cQ (Ce (jz (jo _ (by decide))) (rx (jz (jo _ (by decide))) 1)) (by decide)
theorem Xg{x:Nat}(h:x<22):13+x/2^3/48=13:=by rw [Nat.div_eq_of_lt (eI (wn ..) (n8 h (by decide)))]
theorem Xn{x d t:Nat}(h:x+d=t)(bu:¬d=0):x+1+(d - 1)=t:=by
 obtain⟨e,rfl⟩:=Nat.exists_eq_succ_of_ne_zero bu;exact(Vs ..).trans h
theorem XD{n m D:Nat}(h:m<=n)(ak:D+2*n<990):D+2*m<990:=eI (rx (Gd 2 h) D) ak
theorem Xe{a:Int}(h:a<0): -a=(a.natAbs:Int):=(Int.ofNat_natAbs_of_nonpos (zf h)).symm
theorem Xu{p n:Nat}(ai:p<=(n+1)/2)(hn:n<=10):2*p<1000:=eI (Gd 2 ai) (eI (Nat.mul_div_le ..) (eI (sV hn) (by decide)))
theorem Xv{p n:Nat}(ai:p<=(n+1)/2)(ak:¬p=(n+1)/2):2*p<n:=by
 have :=Ci ai ak;have :=(Nat.le_div_iff_mul_le (by decide)).mp this
 rw [Nat.succ_mul] at this;exact Nat.mul_comm p 2▸(Nat.le_of_succ_le_succ this:p*2<n)
theorem XA{n:Nat}(h:¬n=0):¬0=(n+1)/2:=mf (Nat.div_pos (sV (Nat.pos_of_ne_zero h)) (by decide))
theorem Xz{n:Nat}(h:n<=10):(n+1)/2<0+1000:=eI (wn ..) (eI (sV h) (by decide))
theorem XR{a2 x i j:Nat}(ai:i<=j)(ak:j<=a2)(aZ:x+i=j):min i a2+(x+(a2 - j))=a2:=by
 rw [pe (cQ ai ak),<-zu,zv i,aZ];exact Cf ak
theorem OH{N p:Nat}{w:Int}(h:p<N):w+1+((N - (p+1):Nat):Int)=w+((N - p:Nat):Int):=by
 rw [Int.add_assoc];exact congrArg (w+ ·) (by rw [<-Nat.succ_sub_succ N p,Nat.succ_sub h];exact Int.add_comm ..)
theorem XJ{r a2:Nat}(h:r+24<=48):min r a2+24<=1000:=cQ (wm (sT ..) 24) (cQ h (by decide))
theorem XN{r a2:Nat}(h:r+24<=48)(e:a2=48):r+24<=a2:=e▸h
theorem OJ{a:Nat}(h:a=0\/14<=a/\a<=17):a<4294967296:=by
 rcases h with rfl|⟨_,h⟩
 ·decide
 ·exact eI h (by decide)
theorem OL{i n:Nat}(h:i>=n)(bu:i - n=0):i=n:=Nat.le_antisymm (Nat.le_of_sub_eq_zero bu) h
theorem GU{x a2:Nat}(h:x<22)(e:a2=48):x/8<a2:=e▸eI (wn ..) (n8 h (by decide))
theorem Xr{s q r:Nat}(h:r<48)(e:48*q+r=s):s+(48 - r)=48*q+48*1:=by
 rw [<-e,zu,Cf (jz h)]
theorem XC{n:Int}(h:n.natAbs<2^62): -9223372036854775808<=n/\n<9223372036854775808:=CM h
theorem OM{k:Int}{n:Nat}(bu:0<=k)(h:k.toNat<n):0<=k/\k<n:=⟨bu,(MK bu).mp h⟩
theorem Xw{p n:Nat}(ai:p<=(n+1)/2)(ak:¬p=(n+1)/2):p+1<=(n+1)/2:=Ci ai ak
theorem rP{p n f:Nat}(h:n<p+(f+1)):n<p+1+f:=(Vs p f).symm▸h
theorem XQ{n:Nat}:min 10 n<0+1000:=eI (sT ..) (by decide)
theorem OK{p a:Nat}(h:p<=48 - a%48):a%48+p<=48:=cQ (rx h _) (iB (Cf (jz (jo a (by decide)))))
theorem XS{p a a2:Nat}(e:a2=48)(h:p<=48 - a%48):a%48+p<=a2:=cQ (OK h) (iB e.symm)
theorem XK{r:Nat}(h:r+24<=48):r+24<1000:=eI h (by decide)
theorem Xt{s a b:Nat}(bu:s<1000)(ai:a=0\/14<=a/\a<=17)(ak:b=0\/14<=b/\b<=17):s<4294967296/\a<4294967296/\b<4294967296:=
 ⟨n8 bu (by decide),OJ ai,OJ ak⟩
theorem Xs{k:Int}{n m:Nat}(bu:0<=k)(h:k<n)(e:n=m):k.toNat<m:=e▸(MK bu).mpr h
theorem XO{q:Int}(h:q<0):(q+1).toNat=0:=Int.toNat_of_nonpos h
theorem Xj{x:Nat}(h:x<22):x/8<1000:=eI (wn ..) (n8 h (by decide))
theorem CL{x:Nat}(h:x<=17):x/8<1000:=Xj (eI h (by decide))
theorem uN{x a2:Nat}(h:x<=17)(e:a2=48):x/8<a2:=GU (eI h (by decide)) e
theorem XG{m f:Nat}(h:1+m%2=f):f - 1<1000:=h▸eI (iB (Nat.add_sub_cancel_left ..)) (n8 (jo m (by decide)) (by decide))
theorem GX{off x:Nat}(h:off+x<=96):x<=65536:=cQ (F9 ..) (cQ h (by decide))
theorem XT{off x:Nat}(h:off+x<=96):x<1000:=eI (F9 ..) (eI h (by decide))
theorem Xk{off x d:Nat}(h:off+x<=96)(ak:d<x):d<1000:=n8 ak (XT h)
theorem GW{n m:Nat}(h:¬n<m):¬(n:Int)<m:=λe=>h (mc.mp e)
theorem Xp{n:Nat}(h:n<=4):(4:Int)<=((8 - n:Nat):Int):=sJ.mpr (Nat.le_sub_of_add_le (rx h 4))
theorem Xy{z:Int}(h:0<z)(ai:z<1000000):z.natAbs<1073741824:=mc.mp ((U6 (zf h)).symm▸MJ ai (by decide))
theorem Xf{a b c d:Nat}(h:a+b=c+d):(c:Int)+(d:Int) - (b:Int)=a:=by
 rw [<-B3,<-h,B3];exact Int.add_sub_cancel ..
theorem Xl{u a n:Nat}(h:u<=40)(ak:a+40*(n+1)<9800):a+u+40*n<9800:=
 eI (by rw [zu,M0,zv (40*n)];exact rx (wm h _) a) ak
theorem Xm{u a n:Nat}(h:u<=2)(ak:a+2*(n+1)<990):a+u+2*n<990:=
 eI (by rw [zu,M0,zv (2*n)];exact rx (wm h _) a) ak
theorem OI{p x d:Nat}(e:p=x - d):x<=d+p:=e▸Vr.mp (cW _)
end Mine.Internal
end
noncomputable section
set_option tactic.hygienic true
open PySem PySem.W
namespace Mine.Internal
@[elab_as_elim] theorem G {ay:Sort _} {a b:ay} {P:ay->Prop} (h:a=b) (k:P b):P a:=h▸k
@[elab_as_elim] theorem cT {ay:Sort _} {a b:ay} {P:ay->Prop} (h:b=a) (k:P b):P a:=h▸k
@[elab_as_elim] theorem fB {a b:Prop} {P:Prop->Prop} (h:a↔b) (k:P b):P a:=propext h▸k
section
variable {t1:Sort _}{v8:Sort _}{v9:Sort _}{wa:Sort _}{E5:Sort _}{Ms:Sort _}{Un:Sort _}{aa:Prop}{iK oc sX ws Co Nc:Prop}{hF kH wt Nd:t1->Prop}{ia jT qd Cp Nf Ng Nh Ni Nj:t1->v8->Prop}{jU lG mR qe sY wu Cq Nk:t1->v8->v9->Prop}{qf wv Cr Cs Nl Nm Nn No:t1->v8->v9->wa->Prop}{Ct Cu Np Nq Nr:t1->v8->v9->wa->E5->Prop}{Nt Nu Nv Nw:t1->v8->v9->wa->E5->Ms->Prop}{Ny Nz NA NB NC:t1->v8->v9->wa->E5->Ms->Un->Prop}
theorem cz(h:iK/\oc)(k:iK->oc->aa):aa:=k h.1 h.2
theorem dS(h:iK/\oc/\sX)(k:iK->oc->sX->aa):aa:=k h.1 h.2.1 h.2.2
theorem v5(h:iK/\oc/\sX/\ws)(k:iK->oc->sX->ws->aa):aa:=k h.1 h.2.1 h.2.2.1 h.2.2.2
theorem ar4(h:iK/\oc/\sX/\ws/\Co)(k:iK->oc->sX->ws->Co->aa):aa:=k h.1 h.2.1 h.2.2.1 h.2.2.2.1 h.2.2.2.2
theorem Ud(h:iK/\oc/\sX/\ws/\Co/\Nc)(k:iK->oc->sX->ws->Co->Nc->aa):aa:=k h.1 h.2.1 h.2.2.1 h.2.2.2.1 h.2.2.2.2.1 h.2.2.2.2.2
theorem tX(h:iK/\oc/\∃aE,hF aE/\kH aE)(k:iK->oc->∀aE,hF aE->kH aE->aa):aa:=cv h.2.2 λcA ai=>k h.1 h.2.1 cA ai.1 ai.2
theorem Ue(h:iK/\∃aE,hF aE)(k:iK->∀aE,hF aE->aa):aa:=cv h.2 λcA ai=>k h.1 cA ai
theorem Mm(h:iK/\∃aE,hF aE/\kH aE)(k:iK->∀aE,hF aE->kH aE->aa):aa:=cv h.2 λcA ai=>k h.1 cA ai.1 ai.2
theorem Mn(h:iK/\∃aE,hF aE/\kH aE/\wt aE)(k:iK->∀aE,hF aE->kH aE->wt aE->aa):aa:=cv h.2 λcA ai=>k h.1 cA ai.1 ai.2.1 ai.2.2
theorem ar5(h:iK/\∃aE,hF aE/\kH aE/\∃az aT ca,qf aE az aT ca/\wv aE az aT ca)(k:iK->∀aE,hF aE->kH aE->∀az aT ca,qf aE az aT ca->wv aE az aT ca->aa):aa:=cv h.2 λcA ai=>cv ai.2.2 λde ak=>cv ak λfi aZ=>cv aZ λly cC=>k h.1 cA ai.1 ai.2.1 de fi ly cC.1 cC.2
theorem Uf(h:iK/\∃aE az,ia aE az/\jT aE az)(k:iK->∀aE az,ia aE az->jT aE az->aa):aa:=cv h.2 λcA ai=>cv ai λde ak=>k h.1 cA de ak.1 ak.2
theorem ar6(h:iK/\∃aE az,ia aE az/\jT aE az/\qd aE az)(k:iK->∀aE az,ia aE az->jT aE az->qd aE az->aa):aa:=cv h.2 λcA ai=>cv ai λde ak=>k h.1 cA de ak.1 ak.2.1 ak.2.2
theorem cm(h:∃aE,hF aE)(k:∀aE,hF aE->aa):aa:=cv h λcA ai=>k cA ai
theorem bU(h:∃aE,hF aE/\kH aE)(k:∀aE,hF aE->kH aE->aa):aa:=cv h λcA ai=>k cA ai.1 ai.2
theorem kT(h:∃aE,hF aE/\kH aE/\wt aE)(k:∀aE,hF aE->kH aE->wt aE->aa):aa:=cv h λcA ai=>k cA ai.1 ai.2.1 ai.2.2
theorem Ug(h:∃aE,hF aE/\kH aE/\wt aE/\Nd aE)(k:∀aE,hF aE->kH aE->wt aE->Nd aE->aa):aa:=cv h λcA ai=>k cA ai.1 ai.2.1 ai.2.2.1 ai.2.2.2
theorem Mo(h:∃aE,hF aE/\kH aE/\∃az,ia aE az)(k:∀aE,hF aE->kH aE->∀az,ia aE az->aa):aa:=cv h λcA ai=>cv ai.2.2 λde ak=>k cA ai.1 ai.2.1 de ak
theorem Uh(h:∃aE,hF aE/\kH aE/\∃az,ia aE az/\jT aE az/\qd aE az)(k:∀aE,hF aE->kH aE->∀az,ia aE az->jT aE az->qd aE az->aa):aa:=cv h λcA ai=>cv ai.2.2 λde ak=>k cA ai.1 ai.2.1 de ak.1 ak.2.1 ak.2.2
theorem ar7(h:∃aE,hF aE/\∃az,ia aE az)(k:∀aE,hF aE->∀az,ia aE az->aa):aa:=cv h λcA ai=>cv ai.2 λde ak=>k cA ai.1 de ak
theorem ar8(h:∃aE,hF aE/\∃az,ia aE az/\jT aE az)(k:∀aE,hF aE->∀az,ia aE az->jT aE az->aa):aa:=cv h λcA ai=>cv ai.2 λde ak=>k cA ai.1 de ak.1 ak.2
theorem BK(h:∃aE,hF aE/\∃az aT,jU aE az aT/\lG aE az aT/\∃ca c7,Ct aE az aT ca c7/\Cu aE az aT ca c7/\Np aE az aT ca c7/\Nq aE az aT ca c7/\Nr aE az aT ca c7)(k:∀aE,hF aE->∀az aT,jU aE az aT->lG aE az aT->∀ca c7,Ct aE az aT ca c7->Cu aE az aT ca c7->Np aE az aT ca c7->Nq aE az aT ca c7->Nr aE az aT ca c7->aa):aa:=cv h λcA ai=>cv ai.2 λde ak=>cv ak λfi aZ=>cv aZ.2.2 λly cC=>cv cC λv6 gl=>k cA ai.1 de fi aZ.1 aZ.2.1 ly v6 gl.1 gl.2.1 gl.2.2.1 gl.2.2.2.1 gl.2.2.2.2
theorem oY(h:∃aE az,ia aE az)(k:∀aE az,ia aE az->aa):aa:=cv h λcA ai=>cv ai λde ak=>k cA de ak
theorem mF(h:∃aE az,ia aE az/\jT aE az)(k:∀aE az,ia aE az->jT aE az->aa):aa:=cv h λcA ai=>cv ai λde ak=>k cA de ak.1 ak.2
theorem kA(h:∃aE az,ia aE az/\jT aE az/\qd aE az)(k:∀aE az,ia aE az->jT aE az->qd aE az->aa):aa:=cv h λcA ai=>cv ai λde ak=>k cA de ak.1 ak.2.1 ak.2.2
theorem tY(h:∃aE az,ia aE az/\jT aE az/\qd aE az/\Cp aE az)(k:∀aE az,ia aE az->jT aE az->qd aE az->Cp aE az->aa):aa:=cv h λcA ai=>cv ai λde ak=>k cA de ak.1 ak.2.1 ak.2.2.1 ak.2.2.2
theorem Ui(h:∃aE az,ia aE az/\jT aE az/\qd aE az/\Cp aE az/\Nf aE az/\Ng aE az/\Nh aE az/\Ni aE az/\Nj aE az)(k:∀aE az,ia aE az->jT aE az->qd aE az->Cp aE az->Nf aE az->Ng aE az->Nh aE az->Ni aE az->Nj aE az->aa):aa:=cv h λcA ai=>cv ai λde ak=>k cA de ak.1 ak.2.1 ak.2.2.1 ak.2.2.2.1 ak.2.2.2.2.1 ak.2.2.2.2.2.1 ak.2.2.2.2.2.2.1 ak.2.2.2.2.2.2.2.1 ak.2.2.2.2.2.2.2.2
theorem ar9(h:∃aE az,ia aE az/\jT aE az/\∃aT,jU aE az aT)(k:∀aE az,ia aE az->jT aE az->∀aT,jU aE az aT->aa):aa:=cv h λcA ai=>cv ai λde ak=>cv ak.2.2 λfi aZ=>k cA de ak.1 ak.2.1 fi aZ
theorem asa(h:∃aE az,ia aE az/\jT aE az/\∃aT ca c7 eG h4,Ny aE az aT ca c7 eG h4/\Nz aE az aT ca c7 eG h4/\NA aE az aT ca c7 eG h4/\NB aE az aT ca c7 eG h4/\NC aE az aT ca c7 eG h4)(k:∀aE az,ia aE az->jT aE az->∀aT ca c7 eG h4,Ny aE az aT ca c7 eG h4->Nz aE az aT ca c7 eG h4->NA aE az aT ca c7 eG h4->NB aE az aT ca c7 eG h4->NC aE az aT ca c7 eG h4->aa):aa:=cv h λcA ai=>cv ai λde ak=>cv ak.2.2 λfi aZ=>cv aZ λly cC=>cv cC λv6 gl=>cv gl λMp gH=>cv gH λasl qD=>k cA de ak.1 ak.2.1 fi ly v6 Mp asl qD.1 qD.2.1 qD.2.2.1 qD.2.2.2.1 qD.2.2.2.2
theorem asb(h:∃aE az aT,jU aE az aT)(k:∀aE az aT,jU aE az aT->aa):aa:=cv h λcA ai=>cv ai λde ak=>cv ak λfi aZ=>k cA de fi aZ
theorem E3(h:∃aE az aT,jU aE az aT/\lG aE az aT/\mR aE az aT)(k:∀aE az aT,jU aE az aT->lG aE az aT->mR aE az aT->aa):aa:=cv h λcA ai=>cv ai λde ak=>cv ak λfi aZ=>k cA de fi aZ.1 aZ.2.1 aZ.2.2
theorem tZ(h:∃aE az aT,jU aE az aT/\lG aE az aT/\mR aE az aT/\qe aE az aT)(k:∀aE az aT,jU aE az aT->lG aE az aT->mR aE az aT->qe aE az aT->aa):aa:=cv h λcA ai=>cv ai λde ak=>cv ak λfi aZ=>k cA de fi aZ.1 aZ.2.1 aZ.2.2.1 aZ.2.2.2
theorem asc(h:∃aE az aT,jU aE az aT/\lG aE az aT/\mR aE az aT/\qe aE az aT/\sY aE az aT)(k:∀aE az aT,jU aE az aT->lG aE az aT->mR aE az aT->qe aE az aT->sY aE az aT->aa):aa:=cv h λcA ai=>cv ai λde ak=>cv ak λfi aZ=>k cA de fi aZ.1 aZ.2.1 aZ.2.2.1 aZ.2.2.2.1 aZ.2.2.2.2
theorem asd(h:∃aE az aT,jU aE az aT/\lG aE az aT/\mR aE az aT/\qe aE az aT/\sY aE az aT/\wu aE az aT)(k:∀aE az aT,jU aE az aT->lG aE az aT->mR aE az aT->qe aE az aT->sY aE az aT->wu aE az aT->aa):aa:=cv h λcA ai=>cv ai λde ak=>cv ak λfi aZ=>k cA de fi aZ.1 aZ.2.1 aZ.2.2.1 aZ.2.2.2.1 aZ.2.2.2.2.1 aZ.2.2.2.2.2
theorem ase(h:∃aE az aT,jU aE az aT/\lG aE az aT/\mR aE az aT/\qe aE az aT/\sY aE az aT/\wu aE az aT/\Cq aE az aT)(k:∀aE az aT,jU aE az aT->lG aE az aT->mR aE az aT->qe aE az aT->sY aE az aT->wu aE az aT->Cq aE az aT->aa):aa:=cv h λcA ai=>cv ai λde ak=>cv ak λfi aZ=>k cA de fi aZ.1 aZ.2.1 aZ.2.2.1 aZ.2.2.2.1 aZ.2.2.2.2.1 aZ.2.2.2.2.2.1 aZ.2.2.2.2.2.2
theorem asf(h:∃aE az aT,jU aE az aT/\lG aE az aT/\mR aE az aT/\qe aE az aT/\sY aE az aT/\wu aE az aT/\Cq aE az aT/\Nk aE az aT)(k:∀aE az aT,jU aE az aT->lG aE az aT->mR aE az aT->qe aE az aT->sY aE az aT->wu aE az aT->Cq aE az aT->Nk aE az aT->aa):aa:=cv h λcA ai=>cv ai λde ak=>cv ak λfi aZ=>k cA de fi aZ.1 aZ.2.1 aZ.2.2.1 aZ.2.2.2.1 aZ.2.2.2.2.1 aZ.2.2.2.2.2.1 aZ.2.2.2.2.2.2.1 aZ.2.2.2.2.2.2.2
theorem asg(h:∃aE az aT,jU aE az aT/\lG aE az aT/\mR aE az aT/\∃ca,qf aE az aT ca)(k:∀aE az aT,jU aE az aT->lG aE az aT->mR aE az aT->∀ca,qf aE az aT ca->aa):aa:=cv h λcA ai=>cv ai λde ak=>cv ak λfi aZ=>cv aZ.2.2.2 λly cC=>k cA de fi aZ.1 aZ.2.1 aZ.2.2.1 ly cC
theorem ash(h:∃aE az aT ca,qf aE az aT ca)(k:∀aE az aT ca,qf aE az aT ca->aa):aa:=cv h λcA ai=>cv ai λde ak=>cv ak λfi aZ=>cv aZ λly cC=>k cA de fi ly cC
theorem Uj(h:∃aE az aT ca,qf aE az aT ca/\wv aE az aT ca/\Cr aE az aT ca/\Cs aE az aT ca)(k:∀aE az aT ca,qf aE az aT ca->wv aE az aT ca->Cr aE az aT ca->Cs aE az aT ca->aa):aa:=cv h λcA ai=>cv ai λde ak=>cv ak λfi aZ=>cv aZ λly cC=>k cA de fi ly cC.1 cC.2.1 cC.2.2.1 cC.2.2.2
theorem asi(h:∃aE az aT ca,qf aE az aT ca/\wv aE az aT ca/\Cr aE az aT ca/\Cs aE az aT ca/\Nl aE az aT ca/\Nm aE az aT ca/\Nn aE az aT ca/\No aE az aT ca)(k:∀aE az aT ca,qf aE az aT ca->wv aE az aT ca->Cr aE az aT ca->Cs aE az aT ca->Nl aE az aT ca->Nm aE az aT ca->Nn aE az aT ca->No aE az aT ca->aa):aa:=cv h λcA ai=>cv ai λde ak=>cv ak λfi aZ=>cv aZ λly cC=>k cA de fi ly cC.1 cC.2.1 cC.2.2.1 cC.2.2.2.1 cC.2.2.2.2.1 cC.2.2.2.2.2.1 cC.2.2.2.2.2.2.1 cC.2.2.2.2.2.2.2
theorem asj(h:∃aE az aT ca c7,Ct aE az aT ca c7/\Cu aE az aT ca c7)(k:∀aE az aT ca c7,Ct aE az aT ca c7->Cu aE az aT ca c7->aa):aa:=cv h λcA ai=>cv ai λde ak=>cv ak λfi aZ=>cv aZ λly cC=>cv cC λv6 gl=>k cA de fi ly v6 gl.1 gl.2
theorem Uk(h:∃aE az aT ca c7 eG,Nt aE az aT ca c7 eG/\Nu aE az aT ca c7 eG/\Nv aE az aT ca c7 eG/\Nw aE az aT ca c7 eG)(k:∀aE az aT ca c7 eG,Nt aE az aT ca c7 eG->Nu aE az aT ca c7 eG->Nv aE az aT ca c7 eG->Nw aE az aT ca c7 eG->aa):aa:=cv h λcA ai=>cv ai λde ak=>cv ak λfi aZ=>cv aZ λly cC=>cv cC λv6 gl=>cv gl λMp gH=>k cA de fi ly v6 Mp gH.1 gH.2.1 gH.2.2.1 gH.2.2.2
end
noncomputable def iP{ay:Type}(e:aU)(d:ay)(kBoolOp:ww->List aU->Pos->ay:=λ_ _ _=>d)(kBinOp:aU->oh->aU->Pos->ay:=λ_ _ _ _=>d)(kUnaryOp:UnaryOp->aU->Pos->ay:=λ_ _ _=>d)(kIfExp:aU->aU->aU->Pos->ay:=λ_ _ _ _=>d)(kDict:List (Option aU)->List aU->Pos->ay:=λ_ _ _=>d)(kListComp:aU->List Gn->jA->Pos->ay:=λ_ _ _ _=>d)(kCompare:aU->List CmpOp->List aU->Pos->ay:=λ_ _ _ _=>d)(kCall:aU->List aU->List Keyword->Pos->ay:=λ_ _ _ _=>d)(kConstant:Const->Nat->Pos->ay:=λ_ _ _=>d)(kAttribute:aU->Str->Pos->ay:=λ_ _ _=>d)(kSubscript:aU->aU->Pos->ay:=λ_ _ _=>d)(kName:Str->Pos->ay:=λ_ _=>d)(kList:List aU->Pos->ay:=λ_ _=>d)(kTuple:List aU->Nat->Pos->ay:=λ_ _ _=>d)(kSlice:Option aU->Option aU->Option aU->Pos->ay:=λ_ _ _ _=>d):ay:=
 Expr.casesOn (motive_1:=λ_=>ay) e kBoolOp (λ_ _ _=>d) kBinOp kUnaryOp (λ_ _ _ _=>d) kIfExp kDict (λ_ _ _=>d) kListComp (λ_ _ _ _=>d) (λ_ _ _ _ _=>d) (λ_ _ _ _=>d) (λ_ _=>d) (λ_ _=>d) (λ_ _=>d) kCompare kCall (λ_ _ _ _=>d) (λ_ _=>d) kConstant kAttribute kSubscript (λ_ _=>d) kName kList kTuple kSlice
noncomputable def oS{ay:Type}(e:cD)(d:ay)(kFunctionDef:Str->Arguments->List cD->List aU->Option aU->List TypeParam->jA->Option jA->Str->Pos->ay:=λ_ _ _ _ _ _ _ _ _ _=>d)(kClassDef:Str->List aU->List Keyword->List cD->List aU->List TypeParam->jA->Option jA->Str->List Str->Pos->ay:=λ_ _ _ _ _ _ _ _ _ _ _=>d)(kReturn:Option aU->Pos->ay:=λ_ _=>d)(kDelete:List aU->Pos->ay:=λ_ _=>d)(kAssign:List aU->aU->Pos->ay:=λ_ _ _=>d)(kAugAssign:aU->oh->aU->Pos->ay:=λ_ _ _ _=>d)(kFor:aU->aU->List cD->List cD->Pos->ay:=λ_ _ _ _ _=>d)(kWhile:aU->List cD->List cD->Pos->ay:=λ_ _ _ _=>d)(kIf:aU->List cD->List cD->Pos->ay:=λ_ _ _ _=>d)(kRaise:Option aU->Option aU->Pos->ay:=λ_ _ _=>d)(kTry:List cD->List ExceptHandler->List cD->List cD->Pos->ay:=λ_ _ _ _ _=>d)(kExpr:aU->Pos->ay:=λ_ _=>d)(kPass:Pos->ay:=λ_=>d)(kBreak:Pos->ay:=λ_=>d):ay:=
 Stmt.casesOn (motive_2:=λ_=>ay) e kFunctionDef (λ_ _ _ _ _ _ _ _ _ _=>d) kClassDef kReturn kDelete kAssign (λ_ _ _ _ _ _ _=>d) kAugAssign (λ_ _ _ _ _=>d) kFor (λ_ _ _ _ _=>d) kWhile kIf (λ_ _ _=>d) (λ_ _ _=>d) (λ_ _ _=>d) kRaise kTry (λ_ _ _ _ _=>d) (λ_ _ _=>d) (λ_ _=>d) (λ_ _ _ _=>d) (λ_ _=>d) (λ_ _=>d) kExpr kPass kBreak (λ_=>d)
end Mine.Internal
end
noncomputable section
set_option tactic.hygienic true
namespace Mine.Internal
open PySem PySem.W
noncomputable abbrev prog:uG:=PySem.Challenge.pw_nz0227_01
noncomputable abbrev r(a:Nat):aG:=.ref a
noncomputable abbrev i(k:Int):aG:=.int k 0
noncomputable abbrev z(x:String):Str:=oi x
noncomputable abbrev s(x:String)(t:Nat):aG:=.str (oi x) t
noncomputable abbrev e(P:cB)(x:String)(t:Nat)(v:aG):hT:=⟨wA P (oi x),.str (oi x) t,v⟩
noncomputable def bw:List cD->Nat->cD
 | [],_=>.Pass jQ
 |a::_,0=>a
 |_::l,k+1=>bw l k
noncomputable def bf(k:Nat):cD:=bw prog.main.body k
noncomputable abbrev bQ:Str:=z "self"
noncomputable abbrev bS:Str:=z "number"
noncomputable abbrev cu:Str:=z "image"
noncomputable abbrev dH:Str:=z "size"
noncomputable abbrev dP:Str:=z "disk"
noncomputable abbrev dQ:Str:=z "place"
noncomputable abbrev d2:Str:=z "octets"
noncomputable abbrev ey:Str:=z "touched"
noncomputable abbrev ew:Str:=z "files"
noncomputable abbrev eB:Str:=z "nodes"
noncomputable abbrev eC:Str:=z "places"
noncomputable abbrev eP:Str:=z "rows"
noncomputable abbrev eX:Str:=z "writes"
noncomputable abbrev e5:Str:=z "numbers"
noncomputable abbrev e4:Str:=z "at"
noncomputable abbrev fU:Str:=z "cache"
noncomputable abbrev fV:Str:=z "n"
noncomputable abbrev gf:Str:=z "data"
noncomputable abbrev gC:Str:=z "told"
noncomputable abbrev gL:Str:=z "script"
noncomputable abbrev gT:Str:=z "offset"
noncomputable abbrev hl:Str:=z "journal"
noncomputable abbrev hm:Str:=z "value"
noncomputable abbrev hC:Str:=z "done"
noncomputable abbrev hO:Str:=z "super"
noncomputable abbrev h5:Str:=z "node"
noncomputable abbrev iq:Str:=z "pair"
noncomputable abbrev io:Str:=z "due"
noncomputable abbrev ip:Str:=z "marks"
noncomputable abbrev iH:Str:=z "file"
noncomputable abbrev iY:Str:=z "block"
noncomputable abbrev iZ:Str:=z "holders"
noncomputable abbrev jc:Str:=z "row"
noncomputable abbrev kU:Str:=z "reason"
noncomputable abbrev lA:Str:=z "direct"
noncomputable abbrev l4:Str:=z "append"
noncomputable abbrev l5:Str:=z "plan"
noncomputable abbrev mK:Str:=z "write"
noncomputable abbrev mG:Str:=z "blocks"
noncomputable abbrev mH:Str:=z "calls"
noncomputable abbrev mJ:Str:=z "part"
noncomputable abbrev mI:Str:=z "index"
noncomputable abbrev nc:Str:=z "pins"
noncomputable abbrev na:Str:=z "found"
noncomputable abbrev nb:Str:=z "one"
noncomputable abbrev nY:Str:=z "get"
noncomputable abbrev nZ:Str:=z "most"
noncomputable abbrev nX:Str:=z "from_log"
noncomputable abbrev o0:Str:=z "release"
noncomputable abbrev oZ:Str:=z "buffer"
noncomputable abbrev pW:Str:=z "__init__"
noncomputable abbrev pY:Str:=z "unflushed"
noncomputable abbrev pX:Str:=z "flushes"
noncomputable abbrev q7:Str:=z "flush"
noncomputable abbrev q9:Str:=z "update"
noncomputable abbrev q8:Str:=z "start"
noncomputable abbrev sC:Str:=z "begin"
noncomputable abbrev sD:Str:=z "by_number"
noncomputable abbrev sE:Str:=z "commits"
noncomputable abbrev sF:Str:=z "rest"
noncomputable abbrev sB:Str:=z "NoRoom"
noncomputable abbrev t0:Str:=z "noted"
noncomputable abbrev v7:Str:=z "data_start"
noncomputable abbrev yO:Str:=z "has_room"
noncomputable abbrev yP:Str:=z "last_flush"
noncomputable abbrev yN:Str:=z "ValueError"
noncomputable abbrev BM:Str:=z "inode_start"
noncomputable abbrev BL:Str:=z "bitmap_start"
noncomputable def aab(s:cD):List cD:=oS s [] (kClassDef:=λ_ _ _ b _ _ _ _ _ _ _=>b)
noncomputable def aL(k j:Nat):cD:=bw (aab (bf k)) j
noncomputable def fF(s:cD):Arguments:=oS s jQ (kFunctionDef:=λ_ a _ _ _ _ _ _ _ _=>a)
noncomputable def aW(s:cD):List cD:=oS s [] (kFunctionDef:=λ_ _ b _ _ _ _ _ _ _=>b)
noncomputable def dO(s:cD):jA:=oS s jQ (kFunctionDef:=λ_ _ _ _ _ _ sc _ _ _=>sc)
noncomputable abbrev fn(st:cD)(nm anl:String)(aB:Nat)(Ac ajk i5:aG)(bi:Nat):Data:=
 .func {name:=z nm,qualname:=z anl,params:=fF st,body:=.stmts (aW st),scope:=dO st,globals:=aB,closure:=[],defaults:=Ac,kwdefaults:=.none,doc:=.none,pyModule:=ajk,annotations:=ac,code:=i5,closureTuple:=.none,builtins:=bi}
noncomputable abbrev n(o:Obj)(l r:BT):BT:=.node o l r
noncomputable abbrev a4:Obj:=⟨.type "tuple",ac,.seq #[] 0,#[]⟩
noncomputable abbrev bY:Obj:=⟨.none,ac,.fields #[],#[]⟩
noncomputable def ape(l:List String):Nat->List aG:=l.rec (λ_=>[]) λx _ k t=>s x t::k (t+1)
noncomputable def sk(l:List aG):Obj:=⟨.type "tuple",ac,.seq ⟨l⟩ 0,#[]⟩
noncomputable def nt(t:Nat)(l:List String):Obj:=sk (ape l t)
noncomputable def l9(d:cD)(a b:String):Obj:=⟨.none,ac,fn d a b 0 .none .none .none 0,#[]⟩
noncomputable def dJ(d:cD)(a b c:String)(t k:Nat):Obj:=⟨.type "function",ac,fn d a b 3 .none (s c t) (r k) 0,#[]⟩
noncomputable def RE(k:Nat)(l:List (Nat×Nat)):List aG:=l.rec [] λx _ y=>i x.1::i k::r x.2::y
noncomputable def lt(k:Nat)(l:List (Nat×Nat)):Obj:=⟨.none,ac,.fields ⟨RE k l⟩,#[]⟩
noncomputable def fs(t:String)(l:List aG):Obj:=⟨.type t,ac,.fields ⟨l⟩,#[]⟩
noncomputable def mX(a b:Nat)(m:String)(t:Nat):Obj:=⟨.type "frame",ac,.plain,#[J (r a),J (r 3),J (r b),ac,J (s m t),ac,J (r 0)]⟩
noncomputable def hI(l:List hT)(n:Nat):Obj:=⟨.type "dict",ac,.dict ⟨l⟩ n,#[]⟩
noncomputable def HL(a b:String)(t l n k:Nat)(f:Bool)(c:Nat)(x y z:aG)(u:Nat):Obj:=
 fs "code" [s a t,s b (t+1),s "/claim/cut.py" (t+2),i l,i n,i 0,i 0,i k,r c,.bool f,i 181,r (c+1),.none,x,y,z,i u,i l,s "/claim/cut.py" (u+1)]
noncomputable def co(a b:String)(t l n c k:Nat):Obj:=HL a b t l n 3 ae c (r (c+2)) (r (c+3)) (r (c+4)) (t+3+k)
noncomputable def dy(a b:String)(t l n c k:Nat):Obj:=HL a b t l n 3 ae c .none .none (r (c+2)) (t+3+k)
noncomputable def nz(a b:String)(t l c:Nat):Obj:=HL a b t l 0 0 aA c .none .none .none (t+3)
noncomputable def cl(a:String)(b m:List aG)(n:Nat)(u:List aG)(v:Array (Option aG)):Obj:=
 ⟨.type "type",ac,.cls {name:=z a,bases:=b,mro:=m,ns:=n,qualname:=z a,hasDict:=ae,slotNames:=[],subclasses:=u,abstract:=aA,collection:=ac,hasDel:=aA},v⟩
noncomputable def fd(d:cD)(a b:String)(m:String×Nat)(t l n c:Nat)(s:List String)(i:Nat):Obj:=
 i.rec (l9 d a b) λi _=>i.rec (co a b t l n c s.length) λi _=>i.rec (dJ d a b m.1 m.2 (c+5)) λ_ _=>nt (t+3) s
noncomputable abbrev ar(o:Obj):BT:=.node o .nil .nil
noncomputable abbrev ov:Obj:=fs "builtin_function_or_method" [.builtin "type.__prepare__",.type "type"]
noncomputable def oT(a:Nat):Obj:=fs "super" [r a,r a,r a]
noncomputable def bs(a:Nat):Obj:=fs "builtin_function_or_method" [.builtin "object.__init_subclass__",r a]
noncomputable def tB(t a:Nat):Obj:=fs "getset_descriptor" [s "__weakref__" t,r a,.builtin "ExceptionGroup.__weakref__",.none]
noncomputable def va(t a:Nat):Obj:=fs "getset_descriptor" [s "__dict__" t,r a,.builtin "function.__dict__",.builtin "function.__dict__#set"]
noncomputable def c0(x:String)(c d t:Nat):Obj:=cl x [.type "object"] [r c,.type "object"] d [] #[ac,ac,J (s x t),J (s x (t+8)),J (.builtin "object.__new__"),J (.bool ae)]
noncomputable def dv(x:String)(c d b t:Nat):Obj:=cl x [r 39] [r c,r 39,.type "ValueError",.type "Exception",.type "BaseException",.type "object"] d [] #[J (r b),ac,J (s x t),J (s x (t+8)),J (.builtin "ValueError.__new__"),J (.bool ae)]
noncomputable def tv(l x:List hT):List hT:=l.take 1++(l.drop 2++x)
noncomputable def m(P:cB)(x:String)(t a:Nat):hT:=e P x t (r a)
noncomputable def dw(P:cB)(x:String)(t:Nat)(k:Int):hT:=e P x (t+1) (.int k t)
noncomputable def fc(P:cB)(l:List String):Nat->List hT->List hT:=l.rec (λ_ y=>y) λx _ k t y=>e P x t (.builtin x)::k (t+1) y
noncomputable def rY(P:cB)(l:List String):Nat->List hT->List hT:=l.rec (λ_ y=>y) λx _ k t y=>e P x t (.type x)::k (t+1) y
noncomputable def Vk:String×Nat:=("__main__",164)
noncomputable def Vl:String×Nat:=("pipeboard.errors",194)
noncomputable def fL:String×Nat:=("pipeboard.inodes",297)
noncomputable def hR:String×Nat:=("pipeboard.blocks",811)
noncomputable def o7:String×Nat:=("pipeboard.devices",1090)
noncomputable def n6:String×Nat:=("pipeboard.journal",1216)
noncomputable def Cd:String×Nat:=("law_nz0227_01",1366)
noncomputable def xS:=fd (bf 0) "_wall" "_wall" Vk 187 1 1 15 ["k"]
noncomputable def ES:=fd (aL 6 0) "__init__" "Crash.__init__" Vl 284 18 2 86 ["self","writes"]
noncomputable def xH:=fd (bf 16) "half_at" "half_at" fL 315 30 2 98 ["octets","at"]
noncomputable def xI:=fd (bf 17) "word_at" "word_at" fL 323 32 2 105 ["octets","at"]
noncomputable def xJ:=fd (bf 18) "put_half" "put_half" fL 331 34 3 112 ["octets","at","value"]
noncomputable def xK:=fd (bf 19) "put_word" "put_word" fL 340 37 3 119 ["octets","at","value"]
noncomputable def xL:=fd (bf 20) "rounded_up" "rounded_up" fL 349 40 2 126 ["count","size"]
noncomputable def xM:=fd (aL 21 1) "most_blocks" "Super.most_blocks" fL 381 66 1 148 ["self"]
noncomputable def xN:=fd (aL 21 2) "most_size" "Super.most_size" fL 388 69 1 155 ["self"]
noncomputable def xO:=fd (aL 21 3) "words" "Super.words" fL 395 72 1 162 ["self","data"]
noncomputable def xP:=fd (aL 21 4) "octets" "Super.octets" fL 403 76 1 169 ["self","found","at","value"]
noncomputable def xQ:=fd (aL 21 5) "row_of" "Super.row_of" fL 413 82 2 176 ["self","number"]
noncomputable def xR:=fd (aL 21 6) "bit_of" "Super.bit_of" fL 421 85 2 183 ["self","number","octet"]
noncomputable def xT:=fd (aL 22 0) "__init__" "Node.__init__" fL 462 90 3 204 ["self","nodes","number"]
noncomputable def Eo:=fd (aL 22 1) "is_directory" "Node.is_directory" fL 471 101 1 211 ["self"]
noncomputable def q1:=fd (aL 22 3) "put_row" "Node.put_row" fL 484 112 3 223 ["self","octets","at","place","number"]
noncomputable def Ep:=fd (aL 22 4) "stat" "Node.stat" fL 495 121 1 230 ["self"]
noncomputable def Er:=fd (aL 22 5) "read" "Node.read" fL 502 124 3 237 ["self","offset","count"]
noncomputable def xU:=fd (aL 22 6) "write" "Node.write" fL 511 127 3 244 ["self","offset","octets"]
noncomputable def xV:=fd (aL 22 7) "truncate" "Node.truncate" fL 520 130 1 251 ["self"]
noncomputable def xW:=fd (aL 22 8) "update" "Node.update" fL 527 133 1 258 ["self"]
noncomputable def xX:=fd (aL 22 9) "hold" "Node.hold" fL 534 136 1 265 ["self"]
noncomputable def Es:=fd (aL 22 10) "put" "Node.put" fL 541 140 1 272 ["self"]
noncomputable def xY:=fd (aL 23 0) "__init__" "Nodes.__init__" fL 577 144 3 293 ["self","journal","super_block"]
noncomputable def xZ:=fd (aL 23 1) "need_number" "Nodes.need_number" fL 586 150 2 300 ["self","number"]
noncomputable def Et:=fd (aL 23 2) "kind_at" "Nodes.kind_at" fL 594 154 2 307 ["self","number"]
noncomputable def x0:=fd (aL 23 3) "get" "Nodes.get" fL 602 157 2 314 ["self","number","block","at","node","buffer"]
noncomputable def x1:=fd (aL 23 5) "update" "Nodes.update" fL 626 174 2 329 ["self","node","block","at","buffer"]
noncomputable def Eu:=fd (aL 23 6) "share" "Nodes.share" fL 637 181 2 336 ["self","node"]
noncomputable def Ev:=fd (aL 23 7) "put" "Nodes.put" fL 645 184 2 343 ["self","node"]
noncomputable def Ew:=fd (aL 23 8) "reclaim" "Nodes.reclaim" fL 653 187 1 350 ["self"]
noncomputable def x2:=fd (aL 23 9) "take_block" "Nodes.take_block" fL 660 190 1 357 ["self","number","place","buffer","taken","at","bit"]
noncomputable def x3:=fd (aL 23 10) "free_bit" "Nodes.free_bit" fL 673 207 4 364 ["self","data","place","number","block","at","bit"]
noncomputable def x4:=fd (aL 23 11) "clear_block" "Nodes.clear_block" fL 686 215 2 371 ["self","number","buffer"]
noncomputable def x5:=fd (aL 23 12) "give_block" "Nodes.give_block" fL 695 221 2 378 ["self","number","place","at","bit","buffer","was_taken"]
noncomputable def Ex:=fd (aL 23 13) "free_blocks" "Nodes.free_blocks" fL 708 234 1 385 ["self"]
noncomputable def x6:=fd (aL 23 14) "block_of" "Nodes.block_of" fL 715 237 4 392 ["self","node","index","make","direct"]
noncomputable def Ey:=fd (aL 23 15) "named_block" "Nodes.named_block" fL 726 251 4 399 ["self","names","index","make","buffer","found"]
noncomputable def Ez:=fd (aL 23 16) "read" "Nodes.read" fL 738 263 4 406 ["self","node","offset","count","end","found","start","part","number","buffer"]
noncomputable def x7:=fd (aL 23 17) "write" "Nodes.write" fL 754 281 4 413 ["self","node","offset","octets","done","part"]
noncomputable def x8:=fd (aL 23 18) "write_part" "Nodes.write_part" fL 766 297 5 420 ["self","node","offset","octets","done","number","start","part","buffer"]
noncomputable def x9:=fd (aL 23 19) "truncate" "Nodes.truncate" fL 781 310 2 427 ["self","node","direct","index","names","number"]
noncomputable def ya:=fd (aL 25 0) "__init__" "Buffer.__init__" hR 825 332 3 453 ["self","number","octets"]
noncomputable def yb:=fd (aL 25 1) "is_free" "Buffer.is_free" hR 834 338 1 460 ["self"]
noncomputable def yc:=fd (aL 25 2) "octets" "Buffer.octets" hR 841 341 1 467 ["self"]
noncomputable def EA:=fd (aL 25 3) "need_part" "Buffer.need_part" hR 848 344 3 474 ["self","place","count"]
noncomputable def EB:=fd (aL 25 4) "take" "Buffer.take" hR 857 348 3 481 ["self","place","count"]
noncomputable def EC:=fd (aL 25 5) "put" "Buffer.put" hR 866 352 3 488 ["self","place","octets"]
noncomputable def yd:=fd (aL 25 6) "fill" "Buffer.fill" hR 875 355 2 495 ["self","octets"]
noncomputable def ye:=fd (aL 25 7) "clear" "Buffer.clear" hR 883 360 1 502 ["self"]
noncomputable def EE:=fd (aL 25 8) "little" "Buffer.little" hR 890 363 3 509 ["self","place","count"]
noncomputable def EF:=fd (aL 25 9) "put_little" "Buffer.put_little" hR 899 366 4 516 ["self","place","count","value"]
noncomputable def EG:=fd (aL 25 10) "bit" "Buffer.bit" hR 909 369 2 523 ["self","place"]
noncomputable def EH:=fd (aL 25 11) "put_bit" "Buffer.put_bit" hR 917 373 3 530 ["self","place","value"]
noncomputable def yf:=fd (aL 26 0) "__init__" "Cache.__init__" hR 950 377 3 551 ["self","disk","most"]
noncomputable def yg:=fd (aL 26 1) "need_block" "Cache.need_block" hR 959 389 2 558 ["self","number"]
noncomputable def yh:=fd (aL 26 2) "need_held" "Cache.need_held" hR 967 393 2 565 ["self","buffer"]
noncomputable def yi:=fd (aL 26 3) "get" "Cache.get" hR 975 397 2 572 ["self","number","found"]
noncomputable def yj:=fd (aL 26 4) "make_room" "Cache.make_room" hR 984 411 1 579 ["self","place","buffer"]
noncomputable def yk:=fd (aL 26 5) "release" "Cache.release" hR 993 421 2 586 ["self","buffer"]
noncomputable def yl:=fd (aL 26 6) "pin" "Cache.pin" hR 1001 428 2 593 ["self","buffer"]
noncomputable def ym:=fd (aL 26 7) "unpin" "Cache.unpin" hR 1009 432 2 600 ["self","number","found"]
noncomputable def yn:=fd (aL 26 8) "write" "Cache.write" hR 1018 438 2 607 ["self","buffer"]
noncomputable def yo:=fd (aL 26 9) "flush" "Cache.flush" hR 1026 443 1 614 ["self"]
noncomputable def yp:=fd (aL 26 10) "peek" "Cache.peek" hR 1033 446 2 621 ["self","number","buffer","octets"]
noncomputable def yq:=fd (aL 26 11) "poke" "Cache.poke" hR 1043 452 3 628 ["self","number","octets","buffer"]
noncomputable def EI:=fd (aL 26 12) "known" "Cache.known" hR 1053 458 1 635 ["self"]
noncomputable def EJ:=fd (aL 26 13) "free_count" "Cache.free_count" hR 1060 461 1 642 ["self"]
noncomputable def EK:=fd (aL 26 14) "forget" "Cache.forget" hR 1067 464 1 649 ["self"]
noncomputable def yr:=fd (aL 28 0) "__init__" "Disk.__init__" o7 1104 469 3 670 ["self","blocks","size"]
noncomputable def ys:=fd (aL 28 1) "need_power" "Disk.need_power" o7 1113 483 1 677 ["self"]
noncomputable def yt:=fd (aL 28 2) "need_block" "Disk.need_block" o7 1120 487 2 684 ["self","number"]
noncomputable def yu:=fd (aL 28 3) "read" "Disk.read" o7 1128 491 2 691 ["self","number"]
noncomputable def yv:=fd (aL 28 4) "write" "Disk.write" o7 1136 496 3 698 ["self","number","octets"]
noncomputable def EL:=fd (aL 28 5) "fail" "Disk.fail" o7 1145 507 1 705 ["self"]
noncomputable def yw:=fd (aL 28 6) "flush" "Disk.flush" o7 1152 511 1 712 ["self","number","octets"]
noncomputable def EM:=fd (aL 28 7) "stop_after" "Disk.stop_after" o7 1161 520 2 719 ["self","count"]
noncomputable def EN:=fd (aL 28 8) "stop_at_flush" "Disk.stop_at_flush" o7 1169 525 2 726 ["self","count"]
noncomputable def EO:=fd (aL 28 9) "after" "Disk.after" o7 1177 530 2 733 ["self","chosen"]
noncomputable def EP:=fd (aL 28 10) "copy" "Disk.copy" o7 1185 533 1 740 ["self"]
noncomputable def yx:=fd (aL 34 1) "is_own" "Journal.is_own" n6 1253 569 2 779 ["self","number"]
noncomputable def yy:=fd (aL 34 2) "has_room" "Journal.has_room" n6 1261 572 1 786 ["self"]
noncomputable def yz:=fd (aL 34 3) "left" "Journal.left" n6 1268 575 1 793 ["self"]
noncomputable def yA:=fd (aL 34 4) "begin" "Journal.begin" n6 1275 578 1 800 ["self"]
noncomputable def yB:=fd (aL 34 5) "write" "Journal.write" n6 1282 583 2 807 ["self","buffer"]
noncomputable def yC:=fd (aL 34 6) "end" "Journal.end" n6 1290 597 1 814 ["self"]
noncomputable def yD:=fd (aL 34 7) "commit" "Journal.commit" n6 1297 604 1 821 ["self","number"]
noncomputable def yE:=fd (aL 34 8) "fill_log" "Journal.fill_log" n6 1305 615 1 828 ["self","place","number"]
noncomputable def yF:=fd (aL 34 9) "write_head" "Journal.write_head" n6 1314 620 2 835 ["self","numbers"]
noncomputable def yG:=fd (aL 34 10) "install" "Journal.install" n6 1322 624 3 842 ["self","numbers","from_log","place","number","octets"]
noncomputable def EQ:=fd (aL 34 11) "pending" "Journal.pending" n6 1334 630 1 849 ["self"]
noncomputable def ER:=fd (aL 34 12) "recover" "Journal.recover" n6 1341 633 1 856 ["self"]
noncomputable def yH:=fd (bf 37) "_law_row" "_law_row" Cd 1374 638 4 875 ["image","number","places","size","row","place","block","at"]
noncomputable def yI:=fd (bf 40) "_law_put" "_law_put" Cd 1400 658 5 892 ["image","file","offset","octets","touched","done","index","at","block","part"]
noncomputable def yJ:=fd (bf 42) "_law_deed" "_law_deed" Cd 1422 684 2 904 ["rows","n","node","rest"]
noncomputable def yK:=fd (bf 43) "_law_has_room" "_law_has_room" Cd 1432 689 1 911 ["journal"]
noncomputable def AS(P:cB):List hT:=[e P "__module__" 203 (s "pipeboard.errors" 194),e P "__qualname__" 205 (s "BoardError" 204),dw P "__firstlineno__" 206 5,m P "__init__" 216 36,m P "__static_attributes__" 218 37]
noncomputable def Rb(P:cB):List hT:=[e P "__module__" 364 (s "pipeboard.inodes" 297),e P "__qualname__" 366 (s "Super" 365),dw P "__firstlineno__" 367 42,m P "__init__" 380 147,m P "most_blocks" 387 154,m P "most_size" 394 161,m P "words" 402 168,m P "octets" 412 175,m P "row_of" 420 182,m P "bit_of" 429 189,m P "__static_attributes__" 442 190]
noncomputable def Re(P:cB):List hT:=[e P "__module__" 457 (s "pipeboard.inodes" 297),e P "__qualname__" 459 (s "Node" 458),dw P "__firstlineno__" 460 88,m P "__init__" 470 210,m P "is_directory" 477 217,m P "take_row" 483 222,m P "put_row" 494 229,m P "stat" 501 236,m P "read" 510 243,m P "write" 519 250,m P "truncate" 526 257,m P "update" 533 264,m P "hold" 540 271,m P "put" 547 278,m P "__static_attributes__" 557 279]
noncomputable def Rf(P:cB):List hT:=[e P "__module__" 572 (s "pipeboard.inodes" 297),e P "__qualname__" 574 (s "Nodes" 573),dw P "__firstlineno__" 575 142,m P "__init__" 585 299,m P "need_number" 593 306,m P "kind_at" 601 313,m P "get" 613 320,m P "allocate" 625 328,m P "update" 636 335,m P "share" 644 342,m P "put" 652 349,m P "reclaim" 659 356,m P "take_block" 672 363,m P "free_bit" 685 370,m P "clear_block" 694 377,m P "give_block" 707 384,m P "free_blocks" 714 391,m P "block_of" 725 398,m P "named_block" 737 405,m P "read" 753 412,m P "write" 765 419,m P "write_part" 780 426,m P "truncate" 792 433,m P "names_in" 798 438,m P "__static_attributes__" 803 439]
noncomputable def Rg(P:cB):List hT:=[e P "__module__" 820 (s "pipeboard.blocks" 811),e P "__qualname__" 822 (s "Buffer" 821),dw P "__firstlineno__" 823 330,m P "__init__" 833 459,m P "is_free" 840 466,m P "octets" 847 473,m P "need_part" 856 480,m P "take" 865 487,m P "put" 874 494,m P "fill" 882 501,m P "clear" 889 508,m P "little" 898 515,m P "put_little" 908 522,m P "bit" 916 529,m P "put_bit" 925 536,m P "__static_attributes__" 930 537]
noncomputable def Rh(P:cB):List hT:=[e P "__module__" 945 (s "pipeboard.blocks" 811),e P "__qualname__" 947 (s "Cache" 946),dw P "__firstlineno__" 948 375,m P "__init__" 958 557,m P "need_block" 966 564,m P "need_held" 974 571,m P "get" 983 578,m P "make_room" 992 585,m P "release" 1000 592,m P "pin" 1008 599,m P "unpin" 1017 606,m P "write" 1025 613,m P "flush" 1032 620,m P "peek" 1042 627,m P "poke" 1052 634,m P "known" 1059 641,m P "free_count" 1066 648,m P "forget" 1073 655,m P "__static_attributes__" 1082 656]
noncomputable def Rj(P:cB):List hT:=[e P "__module__" 1099 (s "pipeboard.devices" 1090),e P "__qualname__" 1101 (s "Disk" 1100),dw P "__firstlineno__" 1102 467,m P "__init__" 1112 676,m P "need_power" 1119 683,m P "need_block" 1127 690,m P "read" 1135 697,m P "write" 1144 704,m P "fail" 1151 711,m P "flush" 1160 718,m P "stop_after" 1168 725,m P "stop_at_flush" 1176 732,m P "after" 1184 739,m P "copy" 1191 746,m P "image" 1197 751,m P "__static_attributes__" 1208 752]
noncomputable def Rk(P:cB):List hT:=[e P "__module__" 1237 (s "pipeboard.journal" 1216),e P "__qualname__" 1239 (s "Journal" 1238),dw P "__firstlineno__" 1240 549,m P "__init__" 1252 778,m P "is_own" 1260 785,m P "has_room" 1267 792,m P "left" 1274 799,m P "begin" 1281 806,m P "write" 1289 813,m P "end" 1296 820,m P "commit" 1304 827,m P "fill_log" 1313 834,m P "write_head" 1321 841,m P "install" 1333 848,m P "pending" 1340 855,m P "recover" 1347 862,m P "__static_attributes__" 1358 863]
noncomputable def vy(P:cB):Obj:=hI (e P "__name__" 1 (s "builtins" 160)::e P "__doc__" 2 (.builtin "builtins.__doc__:str#opaque")::e P "__package__" 3 (.builtin "builtins.__package__:str#opaque")::e P "__loader__" 4 (.builtin "builtins.__loader__:shared#opaque")::e P "__spec__" 5 (.builtin "builtins.__spec__#opaque")::(fc P ["__build_class__","__import__","abs","all","any","ascii","bin","breakpoint","callable","chr","compile","delattr","dir","divmod","eval","exec","format","getattr","globals","hasattr","hash","hex","id","input","isinstance","issubclass","iter","aiter","len","locals","max","min","next","anext","oct","ord","pow","print","repr","round","setattr","sorted","sum","vars"] 6 (e P "None" 50 .none::e P "Ellipsis" 51 .ellipsis::e P "NotImplemented" 52 .notImplemented::e P "False" 53 (.bool aA)::e P "True" 54 (.bool ae)::(rY P ["bool","memoryview","bytearray","bytes","classmethod","complex","dict","enumerate","filter","float","frozenset","property","int","list","map","object","range","reversed","set","slice","staticmethod","str","super","tuple","type","zip"] 55 (e P "__debug__" 81 (.bool ae)::(rY P ["BaseException","BaseExceptionGroup","Exception","GeneratorExit","KeyboardInterrupt","SystemExit","ArithmeticError","AssertionError","AttributeError","BufferError","EOFError","ImportError","LookupError","MemoryError","NameError","OSError","ReferenceError","RuntimeError","StopAsyncIteration","StopIteration","SyntaxError","SystemError","TypeError","ValueError","Warning","FloatingPointError","OverflowError","ZeroDivisionError","BytesWarning","DeprecationWarning","EncodingWarning","FutureWarning","ImportWarning","PendingDeprecationWarning","ResourceWarning","RuntimeWarning","SyntaxWarning","UnicodeWarning","UserWarning","BlockingIOError","ChildProcessError","ConnectionError","FileExistsError","FileNotFoundError","InterruptedError","IsADirectoryError","NotADirectoryError","PermissionError","ProcessLookupError","TimeoutError","IndentationError","_IncompleteInputError","IndexError","KeyError","ModuleNotFoundError","NotImplementedError","PythonFinalizationError","RecursionError","UnboundLocalError","UnicodeError","BrokenPipeError","ConnectionAbortedError","ConnectionRefusedError","ConnectionResetError","TabError","UnicodeDecodeError","UnicodeEncodeError","UnicodeTranslateError","ExceptionGroup"] 82 [e P "EnvironmentError" 151 (.type "OSError"),e P "IOError" 152 (.type "OSError"),e P "open" 153 (.builtin "open"),e P "quit" 154 (.builtin "builtins.quit#opaque"),e P "exit" 155 (.builtin "builtins.exit#opaque"),e P "copyright" 156 (.builtin "builtins.copyright#opaque"),e P "credits" 157 (.builtin "builtins.credits#opaque"),e P "license" 158 (.builtin "builtins.license#opaque"),e P "help" 159 (.builtin "builtins.help#opaque")])))))) 159
noncomputable def dx(P:cB):Obj:=hI [m P "builtins" 162 4,m P "__main__" 163 5] 2
noncomputable def en:Obj:=⟨.none,ac,(.dict #[] 0),#[]⟩
noncomputable def aiL(P:cB):Obj:=hI [] 0
noncomputable def aiF(P:cB):Obj:=hI (AS P) 5
noncomputable def JW:Obj:=nt 208 [""]
noncomputable def R6:Obj:=co "__init__" "BoardError.__init__" 209 7 2 30 2
noncomputable def JX:Obj:=⟨(.type "function"),ac,(fn (aL 2 0) "__init__" "BoardError.__init__" 3 (r 29) (s "pipeboard.errors" 194) (r 35) 0),#[]⟩
noncomputable def R7(P:cB):Obj:=hI (tv (AS P) [m P "__weakref__" 220 40,e P "__doc__" 221 .none]) 3
noncomputable def aiI(P:cB):Obj:=hI [e P "__module__" 231 (s "pipeboard.errors" 194),e P "__qualname__" 233 (s "BadArgument" 232),dw P "__firstlineno__" 234 10,m P "__static_attributes__" 236 50] 4
noncomputable def Sa(P:cB):Obj:=hI [e P "__module__" 231 (s "pipeboard.errors" 194),dw P "__firstlineno__" 234 10,m P "__static_attributes__" 236 50,e P "__doc__" 237 .none] 2
noncomputable def Sb:Obj:=dv "BadArgument" 52 51 43 224
noncomputable def aiK(P:cB):Obj:=hI [e P "__module__" 247 (s "pipeboard.errors" 194),e P "__qualname__" 249 (s "BadDisk" 248),dw P "__firstlineno__" 250 12,m P "__static_attributes__" 252 62] 4
noncomputable def Sc(P:cB):Obj:=hI [e P "__module__" 247 (s "pipeboard.errors" 194),dw P "__firstlineno__" 250 12,m P "__static_attributes__" 252 62,e P "__doc__" 253 .none] 2
noncomputable def Sd:Obj:=dv "BadDisk" 64 63 55 240
noncomputable def aiN(P:cB):Obj:=hI [e P "__module__" 263 (s "pipeboard.errors" 194),e P "__qualname__" 265 (s "NoRoom" 264),dw P "__firstlineno__" 266 14,m P "__static_attributes__" 268 74] 4
noncomputable def Sg(P:cB):Obj:=hI [e P "__module__" 263 (s "pipeboard.errors" 194),dw P "__firstlineno__" 266 14,m P "__static_attributes__" 268 74,e P "__doc__" 269 .none] 2
noncomputable def Sj:Obj:=dv "NoRoom" 76 75 67 256
noncomputable def aiP(P:cB):Obj:=hI [e P "__module__" 279 (s "pipeboard.errors" 194),e P "__qualname__" 281 (s "Crash" 280),dw P "__firstlineno__" 282 16,m P "__init__" 291 92,m P "__static_attributes__" 293 93] 5
noncomputable def aiQ(P:cB):Obj:=hI [e P "__module__" 279 (s "pipeboard.errors" 194),dw P "__firstlineno__" 282 16,m P "__init__" 291 92,m P "__static_attributes__" 293 93,e P "__doc__" 294 .none] 2
noncomputable def aiD(P:cB):Obj:=hI (Rb P) 11
noncomputable def JT:Obj:=sk [(.int 12 305)]
noncomputable def R0:Obj:=co "__init__" "Super.__init__" 369 44 6 141 6
noncomputable def JU:Obj:=⟨(.type "function"),ac,(fn (aL 21 0) "__init__" "Super.__init__" 3 (r 140) (s "pipeboard.inodes" 297) (r 146) 0),#[]⟩
noncomputable def R1(P:cB):Obj:=hI (tv (Rb P) [m P "__dict__" 444 193,m P "__weakref__" 446 194,e P "__doc__" 447 .none]) 4
noncomputable def R2:Obj:=c0 "Super" 192 191 357
noncomputable def aiE(P:cB):Obj:=hI (Re P) 15
noncomputable def R3:Obj:=dy "take_row" "Node.take_row" 478 104 4 218 0
noncomputable def JV:Obj:=dJ (aL 22 2) "take_row" "Node.take_row" "pipeboard.inodes" 297 221
noncomputable def R4(P:cB):Obj:=hI (tv (Re P) [m P "__dict__" 559 282,m P "__weakref__" 561 283,e P "__doc__" 562 .none]) 4
noncomputable def R5:Obj:=c0 "Node" 281 280 450
noncomputable def aiG(P:cB):Obj:=hI (Rf P) 25
noncomputable def R8(P:cB):Obj:=hI (tv (Rf P) [m P "__dict__" 805 442,m P "__weakref__" 807 443,e P "__doc__" 808 .none]) 4
noncomputable def R9:Obj:=c0 "Nodes" 441 440 565
noncomputable def aiH(P:cB):Obj:=hI (Rg P) 16
noncomputable def xq(P:cB):Obj:=hI (tv (Rg P) [m P "__dict__" 932 540,m P "__weakref__" 934 541,e P "__doc__" 935 .none]) 4
noncomputable def JY:Obj:=c0 "Buffer" 539 538 813
noncomputable def aiJ(P:cB):Obj:=hI (Rh P) 19
noncomputable def Se(P:cB):Obj:=hI (tv (Rh P) [m P "__dict__" 1084 659,m P "__weakref__" 1086 660,e P "__doc__" 1087 .none]) 4
noncomputable def Sf:Obj:=c0 "Cache" 658 657 938
noncomputable def aiM(P:cB):Obj:=hI (Rj P) 16
noncomputable def Sh(P:cB):Obj:=hI (tv (Rj P) [m P "__dict__" 1210 755,m P "__weakref__" 1212 756,e P "__doc__" 1213 .none]) 4
noncomputable def Si:Obj:=c0 "Disk" 754 753 1092
noncomputable def Sk:Obj:=dy "packed_head" "packed_head" 1224 542 2 759 0
noncomputable def JZ:Obj:=dJ (bf 33) "packed_head" "packed_head" "pipeboard.journal" 1216 762
noncomputable def aiO(P:cB):Obj:=hI (Rk P) 17
noncomputable def J0:Obj:=sk [.none]
noncomputable def Sl:Obj:=co "__init__" "Journal.__init__" 1242 551 5 772 5
noncomputable def J1:Obj:=⟨(.type "function"),ac,(fn (aL 34 0) "__init__" "Journal.__init__" 3 (r 771) (s "pipeboard.journal" 1216) (r 777) 0),#[]⟩
noncomputable def Sm(P:cB):Obj:=hI (tv (Rk P) [m P "__dict__" 1360 866,m P "__weakref__" 1362 867,e P "__doc__" 1363 .none]) 4
noncomputable def Sn:Obj:=c0 "Journal" 865 864 1230
noncomputable def So:Obj:=dy "_law_octets" "_law_octets" 1368 636 2 870 0
noncomputable def J2:Obj:=dJ (bf 36) "_law_octets" "_law_octets" "law_nz0227_01" 1366 873
noncomputable def Sp:Obj:=dy "_law_image" "_law_image" 1388 645 1 882 0
noncomputable def J3:Obj:=dJ (bf 38) "_law_image" "_law_image" "law_nz0227_01" 1366 885
noncomputable def Sq:Obj:=dy "_law_taken" "_law_taken" 1394 652 2 887 0
noncomputable def J4:Obj:=dJ (bf 39) "_law_taken" "_law_taken" "law_nz0227_01" 1366 890
noncomputable def Sr:Obj:=dy "_law_due" "_law_due" 1416 671 4 899 0
noncomputable def J5:Obj:=dJ (bf 41) "_law_due" "_law_due" "law_nz0227_01" 1366 902
noncomputable def Ss:Obj:=dy "_law_group_right" "_law_group_right" 1439 695 6 918 0
noncomputable def J6:Obj:=dJ (bf 44) "_law_group_right" "_law_group_right" "law_nz0227_01" 1366 921
noncomputable def Su:Obj:=dy "law" "law" 1445 711 1 923 0
noncomputable def J7:Obj:=dJ (bf 45) "law" "law" "law_nz0227_01" 1366 926
noncomputable def T(P:cB)(l1 dY q4:Obj):BT:=(n (vy P) (n (dx P) (n l1 (n a4 (n a4 (n bY (n (Sc P) (n bY (n (xV 0) (ar (EE 3)) (ar a4)) (n (x5 1) (ar (EI 0)) (ar a4))) (n (R1 P) (n (x0 1) (ar a4) (ar a4)) (n ov (ar (yv 1)) .nil))) (n (dv "Crash" 95 94 79 272) (n (xN 0) (n ov (ar (bs 539)) (ar (yz 2))) (n (x7 3) (ar bY) (ar J7))) (n a4 (n bY (ar a4) (ar (nt 1348 ["cache","calls","commits","each","most","noted","numbers","places","size","start"]))) (n (EA 1) (ar (EO 3)) .nil)))) (n bY (n (sk [(r 39)]) (n (nt 372 ["self","block","blocks","inodes","log","direct"]) (n (xX 2) (ar (EG 0)) (ar (yx 0))) (n a4 (ar (EK 2)) (ar a4))) (n a4 (n (x1 2) (ar (yk 1)) (ar (yG 1))) (n a4 (ar a4) .nil))) (n (xI 2) (n (xP 2) (n a4 (ar bY) (ar bY)) (n (x9 0) (ar a4) .nil)) (n (Er 3) (n a4 (ar (yp 3)) (ar (yH 0))) (n a4 (ar (dJ (aL 28 11) "image" "Disk.image" "pipeboard.devices" 1090 750)) .nil))))) (n ov (n q4 (n bY (n (aiD P) (n (xW 1) (ar a4) (ar a4)) (n (Ex 2) (ar (EJ 1)) (ar J5))) (n (aiE P) (n (co "allocate" "Nodes.allocate" 616 171 4 322 4) (ar (yj 0)) (ar (yF 0))) (n (ya 3) (ar (EL 2)) .nil))) (n (xH 1) (n (xO 1) (n (xY 3) (ar a4) (ar a4)) (n a4 (ar (ys 3)) .nil)) (n bY (n (x2 3) (ar bY) (ar bY)) (n (EB 2) (ar a4) .nil)))) (n (sk [(r 39)]) (n bY (n a4 (n (nt 548 ["holders","kind","links","major","minor","nodes","number","places","size"]) (ar (EH 1)) (ar (yy 1))) (n bY (ar a4) (ar bY))) (n (Eo 0) (n a4 (ar (yl 2)) (ar (EQ 2))) (n (yc 0) (ar bY) .nil))) (n a4 (n a4 (n (Et 0) (ar (yh 3)) (ar (yD 3))) (n (nt 799 ["cache","journal","super","table"]) (ar (yu 0)) .nil)) (n a4 (n (x4 0) (ar a4) (ar a4)) (n bY (ar a4) .nil)))))) (n a4 (n (xS 0) (n R6 (n (sk [(r 39)]) (n (xL 1) (n bY (ar (EE 2)) (ar J0)) (n (Ex 3) (ar bY) (ar a4))) (n (oT 192) (n bY (ar a4) (ar a4)) (n (nz "Buffer" "Buffer" 815 330 449) (ar (EL 3)) .nil))) (n bY (n bY (n (nz "Nodes" "Nodes" 567 142 289) (ar a4) (ar a4)) (n (x7 2) (ar (yr 1)) .nil)) (n (q1 0) (n (Ew 1) (ar (yn 0)) (ar (tB 1361 865))) (n (EB 3) (ar (EO 2)) .nil)))) (n (Sa P) (n (lt 4 [(18,91)]) (n JU (n a4 (ar bY) (ar bY)) (n (Ey 0) (ar (va 1083 658)) (ar (yK 0)))) (n a4 (n a4 (ar (yl 3)) (ar (EQ 3))) (n a4 (ar (EM 0)) .nil))) (n a4 (n a4 (n a4 (ar (yg 1)) (ar (yC 1))) (n bY (ar a4) .nil)) (n (Er 2) (n a4 (ar (yp 2)) (ar bY)) (n (yd 0) (ar (va 1209 754)) .nil))))) (n (nz "BoardError" "BoardError" 198 5 25) (n (sk [(r 39)]) (n (Sg P) (n (mX 138 135 "pipeboard.inodes" 297) (n (xX 3) (ar a4) (ar a4)) (n a4 (ar (EK 3)) (ar a4))) (n (mX 202 199 "pipeboard.inodes" 297) (n (x1 3) (ar bY) (ar bY)) (n (ya 2) (ar a4) .nil))) (n (xI 3) (n (xP 3) (n (xY 2) (ar (yf 0)) (ar (yB 0))) (n a4 (ar (ys 2)) .nil)) (n (Ep 1) (n (x2 2) (ar (yo 1)) (ar a4)) (n a4 (ar a4) .nil)))) (n bY (n (ES 1) (n a4 (n (tB 560 281) (ar JY) (ar (yz 3))) (n (Ez 1) (ar (lt 4 [(469,675),(483,682),(487,689),(491,696),(496,703),(507,710),(511,717),(520,724),(525,731),(530,738),(533,745),(536,750)])) (ar a4))) (n bY (n (Ev 0) (ar a4) (ar a4)) (n bY (ar (EN 1)) .nil))) (n (xK 0) (n (xR 0) (n bY (ar (yh 2)) (ar (yD 2))) (n (tB 806 441) (ar bY) .nil)) (n a4 (n bY (ar a4) (ar J4)) (n (ye 1) (ar JZ) .nil))))))) (n ⟨(.type "module"),J 3,.plain,#[]⟩ (n ⟨(.type "code"),ac,(.fields #[(s "<module>" 176),(s "<module>" 177),(s "/claim/cut.py" 178),(i 1),(i 0),(i 0),(i 0),(i 0),(r 7),(.bool aA),(i 175),(r 8),.none,.none,.none,.none,(i 179),(i 1),(s "/claim/cut.py" 180)]),#[]⟩ (n (xS 3) (n a4 (n (oT 64) (n a4 (n (xV 2) (ar (EE 0)) (ar (nz "Journal" "Journal" 1232 549 767))) (n a4 (ar (EI 2)) (ar (yI 1)))) (n (va 443 192) (n (sk [(.int 0 614),(.int 0 615)]) (ar (yi 1)) (ar (yE 1))) (n a4 (ar a4) .nil))) (n (bs 95) (n (xN 2) (n a4 (ar ov) (ar bY)) (n (x7 0) (ar a4) .nil)) (n (q1 3) (n a4 (ar (yn 3)) (ar Sn)) (n a4 (ar (EO 0)) .nil)))) (n (mX 48 45 "pipeboard.errors" 194) (n (aiP P) (n (l9 (aL 21 0) "__init__" "Super.__init__") (n bY (ar (EG 2)) (ar (yx 2))) (n (Ey 3) (ar (Se P)) (ar (yK 3)))) (n (xT 1) (n bY (ar a4) (ar a4)) (n (yb 1) (ar (EM 3)) .nil))) (n bY (n bY (n (xZ 1) (ar a4) (ar a4)) (n (x9 2) (ar (yt 1)) .nil)) (n (Er 0) (n (x3 1) (ar (yp 0)) (ar (yH 2))) (n (yd 3) (ar (Sh P)) .nil))))) (n a4 (n (oT 39) (n (mX 72 69 "pipeboard.errors" 194) (n (lt 4 [(44,146),(66,153),(69,160),(72,167),(76,174),(82,181),(85,188)]) (n a4 (ar (EF 1)) (ar Sl)) (n bY (ar a4) (ar bY))) (n (lt 4 [(90,209),(101,216),(104,221),(112,228),(121,235),(124,242),(127,249),(130,256),(133,263),(136,270),(140,277)]) (n a4 (ar (yj 2)) (ar (yF 2))) (n (ya 0) (ar bY) .nil))) (n a4 (n a4 (n (xY 0) (ar (yf 3)) (ar (yB 3))) (n (x8 1) (ar (ys 0)) .nil)) (n a4 (n (x2 0) (ar a4) (ar So)) (n bY (ar (EP 1)) .nil)))) (n (aiK P) (n a4 (n (xM 1) (n R5 (ar (nt 926 ["data","holders","number","pins"])) (ar a4)) (n a4 (ar (aiM P)) (ar Ss))) (n (Eo 2) (n (Ev 3) (ar bY) (ar bY)) (n (yc 2) (ar a4) .nil))) (n (xK 3) (n (xR 3) (n (Et 2) (ar (yh 0)) (ar (yD 0))) (n R9 (ar (yu 2)) .nil)) (n (xU 1) (n (x4 2) (ar (yq 1)) (ar (l9 (bf 39) "_law_taken" "_law_taken"))) (n a4 (ar (l9 (bf 33) "packed_head" "packed_head")) .nil)))))) (n (nz "<module>" "<module>" 182 1 11) (n (xS 2) (n (nt 217 ["reason"]) (n (aiN P) (n a4 (n a4 (ar bY) (ar bY)) (n (Ex 0) (ar a4) (ar (l9 (bf 41) "_law_due" "_law_due")))) (n a4 (n a4 (ar (yj 3)) (ar (yF 3))) (n a4 (ar (EL 0)) .nil))) (n a4 (n a4 (n a4 (ar (nz "Cache" "Cache" 940 375 547)) (ar (yA 1))) (n bY (ar a4) .nil)) (n (q1 2) (n a4 (ar (yn 2)) (ar (bs 865))) (n (EB 0) (ar bY) .nil)))) (n (oT 52) (n (mX 84 81 "pipeboard.errors" 194) (n bY (n (Es 1) (ar a4) (ar a4)) (n (Ey 2) (ar (oT 658)) (ar (yK 2)))) (n (Eo 3) (n (Eu 1) (ar (yl 0)) (ar (EQ 0))) (n (yc 3) (ar (EM 2)) .nil))) (n (xJ 1) (n (xQ 1) (n (Et 3) (ar a4) (ar a4)) (n (dy "names_in" "Nodes.names_in" 793 324 2 434 0) (ar (yu 3)) .nil)) (n bY (n (x4 3) (ar bY) (ar Sp)) (n (yd 2) (ar (oT 754)) .nil))))) (n JW (n (aiI P) (n (oT 76) (n a4 (n (xX 0) (ar (EG 3)) (ar (yx 3))) (n (x6 1) (ar (EK 0)) (ar (yJ 1)))) (n bY (n (x1 0) (ar a4) (ar a4)) (n bY (ar (yw 1)) .nil))) (n (xI 0) (n (xP 0) (n bY (ar (yf 2)) (ar (yB 2))) (n (x9 3) (ar bY) .nil)) (n a4 (n bY (ar a4) (ar (yH 3))) (n (EC 1) (ar (l9 (aL 28 11) "image" "Disk.image")) .nil)))) (n (mX 60 57 "pipeboard.errors" 194) (n (nt 292 ["writes"]) (n (xN 3) (n (bs 281) (ar (tB 933 539)) (ar (yz 0))) (n a4 (ar (mX 668 665 "pipeboard.devices" 1090)) (ar (l9 (bf 45) "law" "law")))) (n R3 (n (Ev 2) (ar (ym 1)) (ar (ER 1))) (n a4 (ar a4) .nil))) (n (xK 2) (n (xR 2) (n a4 (ar bY) (ar bY)) (n (bs 441) (ar a4) .nil)) (n (xV 3) (n a4 (ar (EI 3)) (ar bY)) (n a4 (ar ov) .nil)))))))) (n en (n ⟨(.type "module"),J 0,.plain,#[]⟩ (n bY (n bY (n (nt 212 ["self","reason"]) (n Sd (n (xL 3) (n (xV 1) (ar a4) (ar (lt 4 [(551,777),(569,784),(572,791),(575,798),(578,805),(583,812),(597,819),(604,826),(615,833),(620,840),(624,847),(630,854),(633,861)]))) (n (x5 2) (ar (EI 1)) (ar (yI 0)))) (n R2 (n (x0 2) (ar (yi 0)) (ar (yE 0))) (n (aiH P) (ar (yv 2)) .nil))) (n (oT 95) (n (xN 1) (n (aiG P) (ar a4) (ar a4)) (n a4 (ar (yr 3)) .nil)) (n bY (n (Ew 3) (ar bY) (ar (Sm P))) (n (EA 2) (ar a4) .nil)))) (n (nz "BadArgument" "BadArgument" 226 10 46) (n ov (n a4 (n a4 (ar (EG 1)) (ar (yx 1))) (n bY (ar (nt 1074 ["by_number","disk","hits","most","reads","row","size","writes"])) (ar bY))) (n (xT 0) (n a4 (ar (yk 2)) (ar (yG 2))) (n (yb 0) (ar bY) .nil))) (n a4 (n a4 (n (xZ 0) (ar (yg 3)) (ar (yC 3))) (n (x9 1) (ar (yt 0)) .nil)) (n a4 (n (x3 0) (ar a4) (ar (yH 1))) (n bY (ar (nt 1198 ["blocks","flushes","is_dead","kept","last","last_flush","latest","size","unflushed","writes"])) .nil))))) (n (aiF P) (n (tB 219 39) (n (nz "NoRoom" "NoRoom" 258 14 70) (n a4 (n (xW 2) (ar (EF 0)) (ar (l9 (aL 34 0) "__init__" "Journal.__init__"))) (n a4 (ar (EJ 2)) (ar a4))) (n a4 (n ⟨(.type "function"),ac,(fn (aL 23 4) "allocate" "Nodes.allocate" 3 (r 321) (s "pipeboard.inodes" 297) (r 327) 0),#[]⟩ (ar (yj 1)) (ar (yF 1))) (n a4 (ar a4) .nil))) (n (xH 2) (n (xO 2) (n a4 (ar bY) (ar bY)) (n (x8 0) (ar a4) .nil)) (n (Ep 3) (n a4 (ar (yo 3)) (ar (l9 (bf 36) "_law_octets" "_law_octets"))) (n a4 (ar (EP 0)) .nil)))) (n ov (n (ES 3) (n (xM 0) (n (R4 P) (ar (EH 2)) (ar (yy 2))) (n (Ez 3) (ar ov) (ar (l9 (bf 44) "_law_group_right" "_law_group_right")))) (n (Eo 1) (n bY (ar a4) (ar a4)) (n (yc 1) (ar (EN 3)) .nil))) (n bY (n bY (n (Et 1) (ar a4) (ar a4)) (n (R8 P) (ar (yu 1)) .nil)) (n (xU 0) (n (x4 1) (ar (yq 0)) (ar bY)) (n (ye 3) (ar bY) .nil)))))) (n dY (n (xS 1) (n JX (n ov (n (xL 2) (n (xW 3) (ar a4) (ar a4)) (n a4 (ar (EJ 3)) (ar bY))) (n (bs 192) (n (nt 619 ["self","kind","major","minor"]) (ar bY) (ar bY)) (n (mX 451 448 "pipeboard.blocks" 811) (ar a4) .nil))) (n (xH 3) (n (xO 3) (n (mX 291 288 "pipeboard.inodes" 297) (ar (lt 4 [(377,556),(389,563),(393,570),(397,577),(411,584),(421,591),(428,598),(432,605),(438,612),(443,619),(446,626),(452,633),(458,640),(461,647),(464,654)])) (ar (yA 0))) (n a4 (ar (yr 2)) .nil)) (n (q1 1) (n (Ew 2) (ar (yn 1)) (ar (oT 865))) (n a4 (ar a4) .nil)))) (n Sb (n (nz "Crash" "Crash" 274 16 82) (n a4 (n (Es 0) (ar (EH 3)) (ar (yy 3))) (n (Ey 1) (ar (tB 1085 658)) (ar (yK 1)))) (n bY (n (Eu 0) (ar a4) (ar a4)) (n bY (ar (EM 1)) .nil))) (n (xJ 0) (n (xQ 0) (n bY (ar (yg 2)) (ar (yC 2))) (n (l9 (aL 23 20) "names_in" "Nodes.names_in") (ar bY) .nil)) (n a4 (n bY (ar a4) (ar (l9 (bf 38) "_law_image" "_law_image"))) (n (yd 1) (ar (tB 1211 754)) .nil))))) (n (mX 27 24 "pipeboard.errors" 194) (n ov (n Sj (n JT (n a4 (ar bY) (ar bY)) (n (x6 0) (ar a4) (ar (yJ 0)))) (n a4 (n a4 (ar (yk 3)) (ar (yG 3))) (n a4 (ar (yw 0)) .nil))) (n a4 (n a4 (n a4 (ar (yf 1)) (ar (yB 1))) (n bY (ar a4) .nil)) (n (Ep 2) (n a4 (ar (yo 2)) (ar bY)) (n (EC 0) (ar bY) .nil)))) (n (nz "BadDisk" "BadDisk" 242 12 58) (n (ES 2) (n bY (n (oT 281) (ar (va 931 539)) (ar a4)) (n (Ez 2) (ar (nz "Disk" "Disk" 1094 467 666)) (ar bY))) (n (l9 (aL 22 2) "take_row" "Node.take_row") (n (Ev 1) (ar (ym 0)) (ar (ER 0))) (n (EA 3) (ar (EN 2)) .nil))) (n (xK 1) (n (xR 1) (n (x0 3) (ar a4) (ar a4)) (n (oT 441) (ar (yv 3)) .nil)) (n bY (n (x5 3) (ar bY) (ar a4)) (n (ye 2) (ar a4) .nil))))))) (n (aiL P) (n (mX 9 3 "__main__" 164) (n a4 (n (l9 (aL 2 0) "__init__" "BoardError.__init__") (n (bs 64) (n (xL 0) (n a4 (ar (EE 1)) (ar (mX 769 766 "pipeboard.journal" 1216))) (n bY (ar a4) (ar (yI 2)))) (n (tB 445 192) (n a4 (ar (yi 2)) (ar (yE 2))) (n (lt 4 [(332,458),(338,465),(341,472),(344,479),(348,486),(352,493),(355,500),(360,507),(363,514),(366,521),(369,528),(373,535)]) (ar bY) .nil))) (n a4 (n a4 (n (lt 4 [(144,298),(150,305),(154,312),(157,319),(171,327),(174,334),(181,341),(184,348),(187,355),(190,362),(207,369),(215,376),(221,383),(234,390),(237,397),(251,404),(263,411),(281,418),(297,425),(310,432),(324,437)]) (ar (aiJ P)) (ar (yA 3))) (n (x7 1) (ar (yr 0)) .nil)) (n a4 (n (Ew 0) (ar a4) (ar (va 1359 865))) (n bY (ar (EO 1)) .nil)))) (n a4 (n a4 (n R0 (n (Es 3) (ar a4) (ar a4)) (n a4 (ar Sf) (ar a4))) (n (xT 2) (n (Eu 3) (ar bY) (ar bY)) (n (yb 2) (ar a4) .nil))) (n (xJ 3) (n (xQ 3) (n (xZ 2) (ar (yg 0)) (ar (yC 0))) (n a4 (ar (yt 2)) .nil)) (n (Er 1) (n (x3 2) (ar (yp 1)) (ar a4)) (n a4 (ar Si) .nil))))) (n (lt 4 [(7,35)]) (n (bs 39) (n a4 (n (nz "Super" "Super" 359 42 136) (n bY (ar (EF 2)) (ar J1)) (n (x6 3) (ar bY) (ar (yJ 3)))) (n (nz "Node" "Node" 452 88 200) (n bY (ar a4) (ar a4)) (n (ya 1) (ar (yw 3)) .nil))) (n bY (n bY (n (xY 1) (ar a4) (ar a4)) (n (x8 2) (ar (ys 1)) .nil)) (n (Ep 0) (n (x2 1) (ar (yo 0)) (ar J2)) (n (EC 3) (ar (EP 2)) .nil)))) (n a4 (n (ES 0) (n (xM 2) (n (va 558 281) (ar (xq P)) (ar bY)) (n (Ez 0) (ar a4) (ar J6))) (n a4 (n a4 (ar (ym 3)) (ar (ER 3))) (n a4 (ar (EN 0)) .nil))) (n a4 (n a4 (n a4 (ar (yh 1)) (ar (yD 1))) (n (va 804 441) (ar a4) .nil)) (n (xU 2) (n a4 (ar (yq 2)) (ar Sq)) (n (ye 0) (ar Sk) .nil)))))) (n (mX 13 3 "__main__" 164) (n (sk [(.type "ValueError")]) (n (R7 P) (n a4 (n ov (n (xW 0) (ar (EF 3)) (ar (nt 1245 ["self","cache","start","size","each"]))) (n (Ex 1) (ar (EJ 0)) (ar Sr))) (n ov (n (l9 (aL 23 4) "allocate" "Nodes.allocate") (ar a4) (ar a4)) (n bY (ar (EL 1)) .nil))) (n (xH 0) (n (xO 0) (n bY (ar (mX 549 546 "pipeboard.blocks" 811)) (ar (yA 2))) (n (x8 3) (ar bY) .nil)) (n a4 (n bY (ar a4) (ar a4)) (n (EB 1) (ar (EP 3)) .nil)))) (n (bs 52) (n a4 (n (xM 3) (n (Es 2) (ar (EH 0)) (ar (yy 0))) (n a4 (ar (bs 658)) (ar a4))) (n a4 (n (Eu 2) (ar (yl 1)) (ar (EQ 1))) (n a4 (ar a4) .nil))) (n (xJ 2) (n (xQ 2) (n a4 (ar bY) (ar bY)) (n (dJ (aL 23 20) "names_in" "Nodes.names_in" "pipeboard.inodes" 297 437) (ar a4) .nil)) (n (xU 3) (n a4 (ar (yq 3)) (ar J3)) (n a4 (ar (bs 754)) .nil))))) (n a4 (n a4 (n (bs 76) (n bY (n (xX 1) (ar a4) (ar a4)) (n (x6 2) (ar (EK 1)) (ar (yJ 2)))) (n (xT 3) (n (x1 1) (ar (yk 0)) (ar (yG 0))) (n (yb 3) (ar (yw 2)) .nil))) (n (xI 1) (n (xP 1) (n (xZ 3) (ar a4) (ar a4)) (n a4 (ar (yt 3)) .nil)) (n bY (n (x3 3) (ar bY) (ar a4)) (n (EC 2) (ar (dy "image" "Disk.image" 1192 536 1 747 0)) .nil)))) (n a4 (n (aiQ P) (n a4 (n a4 (ar (oT 539)) (ar (yz 1))) (n bY (ar a4) (ar Su))) (n JV (n a4 (ar (ym 2)) (ar (ER 2))) (n (EA 0) (ar bY) .nil))) (n a4 (n (nt 430 ["bitmap_start","block","blocks","data_start","direct","indirect","inode_start","inodes","log","log_start","row","rows"]) (n (x0 0) (ar (yi 3)) (ar (yE 3))) (n a4 (ar (yv 0)) .nil)) (n a4 (n (x5 0) (ar a4) (ar (yI 3))) (n bY (ar (aiO P)) .nil)))))))))
noncomputable def mt(P:cB):List hT:=[e P "__doc__" 166 .none,e P "__package__" 167 .none,e P "__loader__" 168 (.builtin "__main__.__loader__#opaque"),e P "__spec__" 169 .none,m P "__annotations__" 170 6,m P "__builtins__" 171 4,e P "__file__" 173 (s "/claim/cut.py" 172),e P "__cached__" 174 .none,m P "_wall" 193 21,m P "BoardError" 223 39,m P "BadArgument" 239 52,m P "BadDisk" 255 64,m P "NoRoom" 271 76,m P "Crash" 296 95,dw P "MAGIC" 299 270544960,dw P "FREE" 301 0,dw P "FIRST_LOG" 303 2,dw P "DIRECT" 305 12,dw P "HEAD" 307 12,dw P "PIECE" 309 16,dw P "SUPER_WORDS" 311 9,dw P "MOST_A_PIECE" 313 4,m P "half_at" 322 104,m P "word_at" 330 111,m P "put_half" 339 118,m P "put_word" 348 125,m P "rounded_up" 356 132,m P "Super" 449 192,m P "Node" 564 281,m P "Nodes" 810 441,m P "Buffer" 937 539,m P "Cache" 1089 658,m P "Disk" 1215 754,dw P "NUMBER" 1218 4,dw P "MOST_EACH" 1220 10,dw P "SPARE" 1222 4,m P "packed_head" 1229 763,m P "Journal" 1365 865,m P "_law_octets" 1373 874,m P "_law_row" 1387 881,m P "_law_image" 1393 886,m P "_law_taken" 1399 891,m P "_law_put" 1415 898,m P "_law_due" 1421 903,m P "_law_deed" 1431 910,m P "_law_has_room" 1438 917,m P "_law_group_right" 1444 922,m P "law" 1450 927]
noncomputable def l1(P:cB)(x:String)(t n:Nat):Obj:=hI (e P "__name__" 165 (s x t)::(mt P).take n) (n+1)
noncomputable def dY(k:Nat):Obj:=⟨.none,ac,.fields ⟨RE 0 ([(1,20),(5,27),(10,48),(12,60),(14,72),(16,84),(30,103),(32,110),(34,117),(37,124),(40,131),(42,138),(88,202),(142,291),(330,451),(375,549),(467,668),(542,762),(549,769),(636,873),(638,880),(645,885),(652,890),(658,897),(671,902),(684,909),(689,916),(695,921),(711,926)].take k)⟩,#[]⟩
noncomputable def q4(k:Nat):Obj:=cl "BoardError" [(.type "ValueError")] [(r 39),(.type "ValueError"),(.type "Exception"),(.type "BaseException"),(.type "object")] 38 ([(r 52),(r 64),(r 76),(r 95)].take k) #[J (r 22),ac,J (s "BoardError" 196),J (s "BoardError" 204),J (.builtin "ValueError.__new__"),J (.bool ae)]
noncomputable def S(x:String)(t n j k z u:Nat)(w:eJ)(os:gv):SharedT:=⟨T w.params (l1 w.params x t n) (dY j) (q4 k),z,{},#[],{},u,os⟩
noncomputable def wJ:=S "__main__" 164 8 0 4 15 187
noncomputable def eb:=S "pipeboard.errors" 194 10 2 0 43 224
noncomputable def om:=S "pipeboard.errors" 194 13 5 3 79 272
noncomputable def N6:=S "pipeboard.inodes" 297 27 11 4 133 357
noncomputable def N7:=S "pipeboard.inodes" 297 28 12 4 197 450
noncomputable def N8:=S "pipeboard.inodes" 297 29 13 4 286 565
noncomputable def N9:=S "pipeboard.inodes" 297 30 14 4 446 811
noncomputable def Oa:=S "pipeboard.blocks" 811 31 15 4 544 938
noncomputable def Ob:=S "pipeboard.blocks" 811 32 16 4 663 1090
noncomputable def Oc:=S "pipeboard.journal" 1216 37 18 4 764 1230
noncomputable def Od:=S "pipeboard.journal" 1216 38 19 4 870 1366
noncomputable def wK:=S "law_nz0227_01" 1366 48 29 4 928 1451
noncomputable def TT(P:cB):Obj:=l1 P "law_nz0227_01" 1366 48
noncomputable def aqa:Obj:=dY 29
noncomputable def TS:Obj:=q4 4
noncomputable def body:List cD:=behindTheImports prog
noncomputable def Z:Env:= {scope:=prog.main.scope,locals:=mainNs,globals:=mainNs,cells:=[],code:=(r 13),frame:=J 14}
noncomputable def i5:lH:=.body body Z
noncomputable abbrev fr:Frame:=topFrame ⟨0,0,0,0⟩
theorem pL{w:eJ}{JS:Nat}{GY:Option aG}{n N:Nat}{s aS r:cn}{pos gZ q:Pos}(a k b:Nat)(hb:b=a+k)(h:segRun qn prog w JS GY 1 n s (piecesOf ((body.drop a).take k) Z i5 pos [topFrame q])=J (.next,aS,i5,gZ))
  (fO:topRun qn prog w JS GY N aS (restOf (body.drop b) Z i5 gZ [topFrame q])=J r):topRun qn prog w JS GY (N+n) s (restOf (body.drop a) Z i5 pos [topFrame q])=J r:=by
 have e:body.drop a=(body.drop a).take k++body.drop b:=by rw [hb,<-List.drop_drop,List.take_append_drop]
 rw [e,zv];exact piece_app h fO
theorem ajd{ay bF:Type}{x:Option (ay×bF)}{a:ay}{b:bF}(ai:x.map (·.1)=J a)(ak:x.map (·.2)=J b):x=J (a,b):=by
 refine bU (rz.mp ai) λy e e1=>e.trans ?_
 refine congrArg J (Prod.ext e1 (ci ?_));rw [<-ak,e];rfl
theorem ajl:∀(w:eJ) (os:gv),topGo qn prog w 11 (J (.ref 6)) 12 ⟨s3 w.params,#[],boot_drawn,boot_toks,os⟩ (topStub prog)=J ((wJ w os).abs,⟨denote qn i5,i5,⟨0,0,0,0⟩,[fr]⟩):=λw os=>by
 refine ajd ?_ ?_
 ·rw [PySem.W.Fast.te15667345088766844465,PySem.W.Fast.te14364793385576792824];kernel_rfl!
 ·rw [PySem.W.Fast.te15667345088766844465,PySem.W.Fast.te14364793385576792824,PySem.W.Fast.te11892475500146522536];kernel_rfl!
theorem Z2:∀(w:eJ) (os:gv),segRun qn prog w 11 (J (.ref 6)) 1 1 (wJ w os).abs (blockOf body Z i5 ⟨0,0,0,0⟩ [fr])=J (.next,(wJ w os).abs,i5,⟨0,0,0,0⟩):=λw os=>by rw [PySem.W.Fast.te14374325043358763698,PySem.W.Fast.te14364793385576792824];kernel_rfl!
abbrev oe(k a j:Nat)(s t:eJ->gv->SharedT)(p q:Pos):Prop:=∀(w:eJ) (os:gv),segRunT qn prog w 11 (J (.ref 6)) 1 k (s w os) (piecesOf ((body.drop a).take j) Z i5 p [fr])=J (.next,t w os,i5,q)
theorem py{k a j:Nat}{s t:eJ->gv->SharedT}{p q:Pos}(h:∀w os,Fast.tw10110043849684766642 Fast.tw14364793385576792824 prog w 11 (J (.ref 6)) 1 k (s w os) ⟨Sem.wrap doneF deadEnd id id (Fast.tw12563942051412417395 ((body.drop a).take j) Z),i5,p,[fr]⟩=J (.next,t w os,i5,q)):oe k a j s t p q:=λw os=>by rw [PySem.W.Fast.te10110043849684766642,PySem.W.Fast.te14364793385576792824,PySem.W.piecesOf,PySem.W.Fast.te12563942051412417395];exact h w os
theorem u8:oe 259 0 3 wJ eb ⟨0,0,0,0⟩ ⟨5,0,9,28⟩:=py λw os=>by kernel_rfl!
theorem hx:oe 640 3 3 eb om ⟨5,0,9,28⟩ ⟨14,0,15,8⟩:=py λw os=>by kernel_rfl!
theorem At:oe 479 6 15 om N6 ⟨14,0,15,8⟩ ⟨40,0,41,37⟩:=py λw os=>by kernel_rfl!
theorem ad7:oe 436 21 1 N6 N7 ⟨40,0,41,37⟩ ⟨42,0,87,95⟩:=py λw os=>by kernel_rfl!
theorem ad8:oe 547 22 1 N7 N8 ⟨42,0,87,95⟩ ⟨88,0,141,16⟩:=py λw os=>by kernel_rfl!
theorem ad9:oe 919 23 1 N8 N9 ⟨88,0,141,16⟩ ⟨142,0,328,52⟩:=py λw os=>by kernel_rfl!
theorem aea:oe 592 24 2 N9 Oa ⟨142,0,328,52⟩ ⟨330,0,374,17⟩:=py λw os=>by kernel_rfl!
theorem aeb:oe 682 26 1 Oa Ob ⟨330,0,374,17⟩ ⟨375,0,465,17⟩:=py λw os=>by kernel_rfl!
theorem aec:oe 651 27 7 Ob Oc ⟨375,0,465,17⟩ ⟨542,0,548,50⟩:=py λw os=>by kernel_rfl!
theorem aed:oe 619 34 1 Oc Od ⟨542,0,548,50⟩ ⟨549,0,634,17⟩:=py λw os=>by kernel_rfl!
theorem aee:oe 301 35 11 Od wK ⟨549,0,634,17⟩ ⟨711,0,723,125⟩:=py λw os=>by kernel_rfl!
theorem cq:∀(w:eJ) (os:gv),topRun qn prog w 11 (J (.ref 6)) 2 (wK w os).abs ⟨doneF .next,i5,⟨711,0,723,125⟩,[fr]⟩=J (wK w os).abs:=λw os=>by rw [PySem.W.Fast.te14082659384304107361,PySem.W.Fast.te14364793385576792824];kernel_rfl!
theorem anL:∀(w:eJ) (os:gv),topRun qn prog w 11 (J (.ref 6)) (12+(1+(((((((((((2+301)+619)+651)+682)+592)+919)+547)+436)+479)+640)+259))) ⟨s3 w.params,#[],boot_drawn,boot_toks,os⟩ (topStub prog)=J (wK w os).abs:=λw os=>by
 have k:topRun qn prog w 11 (J (.ref 6)) 2 (wK w os).abs (restOf (body.drop 46) Z i5 ⟨711,0,723,125⟩ [fr])=J (wK w os).abs:=cq w os;have k:=pL 35 11 46 rfl (qj (aee w os)) k;have k:=pL 34 1 35 rfl (qj (aed w os)) k;have k:=pL 27 7 34 rfl (qj (aec w os)) k;have k:=pL 26 1 27 rfl (qj (aeb w os)) k;have k:=pL 24 2 26 rfl (qj (aea w os)) k;have k:=pL 23 1 24 rfl (qj (ad9 w os)) k;have k:=pL 22 1 23 rfl (qj (ad8 w os)) k;have k:=pL 21 1 22 rfl (qj (ad7 w os)) k;have k:=pL 6 15 21 rfl (qj (At w os)) k;have k:=pL 3 3 6 rfl (qj (hx w os)) k;have k:=pL 0 3 3 rfl (qj (u8 w os)) k;exact go_top (ajl w os) (piece_block (Z2 w os) k)
end Mine.Internal
end
noncomputable section
open PySem PySem.W PyProof.Rows
namespace Mine.Internal
noncomputable def q:uG:= {prog with main:= {prog.main with body:=[bw prog.main.body 45]}}
noncomputable def DY:List Str:=prog.boundNames.filter λn=>n !=("law":Str)
def bI(P:cB):bq:=absHeap (T P (TT P) aqa TS) 928 {}
def De:List (Nat×(Nat->Obj)):=[(103,xH),(110,xI),(117,xJ),(124,xK),(131,xL),(153,xM),(160,xN),(167,xO),(174,xP),(181,xQ),(188,xR),(209,xT),(228,q1),(249,xU),(256,xV),(263,xW),(270,xX),(298,xY),(305,xZ),(319,x0),(334,x1),(362,x2),(369,x3),(376,x4),(383,x5),(397,x6),(418,x7),(425,x8),(432,x9),(458,ya),(465,yb),(472,yc),(500,yd),(507,ye),(556,yf),(563,yg),(570,yh),(577,yi),(584,yj),(591,yk),(598,yl),(605,ym),(612,yn),(619,yo),(626,yp),(633,yq),(675,yr),(682,ys),(689,yt),(696,yu),(703,yv),(717,yw),(784,yx),(791,yy),(798,yz),(805,yA),(812,yB),(819,yC),(826,yD),(833,yE),(840,yF),(847,yG),(880,yH),(897,yI),(909,yJ),(916,yK)]
def dk(P:cB):Frag:=[(3,TT P),(658,Sf),(657,Se P),(539,JY),(538,xq P),(754,Si),(753,Sh P),(865,Sn),(864,Sm P),(441,R9),(440,R8 P),(281,R5),(280,R4 P),(192,R2),(191,R1 P),(76,Sj),(75,Sg P),(39,TS),(38,R7 P),(52,Sb),(51,Sa P),(64,Sd),(63,Sc P),(36,JX),(147,JU),(222,JV),(763,JZ),(778,J1),(874,J2),(886,J3),(891,J4),(903,J5),(922,J6),(927,J7),(35,R6),(146,R0),(221,R3),(762,Sk),(777,Sl),(873,So),(885,Sp),(890,Sq),(902,Sr),(921,Ss),(926,Su),(29,JW),(140,JT),(771,J0),(2,en)]++(De.map λx=>(x.1+1,x.2 2))++De.map λx=>(x.1,x.2 1)
def Jo:List a1:=[3,658,657,539,538,754,753,865,864,441,440,281,280,192,191,76,75,39,38,52,51,64,63,36,147,222,763,778,874,886,891,903,922,927,35,146,221,762,777,873,885,890,902,921,926,29,140,771,2]++(De.map λx=>x.1+1)++De.map λx=>x.1
theorem bM:∀w:eJ,(fencedOpening qn prog w 12400).map (λs=>(s.heap,s.gens,s.drawn,s.toks))=J (s3 w.params,Array.mk [],boot_drawn,boot_toks):=
 boot_open (by kernel_rfl!) (by kernel_rfl!) (λs=>by kernel_rfl!)
theorem sz:∀w:eJ,((s3 w.params).isNs k8&&(Array.mk []:Array GenState).size==0,(s3 w.params).objs.size,(s3 w.params).nsMap k8 "__annotations__")=(ae,11,J (lK 6)):=λw=>by kernel_rfl!
theorem ahn:∀(w:eJ),staticsOk (importedModules prog.main.body) (s3 w.params) (bI w.params)=ae:=λw=>by kernel_rfl!
theorem aho:∀(w:eJ),namesBound prog (bI w.params)=ae:=λw=>by kernel_rfl!
theorem ahp:∀(w:eJ),laidKept (s3 w.params) (bI w.params)=ae:=λw=>by kernel_rfl!
theorem ahq:∀(w:eJ) (os:gv),openSeen q DY (importedModules prog.main.body) (λ_=>ae) ae ⟨bI w.params,#[],{},1451,os⟩=openGood q DY:=λw os=>by rw [PySem.W.Fast.te4187177175401517315];kernel_rfl!
theorem ahr:∀(w:eJ),Jo.map (bI w.params).get?=(dk w.params).map (λp=>J p.2):=λw=>by kernel_rfl!
def WT(s:cn):List (Option Obj):=Jo.map s.heap.get?
def WS(w:eJ):List (Option Obj):=(dk w.params).map λp=>J p.2
theorem vv:LeftO prog q DY (λ_=>ae) WT WS 12400 ae:=
 LeftO.of_pieces (H₀:=s3) (H₁:=bI) (gs₁:= #[]) (d₁:= {}) (k₁:=1451) bM sz (λw os=>anL w os) (by kernel_rfl!) (λw=>funext λos=>by
  refine Prod.ext ?_ (Prod.ext (ahq w os) (ahr w));show(_&&_&&_&&_)=ae
  rw [ahn w,aho w,ahp w];rfl)
end Mine.Internal
end
noncomputable section
set_option tactic.hygienic true
open PySem PySem.W PyProof.Rows PySem.Calls
namespace Mine.Internal
section
variable {w:eJ}
noncomputable abbrev l6:Ctx:=⟨.builtin "claim.caller" {},ac,ac,[],ac⟩
noncomputable abbrev K2:OpenRow:=PySem.Challenge.rw_nz0227_01.row
abbrev qX:RowW:=K2.toRowW
theorem QF{aa:Prop}(h:∀P:Prop,(aa->P)->P):aa:=h aa id
theorem ac1{p:uG}{t:Sem Fin}{s:cn}{R:Result->cn->Prop}(afh:s.asleep)
  (h:gN (c8 p w) l6 t (λcq _ aS=>∃v,cq=.done (.ret v)/\R (.ok (.ret v)) aS/\NP aS.gens=aA) (λ_ _ _=>False) jQ s):
  ∃n r aS K5,runN (denote nu) p w n s ⟨t,.builtin "claim.caller" {},jQ,[]⟩=.halted (outcomeOf r) aS/\
   schedN (denote nu) p w n (.single s ⟨t,.builtin "claim.caller" {},jQ,[]⟩)=.halted (outcomeOf r) aS/\aS.forget=K5.forget/\R r K5:=by
 have av:gN (c8 p w) l6 t (Sem.finPost (c8 p w) l6 λr aS=>R r aS/\NP aS.gens=aA) (λe _ aS=>R (.error e) aS/\NP aS.gens=aA) jQ s:=by
  refine lJ (c8 p w) l6 t (λcq gZ aS cJ=>?_) (λ_ _ _ x=>x.elim) jQ s h
  obtain⟨v,rfl,a,b⟩:=cJ;exact⟨a,b⟩
 obtain⟨n,r,eo,Lh,hs,hn,IP,tD⟩:=wp_halts_full (M:=c8 p w) (R:=R) afh av;exact⟨n,r,Lh,eo,hn,hs,IP,tD⟩
structure l7(w:eJ)(h:bq):Prop where
 k:(dk w.params).In h
 b:∃xj,h.Ns s6 xj/\∀x:Str,x≠"__name__"->xj x=zC x
 lim:h.NoLimit
 dig:∃DZ,h.Ns cStatics DZ/\DZ "sys.int_max_str_digits"=ac
theorem l7.keeps{h av:bq}(B:l7 w h)(k:∀b o,h.get? b=J o->av.get? b=J o):l7 w av:=
 ⟨B.k.keeps k,let⟨xj,ai,ak⟩:=B.b;⟨xj,ai.keeps k,ak⟩,B.lim.keeps k,let⟨DZ,ai,ak⟩:=B.dig;⟨DZ,ai.keeps k,ak⟩⟩
def Ow:Prop:=∀(w:eJ) (eo:cn),l7 w eo.heap->eo.gens= #[]->
 ∀(a:a1) (vs:List aG) (ns:List Int),eo.heap.IsList a vs.toArray->IntsAre vs ns->ns.length<=63->
  gN (c8 prog w) l6 (PySem.call (.ref 927) [.ref a]) (λv _ aS=>v=.bool ae/\(∀b o,eo.heap.get? b=J o->aS.heap.get? b=J o)/\aS.os=eo.os/\aS.gens= #[]) (λ_ _ _=>False) jQ eo
theorem ac0{s eo:cn}{dg:List WData}{vs:List aG}{as:List a1}{tree:Sem Fin}(a2:Laid [] w s eo dg vs as)(hz:s.asleep)
  (h:gN (c8 prog w) l6 tree (λcq _ aS=>cq=.done (.ret (.bool ae))/\(∀b o,eo.heap.get? b=J o->aS.heap.get? b=J o)/\aS.os=eo.os/\aS.gens= #[]) (λ_ _ _=>False) jQ eo)
  (aff:qX.claim.post dg (.bool ae) dg=ae):
  ∃n r aS,schedN (denote nu) prog w n (.single eo ⟨tree,.builtin "claim.caller" {},jQ,[]⟩)=.halted (outcomeOf r) aS/\aS.heap.life=s.heap.life/\
   qX.claim.Ends s dg vs eo r aS/\aS.os=s.os:=by
 have w6:eo.heap.life=s.heap.life:=by obtain⟨ord,_,e⟩:=a2.laid;exact(layAllW_rest _ _ _ e).2.2.2
 obtain⟨n,r,aS,K5,afi,I2,IP,tD⟩:=ac1 (p:=prog) (w:=w) (t:=tree) (s:=eo) (R:=λr aS=>qX.claim.Ends s dg vs eo r aS/\aS.os=s.os) (Shared.asleep_of_life w6 hz)
  (lJ (c8 prog w) l6 tree (λcq gZ aS cJ=>by
   obtain⟨rfl,hk,vk,qF⟩:=cJ;have aa:GoodW qX.claim (classAt s.heap) (ExcName.means s.heap) dg eo (.ok (.ret (.bool ae))) aS:=⟨.inl ⟨.bool ae,.bool ae,[],rfl,λ_=>rfl,.bool ae,aff,λ_=>⟨.nil,λ_ h=>nomatch h⟩⟩,hk,vk,qF⟩
   have z:=aa.toG.laid (c:=qX.claim) (w:=w) rfl rfl (λ_ _=>ident_freeW (r:=qX) rfl rfl rfl _ _) a2
   exact⟨_,rfl,⟨z.1,z.2.1⟩,leftWithCleanup_false_of_bare z.2.2⟩) (λ_ _ _ x=>x.elim) jQ eo h)
 obtain⟨H5,_,_,bX,_⟩:=Shared.forget_eq IP;exact⟨n,r,aS,I2,(runN_life _ _ _ afi).trans w6,tD.1.congr H5,bX.trans tD.2⟩
def agG:DefRec:= {name:=oi "law",params:=fF (bf 45),body:=aW (bf 45),scope:=dO (bf 45),pos:=⟨711,0,723,125⟩}
theorem agL{dg:List WData}:qX.claim.post dg (.bool ae) dg=ae:=
 postW_of (r:=qX) rfl (w_eq_bool (w_res rfl) w_lit) rfl
theorem afc(j7:Ow):PySem.Challenge.rw_nz0227_01.Holds:=by
 w_on
 refine holds_law (by kernel_rfl) λaoc=>?_
 have SO:qX.promised:=⟨[.list []],by decide+kernel,by decide+kernel⟩
 refine⟨aoc,SO,?_⟩;have Qy:chainsOk q=ae:=by decide+kernel
 have ai1:opensWell prog=ae:=by kernel_rfl!
 refine⟨⟨⟨rfl,rfl,rfl,rfl,rfl,by decide+kernel⟩,ai1,rfl⟩,SO.witness,λw=>⟨(vv.behind (XP:=λ_ _=>True) (λ_ _=>trivial) Qy w).1,λaS hj=>?_⟩⟩
 refine QF λfj k1=>?_
 obtain⟨s₀,aq,aeY,s,gm,hz,Dv,bj,wf,y⟩:=(vv.behind (XP:=λ_ _=>True) (λ_ _=>trivial) Qy w).2 aS hj
 have Dv:s.gens= #[]:=Array.eq_empty_of_size_eq_zero (beq_iff_eq.mp Dv);have SJ:isTheDefsW prog s.heap "law":=by
  refine pinned_of_view (q:=q) bj wf (d:=agG) (kwd:=[]) (by kernel_rfl!) (by kernel_rfl!) (by kernel_rfl!)
 refine k1 ?_;clear k1 fj;refine⟨s₀,aq,aeY,s,gm,λn hn=>?_,λx aO=>(nomatch aO),λx aO=>(nomatch aO),?_⟩
 ·obtain rfl:n=("law":Str):=by
   have e:(if K2.pinned then [K2.name] else [])=[("law":Str)]:=rfl
   rw [e] at hn;exact jk.mp hn
  exact SJ
 intro dg QP QH ord QO;refine QF λfj k1=>?_
 obtain⟨⟨vs,eo⟩,vj⟩:=sW.mp (layAllW_isSome (P:=w.params) (ord:=ord) (R:=[]) (cl:=classAt s.heap) wf.has dg qX.args s (pre_splitW QP).1);have keeps:=layAllW_keeps _ _ _ vj;have w6:=layAllW_rest _ _ _ vj;obtain⟨as,I0,QG,QN⟩:=reads_layAllW QO _ _ _ vj QH eo.heap (λ_ _ e=>e)
 have a2:Laid [] w s eo dg vs as:=⟨⟨ord,QO,vj⟩,I0,QG,QN,keeps,w6.1.trans Dv,w6.2.2.1⟩;have BX:Ground q DY [] (λ_ _=>True) w s (s.heap.nsMap k8) (s.heap.nsMap s6) eo.heap:=wf.keeps (λ_ _ _ _ _=>trivial) keeps
 have FW:(dk w.params).In s.heap:=Frag.in_of (as:=Jo) rfl y;have j6:∀a∈as,(a==CE)=aA:=a2.low wf.low;have afs:WellAll w.params eo.heap vs dg:=a2.well;have T:Top q _ _ _ _ eo.heap:=BX.T;have afg:=I0;have key:∃(a:a1) (DK:List aG) (ns:List Int),vs=[.ref a]/\eo.heap.IsList a DK.toArray/\IntsAre DK ns/\ns.length<=63:=by
  clear afg T FW BX a2 QN QG w6 keeps vj k1 j7 SJ wf bj y;wrow_args QP QH I0 afs j6
  exact⟨_,_,_,rfl,by assumption,by assumption,by omega⟩
 obtain⟨a,DK,ns,I6,ai,ak,aZ⟩:=key;rw [I6] at vj;replace a2:Laid [] w s eo dg [.ref a] as:=I6▸a2
 clear I6;have aq:s.heap.nsMap k8 "law"=J (.ref 927):=mg_of FW wf.T.g (by kernel_rfl!)
 have e7:=BX.T;have W:=j7 w eo ⟨FW.keeps keeps,⟨_,e7.b,e7.builtins⟩,e7.nolimit,e7.nodigits⟩ a2.gens a DK ns ai ak aZ;obtain⟨n,r,Lh,I2,ae6,tC,vk⟩:=ac0 (tree:=do match <-nsGet mainNs "law" with
   |J f=>do ret (<-PySem.call f [.ref a])
   |ac=>unsupported "claim.caller:no-such-global") a2 hz (by
   show gN _ _ ((nsGet k8 ("law":Str))>>=_) _ _ _ _
   rw [wB];have :=Sem.wp_nsGet (c8 prog w) l6 (λ_ _ _=>False) jQ eo BX.T.g ("law":Str)
   rw [this,aq];show gN _ _ (_>>=_) _ _ _ _
   rw [wB];refine lJ _ _ _ (λv gZ aS cJ=>?_) (λ_ _ _ x=>x) _ _ W
   obtain⟨rfl,a,b,c⟩:=cJ;exact⟨rfl,a,b,c⟩) agL
 refine k1 ⟨_,eo,vj,n,_,Lh,I2,?_,?_,(λq=>nomatch (show aA=ae from q)),congrArg Life.seen ae6,Shared.rest_eq vk⟩
 ·rcases tC with⟨v,rfl,bf,aL,wW,Aa,Ab⟩|⟨e,m6,cls,rfl,bf,aL,wW,Aa,Ab⟩
  ·exact .inl ⟨v,rfl,bf,aL,wW,λb o y _=>Aa b o y,Ab⟩
  ·exact .inr ⟨e,m6,cls,rfl,bf,aL,wW,Aa,λb o y _=>Ab b o y⟩
 ·intro _ i x aO;rw [Dv] at aO;simp at aO
end
end Mine.Internal
end
noncomputable section
open PySem PySem.W PyProof.Rows PySem.Calls
namespace Mine.Internal
section
variable {aa c:Prop}{Q:aG->bq->Prop}{n:Nat}{vs:List aG}
theorem br{ay:Type _}{x:ay}(e:(ac:Option ay)=J x):aa:=nomatch e
theorem b8(e:aA=ae):aa:=nomatch e
theorem dR[Decidable c]{ay:Type}{x:Option ay}{v:ay}(e:(if c then x else ac)=J v)(k:c->x=J v->aa):aa:=by
 by_cases h:c
 ·rw [aY h] at e;exact k h e
 ·rw [a8 h] at e;exact br e
noncomputable def qw:List String:=["bytearray.__contains__","bytearray.__mod__","bytearray.__rmod__","_struct.pack_into.held","bytearray.find.held"]++NE
noncomputable def qQ:lH->Bool
 | .builtin id _=> !qw.contains id
 |_=>ae
inductive N5(n:Nat)(ah:Ctx):Prop
 |mk (A:kI) (i:ah.In A) (h:A.handled=ac) (d:A.depth+2*n<990) (u:A.units+40*n<9800):N5 n ah
structure bz(a9:List a1)(n:Nat)(ah:Ctx):Prop where
 room:N5 n ah
 here:qQ ah.code=ae
 below:∀x∈ah.below,qQ x.1=ae
 fr:∀Z∈ah.code.envs++pg ah.below,Z.scope.kind≠.module/\∃b∈a9,Z.frame=J b
variable {a9:List a1}
theorem bz.mono{m:Nat}{ah:Ctx}(h:bz a9 n ah)(bc:m<=n):bz a9 m ah:=by
 obtain⟨⟨A,a,q,b,c⟩,d,e,aB⟩:=h;exact⟨⟨A,a,q,XD bc b,eI (rx (Gd 40 bc) _) c⟩,d,e,aB⟩
theorem aiq{c:lH}{P:Env->Prop}(aq:c.isFrame=aA):∀Z∈c.envs,P Z:=λZ aO=>by
 unfold Code.envs at aO;rw [aq] at aO;rcases aO
theorem bz.enterF{ah:Ctx}(h:bz a9 (n+1) ah)(c c':lH)(p:Pos)(aD:qQ c'=ae)(j7:c'.weight<=2)(bT:c'.cUnits<=40)(bl:∀Z∈c'.envs,Z.scope.kind≠.module/\∃b∈a9,Z.frame=J b):bz a9 n ((ah.enter c ac p).goto c'):=by
 obtain⟨⟨A,a,q,b,k⟩,d,e,aB⟩:=h;refine⟨⟨(A.mark ac).under c',((a.enter c ac p (by intro x;exact br x)).goto c').in,?_,?_,?_⟩,aD,λx aO=>?_,λZ aO=>?_⟩
 ·exact q
 ·show A.depth+c'.weight+2*n<990;exact Xm j7 b
 ·show A.units+c'.cUnits+40*n<9800;exact Xl bT k
 ·rcases fw.mp aO with rfl|aO
  ·exact d
  ·exact e x aO
 ·rcases md.mp aO with aO|aO
  ·exact bl Z aO
  ·exact aB Z (by(rw [<-envsOf_cons]);exact aO)
theorem bz.enter{ah:Ctx}(h:bz a9 (n+1) ah)(c c':lH)(p:Pos)(aD:qQ c'=ae)(j7:c'.weight<=2)(bT:c'.cUnits<=40)(aq:c'.isFrame=aA:=by rfl):bz a9 n ((ah.enter c ac p).goto c'):=
 h.enterF c c' p aD j7 bT (aiq aq)
def af(w:eJ)(bp:gv)(ah:Ctx){ay:Type}(t:Sem ay)(Q:ay->bq->Prop)(h:bq):Prop:=
 ∀s p,s.heap=h->s.gens= #[]->s.os=bp->gN (c8 prog w) ah t (λa _ aS=>Q a aS.heap/\aS.gens= #[]/\aS.os=bp) (λ_ _ _=>False) p s
section
variable {w:eJ}{bp:gv}{ah:Ctx}{ay bF:Type}{h:bq}
theorem af.mono{t:Sem ay}{Q ol:ay->bq->Prop}(x:af w bp ah t Q h)(k:∀a av,Q a av->ol a av):af w bp ah t ol h:=λs p e1 e2 aP=>
 lJ _ _ _ (λa _ aS y=>⟨k _ _ y.1,y.2⟩) (λ_ _ _ y=>y) _ _ (x s p e1 e2 aP)
theorem af.pure{a:ay}{Q:ay->bq->Prop}(k:Q a h):af w bp ah (bK a:Sem ay) Q h:=λs p e1 e2 aP=>⟨e1▸k,e2,aP⟩
theorem af.bind{m:Sem ay}{f:ay->Sem bF}{Q:bF->bq->Prop}(x:af w bp ah m (λa av=>af w bp ah (f a) Q av) h):af w bp ah (m>>=f) Q h:=λs p e1 e2 aP=>by
 exact G (wB ..) (lJ _ _ _ (λa gZ aS y=>y.1 aS gZ rfl y.2.1 y.2.2) (λ_ _ _ y=>y) _ _ (x s p e1 e2 aP))
theorem af.bv{m:Sem ay}{f:ay->Sem bF}{Q:bF->bq->Prop}{a:ay}{av:bq}(d:∀P:ay->bq->Prop,P a av->af w bp ah m P h)(k:af w bp ah (f a) Q av):af w bp ah (m>>=f) Q h:=af.bind (d _ k)
theorem af.ifn[Decidable c]{a b:Sem ay}{Q:ay->bq->Prop}(n:¬c)(k:af w bp ah b Q h):af w bp ah (if c then a else b) Q h:=G (a8 n) k
theorem af.ifp[Decidable c]{a b:Sem ay}{Q:ay->bq->Prop}(n:c)(k:af w bp ah a Q h):af w bp ah (if c then a else b) Q h:=G (aY n) k
section
variable {M:qh}{A:kI}{E:aG->cn->Prop}{s aS:cn}
theorem bN{m:Sem ay}{f:ay->Sem bF}{Q:bF->cn->Prop}{a:ay}(d:∀P:ay->cn->Prop,P a aS->cG M A m P E s)(k:cG M A (f a) Q E aS):cG M A (m>>=f) Q E s:=b4 (d _ k)
theorem jt[Decidable c]{a b:Sem ay}{Q:ay->cn->Prop}(n:¬c)(k:cG M A b Q E s):cG M A (if c then a else b) Q E s:=G (a8 n) k
theorem yM[Decidable c]{a b:Sem ay}{Q:ay->cn->Prop}(n:c)(k:cG M A a Q E s):cG M A (if c then a else b) Q E s:=G (aY n) k
end
theorem af.holding{m:Sem ay}{Q:ay->bq->Prop}(x:af w bp ah m Q h):af w bp ah (PySem.holding vs m) Q h:=λs p e1 e2 aP=>by
 exact G (Sem.wp_holding ..) (x s p e1 e2 aP)
theorem af.standAt{pos:Pos}{Q:Unit->bq->Prop}(k:Q () h):af w bp ah (PySem.standAt pos) Q h:=λs p e1 e2 aP=>⟨e1▸k,e2,aP⟩
theorem af.point{Q:Unit->bq->Prop}(k:Q () h):af w bp ah PySem.point Q h:=λs p e1 e2 aP=>⟨e1▸k,e2,aP⟩
theorem af.rule{Lj:String}{Q:Unit->bq->Prop}(k:Q () h):af w bp ah (PySem.rule Lj) Q h:=λs p e1 e2 aP=>⟨e1▸k,e2,aP⟩
theorem af.keep{m:Sem ay}{Q:ay->bq->Prop}(x:af w bp ah m Q h):af w bp ah (m.keep vs) Q h:=λs p e1 e2 aP=>by
 exact G (Sem.wp_keep ..) (x s p e1 e2 aP)
theorem af.operate{m:Sem aG}(x:af w bp ah m Q h):af w bp ah (PySem.operate vs m) Q h:=λs p e1 e2 aP=>by
 exact G (Sem.wp_operate ..) (x s p e1 e2 aP)
theorem af.onRaise{m:Sem ay}{k:aG->Sem Unit}{Q:ay->bq->Prop}(x:af w bp ah m Q h):af w bp ah (m.onRaise k) Q h:=λs p e1 e2 aP=>by
 exact G (Sem.wp_onRaise ..) (lJ _ _ _ (λ_ _ _ y=>y) (λ_ _ _ y=>y.elim) _ _ (x s p e1 e2 aP))
theorem af.attempt{m:Sem ay}{Q:Except aG ay->bq->Prop}(x:af w bp ah m (λa=>Q (.ok a)) h):af w bp ah m.attempt Q h:=λs p e1 e2 aP=>by
 exact G (Sem.wp_attempt ..) (lJ _ _ _ (λ_ _ _ y=>y) (λ_ _ _ y=>y.elim) _ _ (x s p e1 e2 aP))
theorem af.release{ff:List aG}{Q:Unit->bq->Prop}(k:Q () h):af w bp ah (PySem.release vs ff) Q h:=λs p e1 e2 aP=>by
 exact G (Sem.wp_release ..) (⟨e1▸k,e2,aP⟩)
theorem af.ask{Q:Setting->bq->Prop}(k:Q ⟨prog,w.params⟩ h):af w bp ah PySem.ask Q h:=λs p e1 e2 aP=>⟨e1▸k,e2,aP⟩
theorem af.mkInt{i:Int}(k:∀t,Q (.int i t) h):af w bp ah (PySem.mkInt i) Q h:=λs p e1 e2 aP=>⟨e1▸k _,e2,aP⟩
theorem af.mkText{x:Str}(k:∀t,Q (.str x t) h):af w bp ah (PySem.mkText x) Q h:=λs p e1 e2 aP=>⟨e1▸k _,e2,aP⟩
theorem af.mkTextBytes{x:Array UInt8}(k:∀t,Q (.bytes x t) h):af w bp ah (PySem.mkTextBytes x) Q h:=λs p e1 e2 aP=>⟨e1▸k _,e2,aP⟩
theorem af.mkBytes{x:Array UInt8}(aO:x.size<=mh)(k:∀t,Q (.bytes x t) h):af w bp ah (PySem.mkBytes x) Q h:=by
 unfold PySem.mkBytes;exact G (a8 (n9.mpr aO)) (λs p e1 e2 aP=>⟨e1▸k _,e2,aP⟩)
theorem af.load{a:a1}{o:Obj}{Q:Obj->bq->Prop}(e:h.get? a=J o)(k:Q o h):af w bp ah (PySem.load a) Q h:=λs p e1 e2 aP=>⟨o,e1▸e,e1▸k,e2,aP⟩
theorem af.alloc{o:Obj}{Q:a1->bq->Prop}(k:Q h.objs.size (h.push o)):af w bp ah (PySem.alloc o) Q h:=λs p e1 e2 aP=>by subst e1;exact⟨k,e2,aP⟩
theorem af.ite[Decidable c]{a b:Sem ay}{Q:ay->bq->Prop}(k1:c->af w bp ah a Q h)(k2:¬c->af w bp ah b Q h):af w bp ah (if c then a else b) Q h:=by
 split
 ·exact k1 (by assumption)
 ·exact k2 (by assumption)
theorem af.ret{v:aG}{Q:Fin->bq->Prop}(k:Q (.done (.ret v)) h):af w bp ah (PySem.ret v) Q h:=λs p e1 e2 aP=>⟨e1▸k,e2,aP⟩
theorem af.again{c:lH}{Q:Fin->bq->Prop}(k:Q (.again c) h):af w bp ah (PySem.again c) Q h:=λs p e1 e2 aP=>⟨e1▸k,e2,aP⟩
theorem af.any{t:Sem ay}{Q:ay->bq->Prop}{A:kI}(cS:ah.In A)(x:∀s,s.heap=h->s.gens= #[]->s.os=bp->cG (c8 prog w) A t (λa aS=>Q a aS.heap/\aS.gens= #[]/\aS.os=bp) (λ_ _=>False) s):af w bp ah t Q h:=
 λs p e1 e2 aP=>x s e1 e2 aP ah p cS
theorem af.looks{t:Sem ay}{r:ay}{Q:ay->bq->Prop}(ok:bz a9 n ah)(x:Looks (c8 prog w) h t r)(k:Q r h):af w bp ah t Q h:=by
 obtain⟨A,cS,_⟩:=ok.room;exact af.any cS λs e1 e2 aP=>x A _ _ s (λ_ _ e=>e1▸e) ⟨e1▸k,e2,aP⟩
def ji(w:eJ)(bp:gv)(ah:Ctx)(R:aG->bq->Prop)(h:bq):Prop:=
 ∀s p,s.heap=h->s.gens= #[]->s.os=bp->wpCode (c8 prog w) ah (λr aS=>∃v,r=.ok (.ret v)/\R v aS.heap/\aS.gens= #[]/\aS.os=bp) p s
theorem ji.tree{R:aG->bq->Prop}{c:lH}(aD:ah.code=c)(x:af w bp ah ((c8 prog w).den c) (λcq av=>match cq with | .done f=>∃v,f=.ret v/\R v av| .again c'=>c'.quiet=ae/\ji w bp (ah.goto c') R av) h):ji w bp ah R h:=λs p e1 e2 aP=>by
 (refine fB (N1 ..) ?_;rw [aD])
 refine lJ _ _ _ (λcq gZ aS y=>?_) (λ_ _ _ y=>y.elim) _ _ (x s p e1 e2 aP)
 refine dS y λcA de fi=>?_
 induction cq using PySem.Fin.casesOn with
 |done f=>refine bU cA λv Kn r=>?_;obtain rfl:=Kn;exact⟨v,rfl,r,de,fi⟩
 |again c'=>exact⟨cA.1,cA.2 aS gZ rfl de fi⟩
theorem af.runValue{c:lH}(x:∀p,ji w bp (ah.enter c ac p) Q h):af w bp ah (PySem.runValue c) Q h:=λs p e1 e2 aP=>by
 refine G (Sem.wp_runValue ..) (GK (λr aS y=>?_) (x p s p e1 e2 aP))
 refine kT y λv Ko a b=>?_;obtain rfl:=Ko
 exact⟨a,b⟩
theorem af.call{f:aG}{pos:List aG}{iT:List (Str×aG)}(x:∀p,ji w bp (ah.enter (.call f ⟨pos,iT⟩) ac p) Q h):af w bp ah (PySem.call f pos iT) Q h:=af.runValue x
theorem P9(ok:bz a9 n ah){self:aG}{Q:Bool->bq->Prop}(k:Q aA h):af w bp ah (Builtin.Bytes.exported self) Q h:=λs p e1 e2 aP=>by
 have key:∀(c:lH) (q:Pos),qQ c=ae->∀f:lH×Pos->Bool,(∀id a q,qw.contains id=aA->f (.builtin id a,q)=aA)->(∀c q,(∀id a,c≠.builtin id a)->f (c,q)=aA)->f (c,q)=aA:=by
  intro c q aD f ai ak;by_cases hb:∃id a,c=.builtin id a
  ·refine oY hb λid a Kp=>?_;obtain rfl:=Kp
   exact ai _ _ _ (by simpa [qQ] using aD)
  ·exact ak _ _ λid a e=>hb ⟨id,a,e⟩
 have aef:∀a9:lH×Pos->Bool,(∀id a q,qw.contains id=aA->a9 (.builtin id a,q)=aA)->(∀c q,(∀id a,c≠.builtin id a)->a9 (c,q)=aA)->((ah.code,p)::ah.below).any a9=aA:=by
  intro a9 ai ak;refine fB List.any_eq_false ?_;intro x aO;refine G (Bool.not_eq_true ..) ?_;have hn:qQ x.1=ae:=by
   rcases fw.mp aO with rfl|aO
   ·exact ok.here
   ·exact ok.below x aO
  obtain⟨c,q⟩:=x;exact key c q hn a9 ai ak
 refine⟨Eq.subst (motive:=λb=>Q b s.heap) (aef _ (λid a q hi=>?_) (λc q hb=>?_)).symm (e1▸k),e2,aP⟩
 ·have tH:id≠"bytearray.__contains__"/\id≠"bytearray.__mod__"/\id≠"bytearray.__rmod__"/\id≠"_struct.pack_into.held"/\id≠"bytearray.find.held"/\NE.contains id=aA:=by
   simp only [qw,List.contains_append,Us,uw,List.contains_nil,Bool.or_false,beq_eq_false_iff_ne] at hi;refine cz hi λKq f=>?_;refine ar4 Kq λa b c d e=>?_
   exact⟨a,b,c,d,e,f⟩
  refine Ud tH λn1 n2 A4 ahX JM ahY=>?_;clear tH
  obtain⟨pos,iT⟩:=a;delta PySem.Builtin.Bytes.exported.match_1
  refine(dif_neg n1).trans ((dif_neg n2).trans ((dif_neg A4).trans ((dif_neg ahX).trans ((dif_neg JM).trans ?_))));induction pos using mO with
  |nil=>rfl
  |cons v r=>
   show(Builtin.Bytes.sameRef v self&&NE.contains id)=aA
   (exact G (ahY ..) (G (Bool.and_false ..) rfl))
 ·rcases c<;>first |rfl|exact absurd rfl (hb _ _)
end
end
variable {n:Nat}{vs:List aG}{a9:List a1}{w:eJ}{ah:Ctx}{ay bF:Type}{h:bq}{A:kI}{E:aG->cn->Prop}{s:cn}
end Mine.Internal
end
noncomputable section
set_option tactic.hygienic true
open PySem PySem.W PyProof.Rows PySem.Calls
namespace Mine.Internal
def Dk(e:aU):Bool:=iP e aA (kBoolOp:=λ_ _ _=>ae) (kBinOp:=λ_ _ _ _=>ae) (kUnaryOp:=λ_ _ _=>ae) (kIfExp:=λ_ _ _ _=>ae) (kDict:=λ_ _ _=>ae) (kListComp:=λ_ _ _ _=>ae) (kCompare:=λ_ _ _ _=>ae) (kCall:=λ_ _ _ _=>ae) (kConstant:=λ_ _ _=>ae) (kAttribute:=λ_ _ _=>ae) (kSubscript:=λ_ _ _=>ae) (kName:=λ_ _=>ae) (kList:=λ_ _=>ae) (kTuple:=λ_ _ _=>ae) (kSlice:=λ_ _ _ _=>ae)
theorem mW{P:aU->Prop}(kBoolOp:∀a b c,P (.BoolOp a b c))(kBinOp:∀a b c d,P (.BinOp a b c d))(kUnaryOp:∀a b c,P (.UnaryOp a b c))(kIfExp:∀a b c d,P (.IfExp a b c d))(kDict:∀a b c,P (.Dict a b c))(kListComp:∀a b c d,P (.ListComp a b c d))(kCompare:∀a b c d,P (.Compare a b c d))(kCall:∀a b c d,P (.Call a b c d))(kConstant:∀a b c,P (.Constant a b c))(kAttribute:∀a b c,P (.Attribute a b c))(kSubscript:∀a b c,P (.Subscript a b c))(kName:∀a b,P (.Name a b))(kList:∀a b,P (.List a b))(kTuple:∀a b c,P (.Tuple a b c))(kSlice:∀a b c d,P (.Slice a b c d))(j:∀e,(∀ {ay:Type} {d:ay} {kBoolOp:ww->List aU->Pos->ay} {kBinOp:aU->oh->aU->Pos->ay} {kUnaryOp:UnaryOp->aU->Pos->ay} {kIfExp:aU->aU->aU->Pos->ay} {kDict:List (Option aU)->List aU->Pos->ay} {kListComp:aU->List Gn->jA->Pos->ay} {kCompare:aU->List CmpOp->List aU->Pos->ay} {kCall:aU->List aU->List Keyword->Pos->ay} {kConstant:Const->Nat->Pos->ay} {kAttribute:aU->Str->Pos->ay} {kSubscript:aU->aU->Pos->ay} {kName:Str->Pos->ay} {kList:List aU->Pos->ay} {kTuple:List aU->Nat->Pos->ay} {kSlice:Option aU->Option aU->Option aU->Pos->ay},iP e d kBoolOp kBinOp kUnaryOp kIfExp kDict kListComp kCompare kCall kConstant kAttribute kSubscript kName kList kTuple kSlice=d)->P e)(e:aU):P e:=
 Expr.casesOn (motive_1:=P) e kBoolOp (λ_ _ _=>j _ λ{ay d}=>iv d) kBinOp kUnaryOp (λ_ _ _ _=>j _ λ{ay d}=>iv d) kIfExp kDict (λ_ _ _=>j _ λ{ay d}=>iv d) kListComp (λ_ _ _ _=>j _ λ{ay d}=>iv d) (λ_ _ _ _ _=>j _ λ{ay d}=>iv d) (λ_ _ _ _=>j _ λ{ay d}=>iv d) (λ_ _=>j _ λ{ay d}=>iv d) (λ_ _=>j _ λ{ay d}=>iv d) (λ_ _=>j _ λ{ay d}=>iv d) kCompare kCall (λ_ _ _ _=>j _ λ{ay d}=>iv d) (λ_ _=>j _ λ{ay d}=>iv d) kConstant kAttribute kSubscript (λ_ _=>j _ λ{ay d}=>iv d) kName kList kTuple kSlice
theorem aoQ{P:cD->Prop}(kFunctionDef:∀a b c d e f aB h i j,P (.FunctionDef a b c d e f aB h i j))(kClassDef:∀a b c d e f aB h i j k,P (.ClassDef a b c d e f aB h i j k))(kReturn:∀a b,P (.Return a b))(kDelete:∀a b,P (.Delete a b))(kAssign:∀a b c,P (.Assign a b c))(kAugAssign:∀a b c d,P (.AugAssign a b c d))(kFor:∀a b c d e,P (.For a b c d e))(kWhile:∀a b c d,P (.While a b c d))(kIf:∀a b c d,P (.If a b c d))(kRaise:∀a b c,P (.Raise a b c))(kTry:∀a b c d e,P (.Try a b c d e))(kExpr:∀a b,P (.Expr a b))(kPass:∀a,P (.Pass a))(kBreak:∀a,P (.Break a))(j:∀e,(∀ {ay:Type} {d:ay} {kFunctionDef:Str->Arguments->List cD->List aU->Option aU->List TypeParam->jA->Option jA->Str->Pos->ay} {kClassDef:Str->List aU->List Keyword->List cD->List aU->List TypeParam->jA->Option jA->Str->List Str->Pos->ay} {kReturn:Option aU->Pos->ay} {kDelete:List aU->Pos->ay} {kAssign:List aU->aU->Pos->ay} {kAugAssign:aU->oh->aU->Pos->ay} {kFor:aU->aU->List cD->List cD->Pos->ay} {kWhile:aU->List cD->List cD->Pos->ay} {kIf:aU->List cD->List cD->Pos->ay} {kRaise:Option aU->Option aU->Pos->ay} {kTry:List cD->List ExceptHandler->List cD->List cD->Pos->ay} {kExpr:aU->Pos->ay} {kPass:Pos->ay} {kBreak:Pos->ay},oS e d kFunctionDef kClassDef kReturn kDelete kAssign kAugAssign kFor kWhile kIf kRaise kTry kExpr kPass kBreak=d)->P e)(e:cD):P e:=
 Stmt.casesOn (motive_2:=P) e kFunctionDef (λ_ _ _ _ _ _ _ _ _ _=>j _ λ{ay d}=>iv d) kClassDef kReturn kDelete kAssign (λ_ _ _ _ _ _ _=>j _ λ{ay d}=>iv d) kAugAssign (λ_ _ _ _ _=>j _ λ{ay d}=>iv d) kFor (λ_ _ _ _ _=>j _ λ{ay d}=>iv d) kWhile kIf (λ_ _ _=>j _ λ{ay d}=>iv d) (λ_ _ _=>j _ λ{ay d}=>iv d) (λ_ _ _=>j _ λ{ay d}=>iv d) kRaise kTry (λ_ _ _ _ _=>j _ λ{ay d}=>iv d) (λ_ _ _=>j _ λ{ay d}=>iv d) (λ_ _=>j _ λ{ay d}=>iv d) (λ_ _ _ _=>j _ λ{ay d}=>iv d) (λ_ _=>j _ λ{ay d}=>iv d) (λ_ _=>j _ λ{ay d}=>iv d) kExpr kPass kBreak (λ_=>j _ λ{ay d}=>iv d)
theorem jM{ay:Type}{o:Option ay}{P:ay->Prop}{aa:Prop}(w:oa (motive:=λ_=>Prop) o False P)(k:∀c,o=J c->P c->aa):aa:=by
 rcases o with _|c
 ·exact w.elim
 ·exact k c rfl w
theorem Kf{ay bF:Type}{o:Option (ay×bF)}{P:ay->bF->Prop}{aa:Prop}(w:oa (motive:=λ_=>Prop) o False λc=>Prod.casesOn (motive:=λ_=>Prop) c P)(k:∀a b,o=J (a,b)->P a b->aa):aa:=by
 rcases o with _|c
 ·exact w.elim
 ·exact k c.1 c.2 rfl w
theorem qI{c:Prop}{_:Decidable c}{P aa:Prop}(w:if c then P else False)(k:c->P->aa):aa:=by
 by_cases h:c
 ·rw [aY h] at w;exact k h w
 ·rw [a8 h] at w;exact w.elim
theorem oN{ay bF:Type _}{a c:ay}{b d:bF}{aa:Prop}(e:(a,b)=(c,d))(k:a=c->b=d->aa):aa:=k (congrArg Prod.fst e) (congrArg rA e)
theorem lX{ay bF:Type}{a c:ay}{b d:bF}{aa:Prop}(e:J (a,b)=J (c,d))(k:a=c->b=d->aa):aa:=oN (ci e) k
theorem gb{ay bF:Type}{o:Option ay}{f:ay->Option bF}{y:bF}{aa:Prop}(e:o.bind f=J y)(k:∀x,o=J x->f x=J y->aa):aa:=by
 rcases o with _|x
 ·exact br e
 ·exact k x rfl e
theorem eZ{a b:Bool}(h:(a&&b)=ae):a=ae:=by
 rcases a
 ·exact b8 h
 ·rfl
theorem eK{a b:Bool}(h:(a&&b)=ae):b=ae:=by
 rcases a
 ·exact b8 h
 ·exact h
theorem fm{a b:Bool}(h:(a&&b)=ae):a=ae/\b=ae:=by rwa [he] at h
theorem xo{a:Bool}(h:(!a)=ae):a=aA:=by rwa [Bool.not_eq_true'] at h
theorem tq{P:Prop}(b:Bool)(t:b=ae->P)(f:b=aA->P):P:=(Bool.eq_false_or_eq_true b).elim t f
noncomputable def A7(e:aU):Bool:= !(e.ctorIdx==20)
noncomputable def m5(e:aU):Bool:= !(e.ctorIdx==23)
noncomputable def A8(e:aU):Bool:= !(e.ctorIdx==26)
def gA(aH:List aU):Bool:=aH.all λe=> !(e.ctorIdx==22)
noncomputable def xs(e:aU):Bool:= !(kG 3 e.ctorIdx||(kG 0 e.ctorIdx||(kG 15 e.ctorIdx||kG 5 e.ctorIdx)))
def A5(e:aU):Bool:=iP e aA (kCall:=λf _ _ _=> !m5 f)
end Mine.Internal
end
noncomputable section
open PySem PySem.W PyProof.Rows PySem.Calls
namespace Mine.Internal
section
variable {a9:List a1}
section
variable {w:eJ}{bp:gv}{ah:Ctx}{ay bF:Type}{h:bq}{n:Nat}
theorem bz.call(ok:bz a9 (n+1) ah)(f:aG)(dg:Args)(p:Pos):bz a9 n (ah.enter (.call f dg) ac p):=
 ok.enter (.call f dg) (.call f dg) p rfl (by show 0<=2;exact hf _) (by show 1<=40;exact mQ rfl)
theorem bz.goFunc(ok:bz a9 (n+1) ah)(f:aG)(dg:Args)(body:List cD)(Z:Env)(p:Pos)(bl:Z.scope.kind≠.module/\∃b∈a9,Z.frame=J b):bz a9 n ((ah.enter (.call f dg) ac p).goto (.func body Z)):=
 ok.enterF (.call f dg) (.func body Z) p rfl (by show 1<=2;exact mQ rfl) (by show 3<=40;exact mQ rfl) λe aO=>by
  exact G (jk.mp (show e∈[Z] from aO)) bl
theorem DM{id:String}{dg:Args}{b:Builtin}{R:aG->bq->Prop}(aD:ah.code=.builtin id dg)(hb:ql nu id=J b)
  (x:af w bp ah (b dg) (λcq av=>match cq with | .done f=>∃v,f=.ret v/\R v av| .again c'=>c'.quiet=ae/\ji w bp (ah.goto c') R av) h):ji w bp ah R h:=by
 refine ji.tree aD ?_;show af w bp ah (match ql nu id with |J b=>b dg|ac=>unsupported ((withoutEnding? id "#data").getD id)) _ h
 exact G hb x
theorem Q6{id:String}{dg:Args}{R:aG->bq->Prop}(aD:ah.code=.call (.builtin id) dg)
  (x:af w bp ah (rE id dg) (λ_ av=>(Code.builtin id dg).quiet=ae/\ji w bp (ah.goto (.builtin id dg)) R av) h):ji w bp ah R h:=by
 exact ji.tree aD (af.bind (af.mono x λ_ av q=>af.again q))
set_option maxHeartbeats 2000000 in
theorem af8{C:a1}{ct:List aG}{iT:List (Str×aG)}{Je:a1}{K:Frag}{Q:aG->bq->Prop}(ok:bz a9 (n+3) ah)(X:K.In h)(bc:makesIn K C=ae)(hi:nr K (.ref C) "__init__"=J (J (.ref Je)))(aq:typeIn K (.ref Je)=J (.type "function"))
  (k:∀gU,bz a9 (n+1) gU->af w bp gU (PySem.call (.ref Je) (.ref (h.objs.size+1)::ct) iT) (λv av=>v=.none/\Q (.ref (h.objs.size+1)) av) ((h.push rC).push (kj C h.objs.size))):
  af w bp ah (PySem.call (.ref C) ct iT) Q h:=by
 have Y:=makes_of (M:=c8 prog w) X bc;have WR:=Y;obtain⟨⟨J9,od,i5,sl,dD,e1,e2,jD⟩,ahH,base,self,atb,call,apo⟩:=Y;refine af.call λp=>ji.tree rfl ?_
 have D5:=ok.call (.ref C) ⟨ct,iT⟩ p;show af w bp _ (callAny (.ref C) ⟨ct,iT⟩) _ h
 refine af.bv (λ_=>af.load dD) (af.bv (λ_=>af.looks D5 call) ?_)
 dsimp only;refine G (tc_bind ..) (af.bv (λ_=>af.pure) (af.bv (λ_=>af.pure) ?_))
 refine af.again (c:=.call (.builtin "type.__call__") ⟨.ref C::ct,iT⟩) ⟨rfl,?_⟩;have Sz:bz a9 (n+2) ((ah.enter (.call (.ref C) ⟨ct,iT⟩) ac p).goto (.call (.builtin "type.__call__") ⟨.ref C::ct,iT⟩)):=ok.enter _ _ p rfl (by show 0<=2;exact hf _) (by show 1<=40;exact mQ rfl)
 refine Q6 rfl ?_;obtain⟨v9,aes,_⟩:=Sz.room;refine af.any aes λs aM a7 q3=>check_slot tc_kind tc_split (G aM apo) (tc_args _ _ _) ⟨?_,a7,q3⟩
 refine G aM (⟨Gm _ (by decide+kernel),?_⟩)
 have oM:bz a9 (n+2) ((ah.enter (.call (.ref C) ⟨ct,iT⟩) ac p).goto (.builtin "type.__call__" ⟨.ref C::ct,iT⟩)):=ok.enter _ _ p (by show(!qw.contains "type.__call__")=ae;decide+kernel) (by show 1<=2;exact mQ rfl) (by show 1<=40;exact mQ rfl)
 refine DM rfl NO ?_;have i7:Looks (c8 prog w) h (mroOf (.ref C)) i5.mro:=((Looks.ld (part:=ac) dD).andThen .now).andThen .now;obtain⟨wa,Dp,_⟩:=oM.room;refine af.bv (λ_=>af.looks oM i7) ?_
 refine af.ifn (by refine G jD ?_;decide) ?_
 refine af.bv (λ_=>af.looks oM ahH) (af.bv (λ_=>af.pure) (af.bind (af.holding (af.any Dp λs aM a7 q3=>?_))))
 obtain⟨a6,aI,d,tk,os⟩:=s;dsimp only at aM a7 q3;subst aM;refine CG (new_K WR (Cv X hi) (.inl rfl) ?_);refine⟨?_,a7,q3⟩;have kt:∀b o,a6.get? b=J o->((a6.push rC).push (kj C a6.objs.size)).get? b=J o:=λb o e=>k6 _ (k6 _ e)
 have aO:((a6.push rC).push (kj C a6.objs.size)).get? (a6.objs.size+1)=J (kj C a6.objs.size):=by
  have :=hU (a6.push rC) (o:=kj C a6.objs.size) rfl;rwa [ib] at this
 have lY:Looks (c8 prog w) ((a6.push rC).push (kj C a6.objs.size)) (typeOf (.ref (a6.objs.size+1))) (.ref C):=(Looks.ld aO).andThen .now;have cP:=self.keeps kt;have kM:=(Cv (M:=c8 prog w) X hi).keeps kt;have fy:=(bind_fn (M:=c8 prog w) X (.ref (a6.objs.size+1)) aq).keeps kt;refine af.bv (λ_=>af.looks oM (lY.andThen cP)) (af.ifn (by decide) (af.bind (af.holding ?_)))
 refine af.bind (af.bind (af.looks oM lY (af.looks oM kM ?_)));refine af.holding (af.bv (λ_=>af.looks oM fy) (af.bind ?_))
 have aiY:bz a9 (n+1) (((ah.enter (.call (.ref C) ⟨ct,iT⟩) ac p).goto (.call (.builtin "type.__call__") ⟨.ref C::ct,iT⟩)).goto (.builtin "type.__call__" ⟨.ref C::ct,iT⟩)):=oM.mono (uB (n+1));refine af.mono (k _ aiY) λv av q=>?_
 obtain⟨rfl,q⟩:=q;refine af.pure (af.ret ⟨_,rfl,q⟩)
end
end
variable {a9:List a1}{w:eJ}{ah:Ctx}{ay bF:Type}{h:bq}{n:Nat}
theorem aoi(s:cn)(aB:a1)(x:GenState):(s.setGen aB x).heap=s.heap:=rfl
theorem K3{M:qh}{p:Pos}{t:Sem Fin}{fs:List Frame}{s aS:cn}{e:End}(x:Runs M ah p t fs s e aS):s.heap.objs.size<=aS.heap.objs.size:=by
 induction x<;>first |exact cW _|assumption|lia|(simp only [aoi,qg,ib] at *;lia)
theorem aqQ{M:qh}{p:Pos}{aB:Nat}{r:Resume}{s aS:cn}{xy:GenResult}(x:Wakes M ah p aB r s xy aS):s.heap.objs.size<=aS.heap.objs.size:=by
 unfold Wakes at x;split at x
 ·exact x.elim
 ·split at x
  ·refine tY x λe1 cP h _ _ amF=>?_;obtain rfl:=amF
   have z:=K3 h;exact z
  ·refine cz x λ_ amG=>?_;obtain rfl:=amG;exact cW _
  ·refine cz x λ_ amH=>?_;obtain rfl:=amH;exact cW _
 ·refine tY x λe1 cP h _ _ amI=>?_;obtain rfl:=amI
  have z:=K3 h;exact z
 ·refine cz x λ_ amJ=>?_;obtain rfl:=amJ;exact cW _
 ·refine cz x λ_ amK=>?_;obtain rfl:=amK;exact cW _
theorem arI{M:qh}{ay:Type}(t:Sem ay):∀ {Q:ay->Pos->cn->Prop} {E:aG->Pos->cn->Prop} {p:Pos} {s s₀:cn},s₀.heap.objs.size<=s.heap.objs.size->gN M ah t Q E p s->
  gN M ah t (λa gZ aS=>Q a gZ aS/\s₀.heap.objs.size<=aS.heap.objs.size) (λe gZ aS=>E e gZ aS/\s₀.heap.objs.size<=aS.heap.objs.size) p s:=by
 induction t with
 |pure a=>intro Q E p s s₀ h x;exact⟨x,h⟩
 |raise e=>intro Q E p s s₀ h x;exact⟨x,h⟩
 |unsupported w=>intro Q E p s s₀ h x;exact x
 |finish w=>intro Q E p s s₀ h x;exact x
 |rule Lj k ih=>intro Q E p s s₀ h x;rw [gN] at x⊢;exact ih _ h x
 |«at» Lj k ih=>intro Q E p s s₀ h x;rw [gN] at x⊢;exact ih _ h x
 |load a part k ih=>intro Q E p s s₀ h x;rw [gN] at x⊢;refine bU x λo e x=>?_;exact⟨o,e,ih _ h x⟩
 |update a part f k ih=>intro Q E p s s₀ h x;rw [gN] at x⊢;exact⟨x.1,ih _ (G (qg ..) h) x.2⟩
 |loadIfAlive a k ih=>intro Q E p s s₀ h x;rw [gN] at x⊢;exact ih _ h x
 |point l k ih=>intro Q E p s s₀ h x;rw [gN] at x⊢;exact ih _ h x
 |register=>intro Q E p s s₀ h x;rw [gN] at x;exact x.elim
 |alloc o k ih=>intro Q E p s s₀ h x;rw [gN] at x⊢;exact ih _ (G (ib ..) (Nat.le_add_right_of_le h)) x
 |fresh k ih=>intro Q E p s s₀ h x;rw [gN] at x⊢;exact ih _ h x
 |ask k ih=>intro Q E p s s₀ h x;rw [gN] at x⊢;exact ih _ h x
 |choose src n k ih=>intro Q E p s s₀ h x;rw [gN] at x⊢;exact⟨x.1,ih _ h x.2⟩
 |os q l k ih=>intro Q E p s s₀ h x;rw [gN] at x⊢;exact ih _ h x
 |call c a6 aB l k ih=>
  intro Q E p s s₀ h x;rw [gN] at x⊢;exact mF x λr aS da x=>⟨r,aS,da,ih _ (cQ h (K3 da)) x⟩
 |handled own k ih=>intro Q E p s s₀ h x;rw [gN] at x⊢;exact ih _ h x
 |genState aB k ih=>intro Q E p s s₀ h x;rw [gN] at x⊢;refine bU x λo e x=>?_;exact⟨o,e,ih _ h x⟩
 |newGen c k ih=>intro Q E p s s₀ h x;rw [gN] at x⊢;exact ih _ h x
 |resume aB r l k ih=>
  intro Q E p s s₀ h x;rw [gN] at x⊢;exact mF x λxy aS da x=>⟨xy,aS,da,ih _ (cQ h (aqQ da)) x⟩
 |yield=>intro Q E p s s₀ h x;rw [gN] at x;exact x.elim
 |stack k ih=>intro Q E p s s₀ h x;rw [gN] at x⊢;exact ih _ h x
 |fork=>intro Q E p s s₀ h x;rw [gN] at x;exact x.elim
 |thread k ih=>intro Q E p s s₀ h x;rw [gN] at x⊢;exact ih _ h x
 |await=>intro Q E p s s₀ h x;rw [gN] at x;exact x.elim
theorem af.sized{w:eJ}{bp:gv}{ay:Type}{t:Sem ay}{Q:ay->bq->Prop}{h:bq}(x:af w bp ah t (λa av=>h.objs.size<=av.objs.size->Q a av) h):af w bp ah t Q h:=λs p e1 e2 aP=>by
 refine lJ _ _ _ (λa gZ aS y=>?_) (λ_ _ _ y=>y.1) _ _ (arI t (s₀:=s) (cW _) (x s p e1 e2 aP))
 refine cz y λamL z=>?_;refine dS amL λcA de fi=>?_
 exact⟨cA (cT e1 z),de,fi⟩
section
variable {k v y:L}{l:List L}
set_option genInjectivity true in
inductive L where
 |none|bool (b:Bool)|int (i:Int)|bytes (l:List UInt8)|str (s:Str)|new (i:Nat)|st (v:aG)
 deriving DecidableEq
inductive bt where
 |inst (c:a1) (aN:List (Str×L))|list (l:List L)|tup (l:List L)|dict (l:List (L×L))|set (l:List L)|ba (l:List UInt8)|scr (l:List L)
noncomputable abbrev an:=List bt
noncomputable def isInt(v:L):Bool:=L.casesOn (motive:=λ_=>Bool) v aA (λ_=>aA) (λ_=>ae) (λ_=>aA) (λ_=>aA) (λ_=>aA) λ_=>aA
noncomputable def qJ(v:L):Option Int:=L.casesOn (motive:=λ_=>Option Int) v ac (λ_=>ac) J (λ_=>ac) (λ_=>ac) (λ_=>ac) (λ_=>ac)
noncomputable def A6(v:L):Option Nat:=L.casesOn (motive:=λ_=>Option Nat) v ac (λ_=>ac) (λ_=>ac) (λ_=>ac) (λ_=>ac) J (λ_=>ac)
noncomputable def QW(o:bt):Option (a1×List (Str×L)):=bt.casesOn (motive:=λ_=>Option (a1×List (Str×L))) o (λc l=>J (c,l)) (λ_=>ac) (λ_=>ac) (λ_=>ac) (λ_=>ac) (λ_=>ac) (λ_=>ac)
noncomputable def AX(o:bt):Option (List L):=bt.casesOn (motive:=λ_=>Option (List L)) o (λ_ _=>ac) J (λ_=>ac) (λ_=>ac) (λ_=>ac) (λ_=>ac) (λ_=>ac)
noncomputable def Kg(vs:List L):Option L:=mO (motive:=λ_=>Option L) vs ac λv t=>mO (motive:=λ_=>Option L) t (J v) λ_ _=>ac
def listOf(v:L)(H:an):Option Nat:=(A6 v).bind λi=>(H[i]?.bind AX).bind λ_=>J i
theorem r4{a:Int}(e:qJ v=J a):v=.int a:=by
 rcases v<;>first |exact br e|exact congrArg L.int (ci e)
theorem JO{j:Nat}(e:A6 v=J j):v=.new j:=by
 rcases v<;>first |exact br e|exact congrArg L.new (ci e)
theorem afO{o:bt}{p:a1×List (Str×L)}(e:QW o=J p):o=.inst p.1 p.2:=by
 rcases o<;>first |exact br e|(rw [<-ci e])
theorem Rz{o:bt}(e:AX o=J l):o=.list l:=by
 rcases o<;>first |exact br e|exact congrArg bt.list (ci e)
theorem ai0{vs:List L}(e:Kg vs=J v):vs=[v]:=by
 rcases vs with _|⟨u,_|⟨_,_⟩⟩<;>first |exact br e|exact congrArg (λv=>[v]) (ci e)
theorem DC{aa:Prop}(h:isInt v=ae)(k:∀i,v=.int i->aa):aa:=by
 rcases v<;>first |exact k _ rfl|exact Bool.noConfusion h
noncomputable abbrev Loc:=List (Str×L)
inductive jw where
 |next|brk|cont|ret (v:L)
def cy{bF:Type}(l:List (Str×bF))(x:Str):Option bF:=zt ac (λp _ r=>if p.1=x then J p.2 else r) l
def fA{bF:Type}(l:List (Str×bF))(x:Str)(v:bF):List (Str×bF):=zt [(x,v)] (λp t r=>if p.1=x then(x,v)::t else p::r) l
theorem pF{bF:Type}{y:Str}{v:bF}{l:List (Str×bF)}{x:Str}:cy ((y,v)::l) x=if y=x then J v else cy l x:=rfl
theorem Kl{bF:Type}{y:Str}{u:bF}{l:List (Str×bF)}{x:Str}{v:bF}:fA ((y,u)::l) x v=if y=x then(x,v)::l else(y,u)::fA l x v:=rfl
noncomputable def bH(n:Nat):Bool:=n<=65536
noncomputable def cH(a:Int):Bool:=a.natAbs<2^62
noncomputable def QX(bM:oh)(a b:Int)(H:an):Option (L×an):=match bM with
 | .Add=>J (.int (a+b),H)
 | .Sub=>J (.int (a - b),H)
 | .Mult=>if cH a&&cH b then J (.int (a*b),H) else ac
 | .FloorDiv=>if b=0 then ac else if b.natAbs<1000000 then J (.int (a.fdiv b),H) else ac
 | .Mod=>if b=0 then ac else J (.int (a.fmod b),H)
 | .Pow=>if 0<=b/\b<=1000/\cH a=ae then J (.int (a^b.toNat),H) else ac
 | .LShift=>if 0<=b/\b<=1000/\cH a=ae then J (.int (a*2^b.toNat),H) else ac
 | .RShift=>if 0<=b then J (.int (a.fdiv (2^b.toNat)),H) else ac
 | .BitAnd=>J (.int (wy a b),H)
 | .BitOr=>J (.int (Builtin.bitOr a b),H)
 |_=>ac
def listAt(H:an)(i:Nat):Option (List L):=H[i]?.bind AX
theorem xi{H:an}{i:Nat}(e:listAt H i=J l):H[i]? =J (.list l):=gb e λ_ e1 e2=>e1.trans (congrArg J (Rz e2))
noncomputable def XW(bM:oh)(a b:List UInt8)(H:an):Option (L×an):=match bM with
 | .Add=>if bH (a.length+b.length) then J (.bytes (a++b),H) else ac
 |_=>ac
noncomputable def dT(bM:oh)(i j:Nat)(H:an):Option (L×an):=match bM with
 | .Add=>(listAt H i).bind λa=>(listAt H j).bind λb=>if bH (a.length+b.length) then J (.new H.length,H++[.list (a++b)]) else ac
 |_=>ac
noncomputable def ahV(bM:oh)(i:Nat)(n:Int)(H:an):Option (L×an):=match bM with
 | .Mult=>(listAt H i).bind λa=>if bH (a.length*n.toNat)&&cH n then J (.new H.length,H++[.list (f9 n.toNat a).flatten]) else ac
 |_=>ac
noncomputable def a5(bM:oh)(a b:L)(H:an):Option (L×an):=match a with
 | .int a=>(match b with
  | .int b=>QX bM a b H
  |_=>ac)
 | .bytes a=>(match b with
  | .bytes b=>XW bM a b H
  |_=>ac)
 | .new i=>(match b with
  | .new j=>dT bM i j H
  | .int n=>ahV bM i n H
  |_=>ac)
 |_=>ac
noncomputable def hK:L->Bool
 | .none| .int _=>ae
 |_=>aA
noncomputable def fX:L->Bool
 | .int _| .str _=>ae
 |_=>aA
def dV(l:List (L×L))(k:L):Option L:=zt ac (λp _ r=>if p.1=k then J p.2 else r) l
def g9(l:List (L×L))(k v:L):List (L×L):=zt [(k,v)] (λp t r=>if p.1=k then(p.1,v)::t else p::r) l
def li(l:List (L×L))(k:L):List (L×L):=zt [] (λp t r=>if p.1=k then t else p::r) l
theorem oz{l:List (L×L)}:dV ((y,v)::l) k=if y=k then J v else dV l k:=rfl
theorem tw{u:L}{l:List (L×L)}:g9 ((y,u)::l) k v=if y=k then(y,v)::l else(y,u)::g9 l k v:=rfl
theorem PN{u:L}{l:List (L×L)}:li ((y,u)::l) k=if y=k then l else(y,u)::li l k:=rfl
noncomputable def Ak(a b:L)(H:an):Option Bool:=match a,b with
 | .int a,.int b=>J (a==b)
 | .bytes a,.bytes b=>J (a==b)
 | .new i,.new j=>match H[i]?,H[j]?with
  |J (.list a),J (.list b)|J (.scr a),J (.list b)=>if a.length=b.length then(if a.all hK&&b.all hK then J (a==b) else ac) else J aA
  |_,_=>ac
 |_,_=>ac
noncomputable def qK(H:an)(i:Nat):Bool:=match H[i]?with
 |J (.inst _ _)=>ae
 |_=>aA
noncomputable def DE(a b:L)(H:an):Option Bool:=match a,b with
 | .none,.none=>J ae
 | .new i,.none=>if i<H.length then J aA else ac
 | .int _,.none=>J aA
 | .none,.new i=>if i<H.length then J aA else ac
 | .new i,.new j=>if qK H i&&qK H j then J (i==j) else ac
 |_,_=>ac
noncomputable def bW(bM:CmpOp)(a b:L)(H:an):Option Bool:=match bM with
 | .Eq=>Ak a b H
 | .NotEq=>(Ak a b H).map (!·)
 | .Lt=>match a,b with | .int a,.int b=>J (eg (a<b))|_,_=>ac
 | .LtE=>match a,b with | .int a,.int b=>J (eg (a<=b))|_,_=>ac
 | .Gt=>match a,b with | .int a,.int b=>J (eg (b<a))|_,_=>ac
 | .GtE=>match a,b with | .int a,.int b=>J (eg (b<=a))|_,_=>ac
 | .Is=>DE a b H
 | .IsNot=>(DE a b H).map (!·)
 | .In=>match a,b with
  |k,.new j=>if fX k then(match H[j]?with |J (.dict l)=>J (dV l k).isSome|_=>ac) else ac
  |_,_=>ac
 | .NotIn=>ac
noncomputable def wr(H:an)(i:Nat)(o:bt):Option an:=if i=0 then ac else J (H.set i o)
noncomputable def ky:L->Option Bool
 | .bool b=>J b
 |_=>ac
noncomputable def aV(o:L)(n:Str)(H:an):Option L:=match o with
 | .new i=>match H[i]?with
  |J (.inst _ aN)=>match cy aN n with
   |J (.st _)=>ac
   |r=>r
  |_=>ac
 |_=>ac
noncomputable def ft(o:L)(n:Str)(v:L)(H:an):Option an:=match o with
 | .new i=>match H[i]?with
  |J (.inst c aN)=>if bH aN.length then wr H i (.inst c (fA aN n v)) else ac
  |_=>ac
 |_=>ac
inductive nl where
 |at_ (v:L)|sl (a b:Option Int)
noncomputable def jY{bF:Type}(l:List bF)(a b:Option Int):Option (List bF):=
 match a,b with
 |ac,ac=>J l
 |J a,ac=>if 0<=a/\cH a=ae then J (l.drop a.toNat) else ac
 |ac,J b=>if 0<=b/\cH b=ae then J (l.take b.toNat) else ac
 |J a,J b=>if 0<=a/\0<=b/\cH a=ae/\cH b=ae then J ((l.take b.toNat).drop a.toNat) else ac
noncomputable def ij{bF:Type}(l:List bF)(k:Int):Option bF:=if 0<=k then l[k.toNat]?else ac
noncomputable def di(x:UInt8):L:=.int x.toNat
noncomputable def cj(o:L)(ix:nl)(H:an):Option (L×an):=match o,ix with
 | .new i,.at_ k=>match H[i]?,k with
  |J (.list l),.int k=>if cH k then(ij l k).map (·,H) else ac
  |J (.tup l),.int k=>if cH k then(ij l k).map (·,H) else ac
  |J (.ba l),.int k=>if cH k then(ij l k).map (di ·,H) else ac
  |J (.dict l),k=>if fX k then(dV l k).map (·,H) else ac
  |_,_=>ac
 | .new i,.sl a b=>match H[i]?with
  |J (.list l)|J (.scr l)=>if bH l.length then(jY l a b).map λl=>(.new H.length,H++[.list l]) else ac
  |J (.tup l)=>match a,b with
   |J a,ac=>if 1<=a/\a<=l.length/\bH l.length=ae then J (.new H.length,H++[.tup (l.drop a.toNat)]) else ac
   |_,_=>ac
  |_=>ac
 | .bytes l,.sl a b=>if bH l.length then(jY l a b).map (.bytes ·,H) else ac
 |_,_=>ac
noncomputable def vK{bF:Type}(l:List bF)(a b:Option Int)(x:List bF):Option (List bF):=
 match a,b with
 |ac,ac=>if x.length=l.length then J x else ac
 |J a,J b=>if 0<=a/\a<=b/\b<=l.length/\(x.length:Int)=b - a then J (l.take a.toNat++x++l.drop b.toNat) else ac
 |_,_=>ac
noncomputable def oL(v:L):Option UInt8:=match v with
 | .int i=>if 0<=i/\i<256 then J (hV i.toNat) else ac
 |_=>ac
noncomputable def fS(o:L)(ix:nl)(v:L)(H:an):Option an:=match o,ix with
 | .new i,.at_ k=>match H[i]?,k with
  |J (.list l),.int k=>if cH k=ae/\0<=k/\k<l.length then wr H i (.list (l.set k.toNat v)) else ac
  |J (.ba l),.int k=>if bH l.length=ae/\0<=k/\k<l.length then(oL v).bind λc=>wr H i (.ba (l.set k.toNat c)) else ac
  |J (.dict l),k=>if fX k&&bH l.length then wr H i (.dict (g9 l k v)) else ac
  |_,_=>ac
 | .new i,.sl a b=>match H[i]?,v with
  |J (.ba l),.bytes x=>if bH (l.length+x.length) then(vK l a b x).bind λl'=>wr H i (.ba l') else ac
  |_,_=>ac
 |_,_=>ac
noncomputable def pv(o:L)(k:L)(H:an):Option an:=match o with
 | .new i=>match H[i]?,k with
  |J (.list l),.int k=>if bH l.length=ae/\0<=k/\k<l.length then wr H i (.list (l.eraseIdx k.toNat)) else ac
  |J (.dict l),k=>if fX k&&bH l.length&&(dV l k).isSome then wr H i (.dict (li l k)) else ac
  |_,_=>ac
 |_=>ac
noncomputable def bR:List L->Option (List UInt8)
 | []=>J []
 |v::l=>match oL v,bR l with
  |J c,J r=>J (c::r)
  |_,_=>ac
noncomputable def rW(l acc:List L):List L:=l.foldl (λacc v=>if acc.contains v then acc else acc++[v]) acc
theorem PP{acc:List L}:rW (v::l) acc=rW l (if acc.contains v then acc else acc++[v]):=rfl
def ag5(H:an)(o:bt):Option (L×an):=bt.casesOn (motive:=λ_=>Option (L×an)) o (λ_ _=>ac) (λl=>if bH l.length then J (.int l.length,H) else ac) (λ_=>ac) (λ_=>ac) (λl=>if bH l.length then J (.int l.length,H) else ac) (λl=>if bH l.length then J (.int l.length,H) else ac) λ_=>ac
def JC(a:L)(H:an):Option (L×an):=L.casesOn (motive:=λ_=>Option (L×an)) a ac (λ_=>ac) (λ_=>ac) (λl=>if bH l.length then J (.int l.length,H) else ac) (λ_=>ac) (λi=>H[i]?.bind (ag5 H)) λ_=>ac
noncomputable def ON(a:L)(H:an):Option (L×an):=match a with
 | .int a=>J (.int a.natAbs,H)
 |_=>ac
def aak(H:an)(o:bt):Option (L×an):=bt.casesOn (motive:=λ_=>Option (L×an)) o (λ_ _=>ac) (λl=>if bH l.length then(bR l).map (.bytes ·,H) else ac) (λ_=>ac) (λ_=>ac) (λ_=>ac) (λl=>if bH l.length then J (.bytes l,H) else ac) λ_=>ac
def G9(a:L)(H:an):Option (L×an):=L.casesOn (motive:=λ_=>Option (L×an)) a ac (λ_=>ac) (λn=>if 0<=n/\n<=65536 then J (.bytes (f9 n.toNat 0),H) else ac) (λl=>if bH l.length then J (.bytes l,H) else ac) (λ_=>ac) (λi=>H[i]?.bind (aak H)) λ_=>ac
noncomputable def GZ(a:L)(H:an):Option (L×an):=match a with
 | .int n=>if 0<=n/\n<=65536 then J (.new H.length,H++[.ba (f9 n.toNat 0)]) else ac
 | .bytes l=>if bH l.length then J (.new H.length,H++[.ba l]) else ac
 |_=>ac
noncomputable def K7(a:L)(H:an):Option (L×an):=match a with
 | .new i=>(listAt H i).bind λl=>if eg (l.length<=4000)&&l.all isInt then J (.new H.length,H++[.set (rW l [])]) else ac
 |_=>ac
noncomputable def JE(a:L)(H:an):Option (L×an):=match a with
 | .bytes l=>if bH l.length then J (.new H.length,H++[.list (l.map di)]) else ac
 | .new i=>(listAt H i).bind λl=>if bH l.length then J (.new H.length,H++[.list l]) else ac
 |_=>ac
noncomputable def Jg:L->Bool
 | .st (.type s)=>s=="int"
 |_=>aA
noncomputable def O4(f:aG)(a:L)(H:an):Option (L×an):=match f with
 | .builtin s=>if s="len" then JC a H else if s="abs" then ON a H else ac
 | .type s=>if s="bytes" then G9 a H else if s="bytearray" then GZ a H else if s="set" then K7 a H else if s="list" then JE a H else ac
 |_=>ac
noncomputable def RH(s:String)(x:Int)(b:L)(H:an):Option (L×an):=match b with
 | .int y=>if s="min" then J (.int (if y<x then y else x),H) else if s="max" then J (.int (if x<y then y else x),H) else ac
 |_=>ac
noncomputable def O5(f:aG)(a b:L)(H:an):Option (L×an):=match f with
 | .builtin s=>(match a with
  | .int x=>if s="isinstance" then(if Jg b then J (.bool ae,H) else ac) else RH s x b H
  |_=>ac)
 |_=>ac
noncomputable def cI(f:aG)(dg:List L)(H:an):Option (L×an):=match dg with
 | []=>(match f with
  | .type s=>if s="bytearray" then J (.new H.length,H++[.ba []]) else ac
  |_=>ac)
 |a::r=>match r with
  | []=>O4 f a H
  |b::r=>match r with
   | []=>O5 f a b H
   |_::_=>ac
def tz(v:L)(l:List L):Option Nat:=zt ac (λx _ r=>if x=v then J 0 else r.map (· +1)) l
theorem Ih{x:L}:tz v (x::l)=if x=v then J 0 else(tz v l).map (· +1):=rfl
noncomputable def oE(H:an)(v:L):Bool:=match v with
 | .new j=>match H[j]?with
  |J (.inst c _)=>c==539
  |_=>aA
 |_=>aA
noncomputable def lT(o:L)(n:Str)(dg:List L)(H:an):Option (L×an):=match o with
 | .new i=>match H[i]?with
  |J (.list l)=>
   if n="append" then(match dg with | [v]=>if bH l.length then(wr H i (.list (l++[v]))).map (L.none,·) else ac|_=>ac)
   else if n="remove" then(match dg with
    | [.new j]=>if bH l.length&&l.all (oE H) then(tz (.new j) l).bind λk=>(wr H i (.list (l.eraseIdx k))).map (L.none,·) else ac
    |_=>ac)
   else ac
  |J (.dict l)=>
   if n="get" then(match dg with
    | [k]=>if fX k then J ((dV l k).getD .none,H) else ac
    | [k,d]=>if fX k then J ((dV l k).getD d,H) else ac
    |_=>ac)
   else ac
  |J (.ba l)=>
   if n="extend" then(match dg with | [.bytes x]=>if bH (l.length+x.length) then(wr H i (.ba (l++x))).map (L.none,·) else ac|_=>ac) else ac
  |_=>ac
 |_=>ac
end
variable {k v:L}{l:List L}
end Mine.Internal
end
noncomputable section
set_option tactic.hygienic true
open PySem PySem.W PyProof.Rows PySem.Calls
namespace Mine.Internal
def Ar:List (a1×cD):=[(104,bf 16),(111,bf 17),(118,bf 18),(125,bf 19),(132,bf 20),(147,aL 21 0),(154,aL 21 1),(161,aL 21 2),(168,aL 21 3),(175,aL 21 4),(182,aL 21 5),(189,aL 21 6),(210,aL 22 0),(222,aL 22 2),(229,aL 22 3),(250,aL 22 6),(257,aL 22 7),(264,aL 22 8),(271,aL 22 9),(299,aL 23 0),(306,aL 23 1),(320,aL 23 3),(335,aL 23 5),(363,aL 23 9),(370,aL 23 10),(377,aL 23 11),(384,aL 23 12),(398,aL 23 14),(419,aL 23 17),(426,aL 23 18),(433,aL 23 19),(459,aL 25 0),(466,aL 25 1),(473,aL 25 2),(501,aL 25 6),(508,aL 25 7),(557,aL 26 0),(564,aL 26 1),(571,aL 26 2),(578,aL 26 3),(585,aL 26 4),(592,aL 26 5),(599,aL 26 6),(606,aL 26 7),(613,aL 26 8),(620,aL 26 9),(627,aL 26 10),(634,aL 26 11),(676,aL 28 0),(683,aL 28 1),(690,aL 28 2),(697,aL 28 3),(704,aL 28 4),(718,aL 28 6),(763,bf 33),(778,aL 34 0),(785,aL 34 1),(792,aL 34 2),(799,aL 34 3),(806,aL 34 4),(813,aL 34 5),(820,aL 34 6),(827,aL 34 7),(834,aL 34 8),(841,aL 34 9),(848,aL 34 10),(874,bf 36),(881,bf 37),(886,bf 38),(891,bf 39),(898,bf 40),(903,bf 41),(910,bf 42),(922,bf 44),(927,bf 45)]
def r3(f:a1):Option cD:=Ar.lookup f
def HX:List (a1×List (Str×a1)):=[(539,[(pW,459),(z "is_free",466),(d2,473),(z "fill",501),(z "clear",508)]),(658,[(pW,557),(z "need_block",564),(z "need_held",571),(nY,578),(z "make_room",585),(o0,592),(z "pin",599),(z "unpin",606),(mK,613),(q7,620),(z "peek",627),(z "poke",634)]),(754,[(pW,676),(z "need_power",683),(z "need_block",690),(z "read",697),(mK,704),(q7,718)]),(865,[(pW,778),(z "is_own",785),(yO,792),(z "left",799),(sC,806),(mK,813),(z "end",820),(z "commit",827),(z "fill_log",834),(z "write_head",841),(z "install",848)]),(192,[(pW,147),(z "most_blocks",154),(z "most_size",161),(z "words",168),(d2,175),(z "row_of",182),(z "bit_of",189)]),(281,[(pW,210),(z "take_row",222),(z "put_row",229),(mK,250),(z "truncate",257),(q9,264),(z "hold",271)]),(441,[(pW,299),(z "need_number",306),(nY,320),(q9,335),(z "take_block",363),(z "free_bit",370),(z "clear_block",377),(z "give_block",384),(z "block_of",398),(mK,419),(z "write_part",426),(z "truncate",433)])]
def qv(c:a1):List (Str×a1):=(HX.lookup c).getD []
def Iw:Loc:=([("BoardError",39),("BadArgument",52),("BadDisk",64),("NoRoom",76),("half_at",104),("word_at",111),("put_half",118),("put_word",125),("rounded_up",132),("Super",192),("Node",281),("Nodes",441),("Buffer",539),("Cache",658),("Disk",754),("packed_head",763),("Journal",865),("_law_octets",874),("_law_row",881),("_law_image",886),("_law_taken",891),("_law_put",898),("_law_due",903),("_law_deed",910),("_law_has_room",917),("_law_group_right",922),("law",927)]:List (String×Nat)).map (λx=>(z x.1,L.st (.ref x.2)))++([("MAGIC",270544960),("FREE",0),("FIRST_LOG",2),("DIRECT",12),("HEAD",12),("PIECE",16),("SUPER_WORDS",9),("MOST_A_PIECE",4),("NUMBER",4),("MOST_EACH",10),("SPARE",4)]:List (String×Int)).map (λx=>(z x.1,L.int x.2))++(["len","min","max","abs","isinstance"]:List String).map (λx=>(z x,L.st (.builtin x)))++(["range","bytes","bytearray","set","list","enumerate","int"]:List String).map λx=>(z x,L.st (.type x))
noncomputable abbrev ds:=List (Str×lI)
def hZ(ax:ds)(x:Str):Bool:=cy ax x==J .local ||cy ax x==J .cell
noncomputable def oK(ax:ds)(m:Loc)(x:Str):Option L:=match cy ax x with
 |J .local |J .cell=>cy m x
 |J .globalImplicit=>cy Iw x
 |_=>ac
def gF(ax fZ:ds):ds:=fZ.map λp=>if p.2== .free&&cy ax p.1==J .cell then(p.1,.cell) else p
def oy(ax:ds)(m:Loc):Loc:=m.filter λp=>cy ax p.1==J .cell
def D2(t:aU):Option Str:=iP t ac (kName:=λx _=>J x)
noncomputable def JP(l:List aU):Option (Str×Str):=match l with
 | []=>ac
 |a::l=>match l with
  | []=>ac
  |b::l=>match l with
   | []=>(D2 a).bind λa=>(D2 b).map (a,·)
   |_::_=>ac
def PF(fZ:ds)(t:aU):Bool:=iP t aA
 (kName:=λx _=>cy fZ x==J .local)
 (kTuple:=λl _ _=>(JP l).any λn=>cy fZ n.1==J .local &&cy fZ n.2==J .local)
def z9(ax:ds)(sc:jA)(dq:aU):Bool:=sc.kind== .function&&PF sc.names dq&&eg (sc.names.map (·.1)).Nodup&&
 sc.names.all λp=>p.2== .local ||p.2== .globalImplicit||(p.2== .free&&cy ax p.1==J .cell)
noncomputable def HU:Const->Option L
 | .none=>J .none
 | .bool b=>J (.bool b)
 | .int i=>J (.int i)
 | .str s=>J (.str s)
 | .bytes b=>J (.bytes b)
 |_=>ac
noncomputable def eA:L->Option (Option Int)
 | .none=>J ac
 | .int i=>J (J i)
 |_=>ac
inductive l8 where
 |fn (f:a1) (self:List L)|cls (c f:a1)|bi (f:aG)|me (o:L) (n:Str)
noncomputable def bx(o:L)(n:Str)(H:an):Option l8:=match o with
 | .new i=>match H[i]?with
  |J (.inst c aN)=>match cy aN n with
   |ac=>(cy (qv c) n).map λf=>.fn f [o]
   |J _=>ac
  |J (.list _)=>if n="append"\/n="remove" then J (.me o n) else ac
  |J (.dict _)=>if n="get" then J (.me o n) else ac
  |J (.ba _)=>if n="extend" then J (.me o n) else ac
  |_=>ac
 |_=>ac
noncomputable def Tw(v:L):Option aG:=L.casesOn (motive:=λ_=>Option aG) v ac (λ_=>ac) (λ_=>ac) (λ_=>ac) (λ_=>ac) (λ_=>ac) J
noncomputable def refOf(v:aG):Option a1:=match v with
 | .ref a=>J a
 |_=>ac
def abF(v:aG)(o:Option a1):Option l8:=oa (motive:=λ_=>Option l8) o (J (.bi v)) λa=>oa (motive:=λ_=>Option l8) (cy (qv a) "__init__") (if a=917 then J (.fn a []) else(r3 a).bind λ_=>J (.fn a [])) λi=>J (.cls a i)
def HJ(f:L):Option l8:=(Tw f).bind λv=>abF v (refOf v)
inductive kJ where
 |items (l:List L)|lst (i:Nat)|enum (i:Nat)
inductive n4 where
 |one (v:L)|pair (a b:L)
noncomputable def qU(a b c:Int):List L:=(nn (((b - a+c - 1).fdiv c).toNat)).map λ(k:Nat)=>.int (a+c*(k:Int))
noncomputable def lV(l:List L):Option (List L):=match l with
 | []=>ac
 |a::l=>match l with
  | []=>(qJ a).bind λb=>if cH b&&bH b.toNat then J (qU 0 b 1) else ac
  |b::l=>match l with
   | []=>(qJ a).bind λa=>(qJ b).bind λb=>if cH a&&cH b&&bH (b - a).toNat then J (qU a b 1) else ac
   |c::l=>match l with
    | []=>(qJ a).bind λa=>(qJ b).bind λb=>(qJ c).bind λc=>if 0<c&&eg (c<1000000)&&cH a&&cH b&&bH (b - a).toNat then J (qU a b c) else ac
    |_::_=>ac
noncomputable def itemAt(s:kJ)(k:Nat)(H:an):Option (Option n4):=match s with
 | .items l=>J (l[k]?.map .one)
 | .lst i=>match H[i]?with
  |J (.list l)=>J (l[k]?.map .one)
  |_=>ac
 | .enum i=>match H[i]?with
  |J (.list l)=>J (l[k]?.map (.pair (.int k)))
  |_=>ac
noncomputable def LR(l:List L):Option (L×L):=match l with
 | []=>ac
 |a::l=>match l with
  | []=>ac
  |b::l=>match l with
   | []=>J (a,b)
   |_::_=>ac
noncomputable def Lk(o:Option bt):Option (L×L):=match o with
 |J (.tup l)=>LR l
 |_=>ac
noncomputable def afZ(it:n4):Option L:=match it with
 | .one v=>J v
 | .pair _ _=>ac
noncomputable def DH(it:n4)(H:an):Option (L×L):=match it with
 | .pair u v=>J (u,v)
 | .one v=>(A6 v).bind λj=>Lk H[j]?
def eu(ax:ds)(t:aU)(it:n4)(m:Loc)(H:an):Option Loc:=iP t ac
 (kName:=λx _=>(afZ it).bind λv=>if hZ ax x then J (fA m x v) else ac)
 (kTuple:=λl _ _=>(JP l).bind λn=>(DH it H).bind λw=>if hZ ax n.1&&hZ ax n.2 then J (fA (fA m n.1 w.1) n.2 w.2) else ac)
section
variable {cs:Type}(aK:cs)(C:a1->List L->an->(L->an->cs)->cs)
noncomputable def gR(ax:ds)(dq:aU)(body:Loc->an->(jw->Loc->an->cs)->cs)(s:kJ):Nat->Nat->Loc->an->(jw->Loc->an->cs)->cs
 |0,_,_,_,_=>aK
 |n+1,k,m,H,q=>match itemAt s k H with
  |ac=>aK
  |J ac=>q .next m H
  |J (J it)=>match eu ax dq it m H with
   |ac=>aK
   |J m=>body m H λdn m H=>match dn with
    | .next| .cont=>gR ax dq body s n (k+1) m H q
    | .brk=>q .next m H
    | .ret v=>q (.ret v) m H
noncomputable def l3(xG:Loc->an->(Bool->an->cs)->cs)(body:Loc->an->(jw->Loc->an->cs)->cs):Nat->Loc->an->(jw->Loc->an->cs)->cs
 |0,_,_,_=>aK
 |n+1,m,H,q=>xG m H λb H=>match b with
  |aA=>q .next m H
  |ae=>body m H λdn m H=>match dn with
   | .next| .cont=>l3 xG body n m H q
   | .brk=>q .next m H
   | .ret v=>q (.ret v) m H
noncomputable def jX(ax:ds)(dq:aU)(cond:Loc->an->(Bool->an->cs)->cs)(dW:Loc->an->(L->an->cs)->cs)(s:kJ):Nat->Nat->Loc->an->List L->(List L->an->cs)->cs
 |0,_,_,_,_,_=>aK
 |n+1,k,m,H,acc,q=>match itemAt s k H with
  |ac=>aK
  |J ac=>q acc H
  |J (J it)=>match eu ax dq it m H with
   |ac=>aK
   |J m=>cond m H λb H=>match b with
    |ae=>dW m H λv H=>jX ax dq cond dW s n (k+1) m H (acc++[v]) q
    |aA=>jX ax dq cond dW s n (k+1) m H acc q
noncomputable def bB(c:l8)(vs:List L)(H:an)(k:L->an->cs):cs:=match c with
 | .fn f self=>C f (self++vs) H k
 | .cls c f=>C f (.new H.length::vs) (H++[.inst c []]) λv bb=>match v with
  | .none=>k (.new H.length) bb
  |_=>aK
 | .bi f=>match cI f vs H with
  |J (v,H)=>k v H
  |ac=>aK
 | .me o n=>match lT o n vs H with
  |J (v,H)=>k v H
  |ac=>aK
noncomputable def f6:Nat:=1000
noncomputable def zT:oh->Bool
 | .Add| .Sub=>ae
 |_=>aA
noncomputable def TA(o:Option aU):Option Str:=o.bind λe=>iP e ac (kConstant:=λc _ _=>match c with
 | .str a=>J a
 |_=>ac)
noncomputable def PU(ff:List (Option aU))(vs:List L)(H:an)(k:L->an->cs):cs:=match ff with
 | []=>match vs with
  | []=>k (.new H.length) (H++[.dict []])
  |_::_=>aK
 |a::ff=>match ff with
  | []=>aK
  |b::ff=>match ff with
   |_::_=>aK
   | []=>match vs with
    | []=>aK
    |u::vs=>match vs with
     | []=>aK
     |v::vs=>match vs with
      |_::_=>aK
      | []=>match TA a with
       |ac=>aK
       |J a=>match TA b with
        |ac=>aK
        |J b=>if a=b then aK else k (.new H.length) (H++[.dict [(.str a,u),(.str b,v)]])
noncomputable def qZ(k:Bool->an->cs)(v:L)(H:an):cs:=match ky v with
 |J b=>k b H
 |ac=>aK
noncomputable def lstK(k:kJ->an->cs)(v:L)(H:an):cs:=match listOf v H with
 |J i=>k (.lst i) H
 |ac=>aK
mutual
noncomputable def bO(e:aU)(ax:ds)(m:Loc)(H:an)(k:L->an->cs):cs:=match e with
 | .BoolOp bM vs _=>vZ vs bM ax m H k
 | .NamedExpr .. =>aK
 | .BinOp l bM r _=>bO l ax m H λa H=>bO r ax m H λb H=>match a5 bM a b H with
  |J (v,H)=>k v H
  |ac=>aK
 | .UnaryOp .. | .Lambda .. =>aK
 | .IfExp t a b _=>ge t (λH k=>bO t ax m H k) ax m H λc H=>match c with
  |ae=>bO a ax m H k
  |aA=>bO b ax m H k
 | .Dict ff vs _=>ju vs ax m H λvs H=>PU aK ff vs H k
 | .Set .. =>aK
 | .ListComp dW aI sc _=>match aI with
  | []=>aK
  |aB::aI=>match aI with
   |_::_=>aK
   | []=>match aB with
    |⟨dq,iter,eU,z⟩=>if z=0 then(if z9 ax sc dq then sw iter (λH k=>bO iter ax m H k) ax m H λs H=>jX aK (gF ax sc.names) dq (λm H q=>jb eU (gF ax sc.names) m H q) (λm H q=>bO dW (gF ax sc.names) m H q) s f6 0 (oy (gF ax sc.names) m) H [] λvs H=>k (.new H.length) (H++[.list vs]) else aK) else aK
 | .SetComp .. | .DictComp .. | .GeneratorExp .. | .Await .. | .Yield .. | .YieldFrom .. =>aK
 | .Compare l dX rs _=>if dX.length=rs.length then bO l ax m H λa H=>sv rs dX a ax m H λb H=>k (.bool b) H else aK
 | .Call f dg ff _=>match ff with
  |_::_=>aK
  | []=>arj f (λq=>bO f ax m H λv H=>q (HJ v) H) ax m H λc H=>match c with
   |J c=>ju dg ax m H λvs H=>bB aK C c vs H k
   |ac=>aK
 | .FormattedValue .. | .JoinedStr .. =>aK
 | .Constant c _ _=>match HU c with
  |J v=>k v H
  |ac=>aK
 | .Attribute o n _=>bO o ax m H λv H=>match aV v n H with
  |J v=>k v H
  |ac=>aK
 | .Subscript o i _=>bO o ax m H λv H=>v0 i (λH k=>bO i ax m H k) ax m H λix H=>match cj v ix H with
  |J (v,H)=>k v H
  |ac=>aK
 | .Starred .. =>aK
 | .Name x _=>match oK ax m x with
  |J v=>k v H
  |ac=>aK
 | .List aH _=>ju aH ax m H λvs H=>if bH vs.length then k (.new H.length) (H++[.list vs]) else aK
 | .Tuple aH _ _=>ju aH ax m H λvs H=>if bH vs.length then k (.new H.length) (H++[.tup vs]) else aK
 | .Slice .. =>aK
noncomputable def arj(e:aU)(g0:(Option l8->an->cs)->cs)(ax:ds)(m:Loc)(H:an)(k:Option l8->an->cs):cs:=match e with
 | .BoolOp .. | .NamedExpr .. | .BinOp .. | .UnaryOp .. | .Lambda .. | .IfExp .. | .Dict .. | .Set .. | .ListComp .. | .SetComp .. | .DictComp .. | .GeneratorExp .. | .Await .. | .Yield .. | .YieldFrom .. | .Compare .. | .Call .. | .FormattedValue .. | .JoinedStr .. | .Constant .. =>g0 k
 | .Attribute o n _=>bO o ax m H λv H=>k (bx v n H) H
 | .Subscript .. | .Starred .. | .Name .. | .List .. | .Tuple .. | .Slice .. =>g0 k
noncomputable def ju:List aU->ds->Loc->an->(List L->an->cs)->cs
 | [],_,_,H,k=>k [] H
 |e::aH,ax,m,H,k=>bO e ax m H λv H=>ju aH ax m H λvs H=>k (v::vs) H
noncomputable def vZ:List aU->ww->ds->Loc->an->(L->an->cs)->cs
 | [],_,_,_,_,_=>aK
 |e::aH,bM,ax,m,H,k=>match aH with
  | []=>bO e ax m H k
  |_::_=>bO e ax m H λv H=>match ky v,bM with
   |J aA,.And=>k v H
   |J ae,.Or=>k v H
   |J _,_=>vZ aH bM ax m H k
   |ac,_=>aK
noncomputable def sv:List aU->List CmpOp->L->ds->Loc->an->(Bool->an->cs)->cs
 | [],_,_,_,_,_,_=>aK
 |r::rs,dX,a,ax,m,H,k=>match dX with
  | []=>aK
  |bM::dX=>bO r ax m H λb H=>match bW bM a b H with
   |ac=>aK
   |J c=>match rs with
    | []=>match dX with
     | []=>k c H
     |_::_=>aK
    |_::_=>match dX with
     | []=>aK
     |_::_=>match c with
      |ae=>sv rs dX b ax m H k
      |aA=>k aA H
noncomputable def ge(e:aU)(g0:an->(L->an->cs)->cs)(ax:ds)(m:Loc)(H:an)(k:Bool->an->cs):cs:=match e with
 | .BoolOp bM vs _=>vW vs bM ax m H k
 | .NamedExpr .. | .BinOp .. =>g0 H (qZ aK k)
 | .UnaryOp bM x _=>match bM with
  | .Not=>ge x (λH k=>bO x ax m H k) ax m H λb H=>k (!b) H
  | .Invert=>g0 H (qZ aK k)
  | .UAdd=>g0 H (qZ aK k)
  | .USub=>g0 H (qZ aK k)
 | .Lambda .. =>g0 H (qZ aK k)
 | .IfExp .. =>aK
 | .Dict .. | .Set .. | .ListComp .. | .SetComp .. | .DictComp .. | .GeneratorExp .. | .Await .. | .Yield .. | .YieldFrom .. =>g0 H (qZ aK k)
 | .Compare l dX rs _=>if dX.length=rs.length then bO l ax m H λa H=>sv rs dX a ax m H k else aK
 | .Call .. | .FormattedValue .. | .JoinedStr .. | .Constant .. | .Attribute .. | .Subscript .. | .Starred .. | .Name .. | .List .. | .Tuple .. | .Slice .. =>g0 H (qZ aK k)
noncomputable def vW:List aU->ww->ds->Loc->an->(Bool->an->cs)->cs
 | [],bM,_,_,H,k=>k (bM== .And) H
 |e::aH,bM,ax,m,H,k=>ge e (λH k=>bO e ax m H k) ax m H λb H=>match bM,b with
  | .And,aA=>k aA H
  | .Or,ae=>k ae H
  |_,_=>vW aH bM ax m H k
noncomputable def jb:List aU->ds->Loc->an->(Bool->an->cs)->cs
 | [],_,_,H,k=>k ae H
 |e::aH,ax,m,H,k=>ge e (λH k=>bO e ax m H k) ax m H λb H=>match b with
  |ae=>jb aH ax m H k
  |aA=>k aA H
noncomputable def v0(e:aU)(g0:an->(L->an->cs)->cs)(ax:ds)(m:Loc)(H:an)(k:nl->an->cs):cs:=match e with
 | .BoolOp .. | .NamedExpr .. | .BinOp .. | .UnaryOp .. | .Lambda .. | .IfExp .. | .Dict .. | .Set .. | .ListComp .. | .SetComp .. | .DictComp .. | .GeneratorExp .. | .Await .. | .Yield .. | .YieldFrom .. | .Compare .. | .Call .. | .FormattedValue .. | .JoinedStr .. | .Constant .. | .Attribute .. | .Subscript .. | .Starred .. | .Name .. | .List .. | .Tuple .. =>g0 H λv H=>k (.at_ v) H
 | .Slice a b c _=>match c with
  |ac=>v1 a ax m H λu H=>v1 b ax m H λv H=>match eA u,eA v with
   |J u,J v=>k (.sl u v) H
   |_,_=>aK
  |J _=>g0 H λv H=>k (.at_ v) H
noncomputable def v1:Option aU->ds->Loc->an->(L->an->cs)->cs
 |ac,_,_,H,k=>k .none H
 |J e,ax,m,H,k=>bO e ax m H k
noncomputable def sw(e:aU)(g0:an->(L->an->cs)->cs)(ax:ds)(m:Loc)(H:an)(k:kJ->an->cs):cs:=match e with
 | .BoolOp .. | .NamedExpr .. | .BinOp .. | .UnaryOp .. | .Lambda .. | .IfExp .. | .Dict .. | .Set .. | .ListComp .. | .SetComp .. | .DictComp .. | .GeneratorExp .. | .Await .. | .Yield .. | .YieldFrom .. | .Compare .. =>g0 H (lstK aK k)
 | .Call f dg ff _=>match ff with
  |_::_=>g0 H (lstK aK k)
  | []=>match f with
   | .BoolOp .. | .NamedExpr .. | .BinOp .. | .UnaryOp .. | .Lambda .. | .IfExp .. | .Dict .. | .Set .. | .ListComp .. | .SetComp .. | .DictComp .. | .GeneratorExp .. | .Await .. | .Yield .. | .YieldFrom .. | .Compare .. | .Call .. | .FormattedValue .. | .JoinedStr .. | .Constant .. | .Attribute .. | .Subscript .. | .Starred .. =>g0 H (lstK aK k)
   | .Name f _=>if oK ax m f=J (.st (.type "range")) then ju dg ax m H λvs H=>match lV vs with
     |J l=>k (.items l) H
     |ac=>aK
    else if oK ax m f=J (.st (.type "enumerate")) then ju dg ax m H λvs H=>match(Kg vs).bind λv=>listOf v H with
     |J i=>k (.enum i) H
     |ac=>aK
    else aK
   | .List .. | .Tuple .. | .Slice .. =>g0 H (lstK aK k)
 | .FormattedValue .. | .JoinedStr .. | .Constant .. | .Attribute .. | .Subscript .. | .Starred .. | .Name .. | .List .. | .Tuple .. | .Slice .. =>g0 H (lstK aK k)
noncomputable def su(e:aU)(v:L)(ax:ds)(m:Loc)(H:an)(k:Loc->an->cs):cs:=match e with
 | .BoolOp .. | .NamedExpr .. | .BinOp .. | .UnaryOp .. | .Lambda .. | .IfExp .. | .Dict .. | .Set .. | .ListComp .. | .SetComp .. | .DictComp .. | .GeneratorExp .. | .Await .. | .Yield .. | .YieldFrom .. | .Compare .. | .Call .. | .FormattedValue .. | .JoinedStr .. | .Constant .. =>aK
 | .Attribute o n _=>bO o ax m H λeN H=>match ft eN n v H with
  |J H=>k m H
  |ac=>aK
 | .Subscript o i _=>bO o ax m H λeN H=>v0 i (λH k=>bO i ax m H k) ax m H λix H=>match fS eN ix v H with
  |J H=>k m H
  |ac=>aK
 | .Starred .. =>aK
 | .Name x _=>if hZ ax x then k (fA m x v) H else aK
 | .List .. =>aK
 | .Tuple aH _ _=>match v with
  | .new j=>match H[j]?with
   |J (.tup l)=>if l.length=aH.length then vY aH l ax m H k else aK
   |_=>aK
  |_=>aK
 | .Slice .. =>aK
noncomputable def vY:List aU->List L->ds->Loc->an->(Loc->an->cs)->cs
 | [],_,_,m,H,k=>k m H
 |e::aH,vs,ax,m,H,k=>match vs with
  | []=>aK
  |v::vs=>su e v ax m H λm H=>vY aH vs ax m H k
noncomputable def L2(e:aU)(ax:ds)(m:Loc)(H:an)(k:an->cs):cs:=match e with
 | .BoolOp .. | .NamedExpr .. | .BinOp .. | .UnaryOp .. | .Lambda .. | .IfExp .. | .Dict .. | .Set .. | .ListComp .. | .SetComp .. | .DictComp .. | .GeneratorExp .. | .Await .. | .Yield .. | .YieldFrom .. | .Compare .. | .Call .. | .FormattedValue .. | .JoinedStr .. | .Constant .. | .Attribute .. =>aK
 | .Subscript o i _=>bO o ax m H λeN H=>bO i ax m H λtM H=>match pv eN tM H with
  |J H=>k H
  |ac=>aK
 | .Starred .. | .Name .. | .List .. | .Tuple .. | .Slice .. =>aK
noncomputable def wpS(s:cD)(ax:ds)(m:Loc)(H:an)(k:jw->Loc->an->cs):cs:=match s with
 | .FunctionDef .. | .AsyncFunctionDef .. | .ClassDef .. =>aK
 | .Return o _=>match o with
  |ac=>k (.ret .none) m H
  |J e=>bO e ax m H λv H=>k (.ret v) m H
 | .Delete h1 _=>match h1 with
  | []=>aK
  |t::h1=>match h1 with
   |_::_=>aK
   | []=>L2 t ax m H λH=>k .next m H
 | .Assign h1 e _=>match h1 with
  | []=>aK
  |t::h1=>match h1 with
   |_::_=>aK
   | []=>bO e ax m H λv H=>su t v ax m H λm H=>k .next m H
 | .TypeAlias .. =>aK
 | .AugAssign t bM e _=>match t with
  | .BoolOp .. | .NamedExpr .. | .BinOp .. | .UnaryOp .. | .Lambda .. | .IfExp .. | .Dict .. | .Set .. | .ListComp .. | .SetComp .. | .DictComp .. | .GeneratorExp .. | .Await .. | .Yield .. | .YieldFrom .. | .Compare .. | .Call .. | .FormattedValue .. | .JoinedStr .. | .Constant .. =>aK
  | .Attribute o n _=>bO o ax m H λeN H=>match aV eN n H with
   |ac=>aK
   |J a=>bO e ax m H λb H=>match a5 bM a b H with
    |J (v,H)=>if isInt a&&isInt b then(if zT bM then match ft eN n v H with
     |J H=>k .next m H
     |ac=>aK else aK) else aK
    |ac=>aK
  | .Subscript .. | .Starred .. =>aK
  | .Name x _=>match oK ax m x with
   |ac=>aK
   |J a=>bO e ax m H λb H=>match a5 bM a b H with
    |J (v,H)=>if isInt a&&isInt b then(if zT bM&&hZ ax x then k .next (fA m x v) H else aK) else aK
    |ac=>aK
  | .List .. | .Tuple .. | .Slice .. =>aK
 | .AnnAssign .. =>aK
 | .For t it a l _=>match l with
  |_::_=>aK
  | []=>sw it (λH k=>bO it ax m H k) ax m H λs H=>gR aK ax t (λm H q=>b1 a ax m H q) s f6 0 m H k
 | .AsyncFor .. =>aK
 | .While t a l _=>match l with
  |_::_=>aK
  | []=>l3 aK (λm H q=>ge t (λH k=>bO t ax m H k) ax m H q) (λm H q=>b1 a ax m H q) f6 m H k
 | .If t a b _=>ge t (λH k=>bO t ax m H k) ax m H λc H=>match c with
  |ae=>b1 a ax m H k
  |aA=>b1 b ax m H k
 | .With .. | .AsyncWith .. | .Match .. | .Raise .. =>aK
 | .Try a _ l f _=>match l with
  |_::_=>aK
  | []=>match f with
   |_::_=>aK
   | []=>b1 a ax m H k
 | .TryStar .. | .Assert .. | .Import .. | .ImportFrom .. | .Global .. | .Nonlocal .. =>aK
 | .Expr e _=>bO e ax m H λ_ H=>k .next m H
 | .Pass _=>k .next m H
 | .Break _=>k .brk m H
 | .Continue .. =>aK
noncomputable def b1:List cD->ds->Loc->an->(jw->Loc->an->cs)->cs
 | [],_,m,H,k=>k .next m H
 |s::ss,ax,m,H,k=>wpS s ax m H λdn m H=>match dn with
  | .next=>b1 ss ax m H k
  |dn=>k dn m H
end
noncomputable def Ea:jw->L
 | .ret v=>v
 |_=>.none
noncomputable def tn(f:a1)(vs:List L)(H:an)(k:L->an->cs):cs:=match r3 f with
 |ac=>aK
 |J st=>if vs.length=(fF st).args.length then b1 aK C (aW st) (dO st).names (((fF st).args.map (·.arg)).zip vs) H λdn _ H=>k (Ea dn) H else aK
end
def xA(H:an)(v:L):Option Bool:=(A6 v).bind λj=>(H[j]?).bind λo=>(QW o).bind λp=>
 ((cy p.2 "numbers").bind A6).bind λl=>((cy p.2 "calls").bind qJ).bind λc=>((cy p.2 "each").bind qJ).bind λe=>((cy p.2 "most").bind qJ).bind λoJ=>(listAt H l).bind λeW=>
 J (kG p.1 865&&((cy p.2 "begin").isNone&&((cy p.2 "has_room").isNone&&(bH eW.length&&(cH (c+1)&&(cH e&&eg (oJ<eW.length+(c+1)*e)))))))
def Bj{cs:Type}(aK:cs)(vs:List L)(H:an)(k:L->an->cs):cs:=cond (kG vs.length 1&&(vs[0]?.bind (xA H)).getD aA) (k (.bool aA) H) aK
noncomputable def Ec{cs:Type}(aK:cs):Nat->a1->List L->an->(L->an->cs)->cs
 |0,_,_,_,_=>aK
 |n+1,f,vs,H,k=>if f=917 then Bj aK vs H k else tn aK (Ec aK n) f vs H k
theorem adM{cs:Type}{aK:cs}{ax:ds}{dq:aU}{body:Loc->an->(jw->Loc->an->cs)->cs}{s:kJ}{n k:Nat}{m:Loc}{H:an}{q:jw->Loc->an->cs}:gR aK ax dq body s (n+1) k m H q=(match itemAt s k H with
 |ac=>aK
 |J ac=>q .next m H
 |J (J it)=>match eu ax dq it m H with
  |ac=>aK
  |J m=>body m H λdn m H=>match dn with
   | .next| .cont=>gR aK ax dq body s n (k+1) m H q
   | .brk=>q .next m H
   | .ret v=>q (.ret v) m H):=rfl
theorem ab0{cs:Type}{aK:cs}{ax:ds}{dq:aU}{cond:Loc->an->(Bool->an->cs)->cs}{dW:Loc->an->(L->an->cs)->cs}{s:kJ}{n k:Nat}{m:Loc}{H:an}{acc:List L}{q:List L->an->cs}:jX aK ax dq cond dW s (n+1) k m H acc q=(match itemAt s k H with
 |ac=>aK
 |J ac=>q acc H
 |J (J it)=>match eu ax dq it m H with
  |ac=>aK
  |J m=>cond m H λb H=>match b with
   |ae=>dW m H λv H=>jX aK ax dq cond dW s n (k+1) m H (acc++[v]) q
   |aA=>jX aK ax dq cond dW s n (k+1) m H acc q):=rfl
section
variable {cs:Type}{aK:cs}{C:a1->List L->an->(L->an->cs)->cs}
theorem ara{aM a7 q3 iF c H k}:bO aK C (.Constant c aM a7) q3 iF H k=(match HU c with
 |J v=>k v H
 |ac=>aK):=by rfl
theorem ard{aM x ax m H k}:bO aK C (.Name x aM) ax m H k=(match oK ax m x with
 |J v=>k v H
 |ac=>aK):=by rfl
theorem aq7{aM l bM r ax m H k}:bO aK C (.BinOp l bM r aM) ax m H k=(bO aK C l ax m H λa H=>bO aK C r ax m H λb H=>match a5 bM a b H with
 |J (v,H)=>k v H
 |ac=>aK):=by rfl
theorem aq8{aM bM vs ax m H k}:bO aK C (.BoolOp bM vs aM) ax m H k=(vZ aK C vs bM ax m H k):=by rfl
theorem arb{aM t a b ax m H k}:bO aK C (.IfExp t a b aM) ax m H k=(ge aK C t (λH k=>bO aK C t ax m H k) ax m H λc H=>match c with
 |ae=>bO aK C a ax m H k
 |aA=>bO aK C b ax m H k):=by rfl
theorem aq9{aM l dX rs ax m H k}:bO aK C (.Compare l dX rs aM) ax m H k=(if dX.length=rs.length then bO aK C l ax m H λa H=>sv aK C rs dX a ax m H λb H=>k (.bool b) H else aK):=by rfl
theorem aq6{aM o n ax m H k}:bO aK C (.Attribute o n aM) ax m H k=(bO aK C o ax m H λv H=>match aV v n H with
 |J v=>k v H
 |ac=>aK):=by rfl
theorem are{aM o i ax m H k}:bO aK C (.Subscript o i aM) ax m H k=(bO aK C o ax m H λv H=>v0 aK C i (λH k=>bO aK C i ax m H k) ax m H λix H=>match cj v ix H with
 |J (v,H)=>k v H
 |ac=>aK):=by rfl
theorem arc{aM aH ax m H k}:bO aK C (.List aH aM) ax m H k=(ju aK C aH ax m H λvs H=>if bH vs.length then k (.new H.length) (H++[.list vs]) else aK):=by rfl
theorem arf{aM a7 aH ax m H k}:bO aK C (.Tuple aH aM a7) ax m H k=(ju aK C aH ax m H λvs H=>if bH vs.length then k (.new H.length) (H++[.tup vs]) else aK):=by rfl
theorem T9{aM ff vs ax m H k}:bO aK C (.Dict ff vs aM) ax m H k=(ju aK C vs ax m H λvs H=>PU aK ff vs H k):=by rfl
theorem L3{aM dW dq iter eU sc ax m H k}:bO aK C (.ListComp dW [⟨dq,iter,eU,0⟩] sc aM) ax m H k=(
 if z9 ax sc dq then sw aK C iter (λH k=>bO aK C iter ax m H k) ax m H λs H=>jX aK (gF ax sc.names) dq (λm H q=>jb aK C eU (gF ax sc.names) m H q) (λm H q=>bO aK C dW (gF ax sc.names) m H q) s f6 0 (oy (gF ax sc.names) m) H [] λvs H=>k (.new H.length) (H++[.list vs]) else aK):=by rfl
theorem atc{aM a7 o n dg ax m H k}:bO aK C (.Call (.Attribute o n aM) dg [] a7) ax m H k=(bO aK C o ax m H λeN H=>match bx eN n H with
 |J c=>ju aK C dg ax m H λvs H=>bB aK C c vs H k
 |ac=>aK):=by rfl
theorem Ua{aM a7 H k}:ju aK C [] aM a7 H k=(k [] H):=by rfl
theorem ari{e aH ax m H k}:ju aK C (e::aH) ax m H k=(bO aK C e ax m H λv H=>ju aK C aH ax m H λvs H=>k (v::vs) H):=by rfl
theorem aq3{aM a7 q3 iF vC}:vZ aK C [] aM a7 q3 iF vC=(aK):=by rfl
theorem T7{e aH bM ax m H k}:vZ aK C (e::aH) bM ax m H k=(match aH with
 | []=>bO aK C e ax m H k
 |_::_=>bO aK C e ax m H λv H=>match ky v,bM with
  |J aA,.And=>k v H
  |J ae,.Or=>k v H
  |J _,_=>vZ aK C aH bM ax m H k
  |ac,_=>aK):=by rfl
theorem aq4{aM a7 q3 iF vC Be}:sv aK C [] aM a7 q3 iF vC Be=(aK):=by rfl
theorem T8{r rs dX a ax m H k}:sv aK C (r::rs) dX a ax m H k=(match dX with
 | []=>aK
 |bM::dX=>bO aK C r ax m H λb H=>match bW bM a b H with
  |ac=>aK
  |J c=>match rs with
   | []=>match dX with
    | []=>k c H
    |_::_=>aK
   |_::_=>match dX with
    | []=>aK
    |_::_=>match c with
     |ae=>sv aK C rs dX b ax m H k
     |aA=>k aA H):=by rfl
theorem arG{aM a7 x ax m H k}:ge aK C (.UnaryOp .Not x aM) a7 ax m H k=(ge aK C x (λH k=>bO aK C x ax m H k) ax m H λb H=>k (!b) H):=by rfl
theorem arE{aM a7 bM vs ax m H k}:ge aK C (.BoolOp bM vs aM) a7 ax m H k=(vW aK C vs bM ax m H k):=by rfl
theorem arF{aM a7 l dX rs ax m H k}:ge aK C (.Compare l dX rs aM) a7 ax m H k=(if dX.length=rs.length then bO aK C l ax m H λa H=>sv aK C rs dX a ax m H k else aK):=by rfl
theorem aqV{aM a7 bM H k}:vW aK C [] bM aM a7 H k=(k (bM== .And) H):=by rfl
theorem aqU{e aH bM ax m H k}:vW aK C (e::aH) bM ax m H k=(ge aK C e (λH k=>bO aK C e ax m H k) ax m H λb H=>match bM,b with
 | .And,aA=>k aA H
 | .Or,ae=>k ae H
 |_,_=>vW aK C aH bM ax m H k):=by rfl
theorem arn{aM a7 H k}:jb aK C [] aM a7 H k=(k ae H):=by rfl
theorem arm{e aH ax m H k}:jb aK C (e::aH) ax m H k=(ge aK C e (λH k=>bO aK C e ax m H k) ax m H λb H=>match b with
 |ae=>jb aK C aH ax m H k
 |aA=>k aA H):=by rfl
theorem ark{aM a7 a b ax m H k}:v0 aK C (.Slice a b ac aM) a7 ax m H k=(v1 aK C a ax m H λu H=>v1 aK C b ax m H λv H=>match eA u,eA v with
 |J u,J v=>k (.sl u v) H
 |_,_=>aK):=by rfl
theorem aro{aM a7 H k}:v1 aK C ac aM a7 H k=(k .none H):=by rfl
theorem arp{e ax m H k}:v1 aK C (J e) ax m H k=(bO aK C e ax m H k):=by rfl
theorem arq{aM a7 q3 f dg ax m H k}:sw aK C (.Call (.Name f aM) dg [] a7) q3 ax m H k=(if oK ax m f=J (.st (.type "range")) then ju aK C dg ax m H λvs H=>match lV vs with
  |J l=>k (.items l) H
  |ac=>aK
 else if oK ax m f=J (.st (.type "enumerate")) then ju aK C dg ax m H λvs H=>match(Kg vs).bind λv=>listOf v H with
  |J i=>k (.enum i) H
  |ac=>aK
 else aK):=by rfl
theorem L0{aM x v ax m H k}:su aK C (.Name x aM) v ax m H k=(if hZ ax x then k (fA m x v) H else aK):=by rfl
theorem aq1{aM o n v ax m H k}:su aK C (.Attribute o n aM) v ax m H k=(bO aK C o ax m H λeN H=>match ft eN n v H with
 |J H=>k m H
 |ac=>aK):=by rfl
theorem aq2{aM o i v ax m H k}:su aK C (.Subscript o i aM) v ax m H k=(bO aK C o ax m H λeN H=>v0 aK C i (λH k=>bO aK C i ax m H k) ax m H λix H=>match fS eN ix v H with
 |J H=>k m H
 |ac=>aK):=by rfl
theorem T5{aM a7 aH v ax m H k}:su aK C (.Tuple aH aM a7) v ax m H k=(match v with
 | .new j=>match H[j]?with
  |J (.tup l)=>if l.length=aH.length then vY aK C aH l ax m H k else aK
  |_=>aK
 |_=>aK):=by rfl
theorem T6{aM a7 m H k}:vY aK C [] aM a7 m H k=(k m H):=by rfl
theorem L1{e aH vs ax m H k}:vY aK C (e::aH) vs ax m H k=(match vs with
 | []=>aK
 |v::vs=>su aK C e v ax m H λm H=>vY aK C aH vs ax m H k):=by rfl
theorem aq5{aM o i ax m H k}:L2 aK C (.Subscript o i aM) ax m H k=(bO aK C o ax m H λeN H=>bO aK C i ax m H λtM H=>match pv eN tM H with
 |J H=>k H
 |ac=>aK):=by rfl
theorem arw{aM e ax m H k}:wpS aK C (.Expr e aM) ax m H k=(bO aK C e ax m H λ_ H=>k .next m H):=by rfl
theorem arz{aM a7 m H k}:wpS aK C (.Pass aM) a7 m H k=(k .next m H):=by rfl
theorem aru{aM a7 m H k}:wpS aK C (.Break aM) a7 m H k=(k .brk m H):=by rfl
theorem arA{aM a7 m H k}:wpS aK C (.Return ac aM) a7 m H k=(k (.ret .none) m H):=by rfl
theorem arB{aM e ax m H k}:wpS aK C (.Return (J e) aM) ax m H k=(bO aK C e ax m H λv H=>k (.ret v) m H):=by rfl
theorem L4{aM t e ax m H k}:wpS aK C (.Assign [t] e aM) ax m H k=(bO aK C e ax m H λv H=>su aK C t v ax m H λm H=>k .next m H):=by rfl
theorem ars{aM a7 x bM e ax m H k}:wpS aK C (.AugAssign (.Name x aM) bM e a7) ax m H k=(match oK ax m x with
 |ac=>aK
 |J a=>bO aK C e ax m H λb H=>match a5 bM a b H with
  |J (v,H)=>if isInt a&&isInt b then(if zT bM&&hZ ax x then k .next (fA m x v) H else aK) else aK
  |ac=>aK):=by rfl
theorem art{aM a7 o n bM e ax m H k}:wpS aK C (.AugAssign (.Attribute o n aM) bM e a7) ax m H k=(bO aK C o ax m H λeN H=>match aV eN n H with
 |ac=>aK
 |J a=>bO aK C e ax m H λb H=>match a5 bM a b H with
  |J (v,H)=>if isInt a&&isInt b then(if zT bM then match ft eN n v H with
   |J H=>k .next m H
   |ac=>aK else aK) else aK
  |ac=>aK):=by rfl
theorem arv{aM t ax m H k}:wpS aK C (.Delete [t] aM) ax m H k=(L2 aK C t ax m H λH=>k .next m H):=by rfl
theorem ary{aM t a b ax m H k}:wpS aK C (.If t a b aM) ax m H k=(ge aK C t (λH k=>bO aK C t ax m H k) ax m H λc H=>match c with
 |ae=>b1 aK C a ax m H k
 |aA=>b1 aK C b ax m H k):=by rfl
theorem Ub{aM t a ax m H k}:wpS aK C (.While t a [] aM) ax m H k=(l3 aK (λm H q=>ge aK C t (λH k=>bO aK C t ax m H k) ax m H q) (λm H q=>b1 aK C a ax m H q) f6 m H k):=by rfl
theorem arx{aM t it a ax m H k}:wpS aK C (.For t it a [] aM) ax m H k=(sw aK C it (λH k=>bO aK C it ax m H k) ax m H λs H=>gR aK ax t (λm H q=>b1 aK C a ax m H q) s f6 0 m H k):=by rfl
theorem arC{aM a7 a ax m H k}:wpS aK C (.Try a aM [] [] a7) ax m H k=(b1 aK C a ax m H k):=by rfl
theorem arD{aM m H k}:b1 aK C [] aM m H k=(k .next m H):=by rfl
theorem Uc{s ss ax m H k}:b1 aK C (s::ss) ax m H k=(wpS aK C s ax m H λdn m H=>match dn with
 | .next=>b1 aK C ss ax m H k
 |dn=>k dn m H):=by rfl
end
end Mine.Internal
end
noncomputable section
open PySem PySem.W PyProof.Rows PySem.Calls
open Sem (wp)
namespace Mine.Internal
section
variable {prog:uG}{w:eJ}{A:kI}{E:aG->cn->Prop}{s:cn}
theorem vP{h:bq}{a:a1}{f:Obj->Obj}{o o':Obj}:h.objs.size<=(((h.update a f).push o).push o').objs.size:=by
 refine G (ib ..) (G (ib ..) (G (qg ..) ?_));lia
theorem apR{h:bq}{o o':Obj}:h.objs.size<=((h.push o).push o').objs.size:=by
 refine G (ib ..) (G (ib ..) ?_);lia
theorem aia{it l:a1}{i:Nat}{items}{Q:Option aG->cn->Prop}(a6:A.handled=ac)
  (iC:s.heap.IsListIter it l i) (aQ:s.heap.IsList l items) (aO:items[i]? =ac)
  (jG:∀av,zy it s.heap av->s.heap.objs.size<=av.objs.size->Q ac {s with heap:=av}):cG (c8 prog w) A (pyNext (.ref it)) Q E s:=by
 refine kT (id iC) λo aR aD bA=>?_
 refine Mo aQ λSB AJ _ cO AC=>?_
 refine b4 (zJ (uK (name:=oi "__next__") iC.typeIs GA
  (qo GA iC.typeIs entry_listiter_next ?_ (args_listiter_next _))))
 show cG _ _ (rG (.ref it) 0>>=_) _ _ s
 refine bN (λ_=>mi aR bA (x:=.ref l) rfl) (jt (show¬((lK l==s2)=ae) from t7) (bN (λ_=>mi aR bA (x:=.int i 0) rfl) (bN (λ_=>GG AJ AC) ?_)))
 simp only [h8,aO];refine bN (λ_=>rK) (bN (λ_=>GH aR bA (by simp)) ?_)
 refine b4 (b4 (qp ?_ (by size_fits)))
 refine b4 (m:=uI _ _) (hG (a:=s2) (by first |rfl|(simp only [uI];rfl)) ?_)
 refine qp ?_ (by size_fits)
 refine bN (λ_=>GB) (G (show A.in1.handled=ac from a6) (bN (λ_=>cL) (GJ ?_)))
 refine b4 (s9 (T:="StopIteration") (b:=ae) ⟨_,hU _ rfl,rfl⟩ Gx ?_);exact cL (jG _ (((NH ..).extBut.push _).push _) vP)
theorem ah8{it l:a1}{i:Nat}{items}{Q:aG->cn->Prop}(a6:A.handled=ac)
  (iC:s.heap.IsListIter it l i) (aQ:s.heap.IsList l items) (aO:items[i]? =ac)
  (tC:∀av e,zy it s.heap av->s.heap.objs.size<=av.objs.size->(∃o,av.get? e=J o/\o.cls=.type "StopIteration")->E (.ref e) {s with heap:=av}):
  cG (c8 prog w) A (Builtin.SmallTypes.nextOf (.ref it)) Q E s:=by
 refine kT (id iC) λo aR aD bA=>?_
 refine Mo aQ λSB AJ _ cO AC=>?_
 refine b4 (uK (name:=oi "__next__") iC.typeIs GA
  (qo GA iC.typeIs entry_listiter_next ?_ (args_listiter_next _)))
 show cG _ _ (rG (.ref it) 0>>=_) _ _ s
 refine bN (λ_=>mi aR bA (x:=.ref l) rfl) (jt (show¬((lK l==s2)=ae) from t7) (bN (λ_=>mi aR bA (x:=.int i 0) rfl) (bN (λ_=>GG AJ AC) ?_)))
 simp only [h8,aO];refine bN (λ_=>rK) (bN (λ_=>GH aR bA (by simp)) ?_)
 refine b4 (b4 (qp ?_ (by size_fits)))
 refine b4 (m:=uI _ _) (hG (a:=s2) (by first |rfl|(simp only [uI];rfl)) ?_)
 refine qp ?_ (by size_fits)
 refine bN (λ_=>GB) ?_
 first |(refine G (show A.in1.handled=ac from a6) ?_)|(refine G a6 ?_;try(with_reducible rfl))
 refine b4 (cL (GJ ?_));exact tC _ _ (((NH ..).extBut.push _).push _) vP ⟨_,hU _ rfl,rfl⟩
theorem ah9{e it l:a1}{i:Nat}{items:Array aG}{nJ:aG}{Q:Option aG->cn->Prop}(a6:A.handled=ac)
  (bl:IsEnum s.heap e it i nJ) (iC:s.heap.IsListIter it l i) (aQ:s.heap.IsList l items) (aO:items[i]? =ac)
  (jG:∀av,zy it s.heap av->s.heap.objs.size<=av.objs.size->Q ac {s with heap:=av}):cG (c8 prog w) A (pyNext (.ref e)) Q E s:=by
 have gm:s.TypeIs (.ref e) "enumerate":=⟨_,bl,rfl⟩;refine b4 (zJ (uK (name:=oi "__next__") gm F.slot_enumerate_next
  (qo F.slot_enumerate_next gm F.entry_enumerate_next ?_ (F.args_enumerate_next_1 _))))
 show cG _ _ (rG (.ref e) 2>>=_) _ _ _
 refine bN (λ_=>mi bl rfl (x:=.ref it) rfl) (b4 (ah8 a6 iC aQ aO λav x ve hj Dz=>?_))
 refine bU Dz λo aR aD=>?_;clear Dz
 exact bN (λ_=>s9 (T:="StopIteration") (b:=ae) ⟨o,aR,aD⟩ Gx) (cL (jG _ ve hj))
theorem aib{it:a1}{x vv step:Int}{Q:Option aG->cn->Prop}(a6:A.handled=ac)(iC:IsRangeIter s.heap it x vv step)(ae5:vv<=0)
  (jG:∀av,zy it s.heap av->s.heap.objs.size<=av.objs.size->Q ac {s with heap:=av}):cG (c8 prog w) A (pyNext (.ref it)) Q E s:=by
 have gm:s.TypeIs (.ref it) "range_iterator":=⟨_,iC,rfl⟩;refine b4 (zJ (uK (name:=oi "__next__") gm F.slot_range_iterator_next
  (qo F.slot_range_iterator_next gm F.entry_range_iterator_next ?_ (F.args_range_iterator_next_1 _))))
 show cG _ _ (rG (.ref it) 0>>=_) _ _ s
 refine bN (λ_=>mi iC rfl (x:=rI x) rfl) (bN (λ_=>mi iC rfl (x:=rI vv) rfl) (bN (λ_=>mi iC rfl (x:=rI step) rfl) ?_))
 show cG _ _ (if vv<=0 then _ else _) _ _ s
 refine yM ae5 (bN (λ_=>rK) (b4 (b4 (b4 (qp ?_ (by size_fits))))))
 refine b4 (m:=uI _ _) (hG (a:=s2) (by first |rfl|(simp only [uI];rfl)) ?_)
 refine qp ?_ (by size_fits)
 refine bN (λ_=>GB) ?_
 first |(refine G (show A.in1.handled=ac from a6) ?_)|(refine G a6 ?_;try(with_reducible rfl))
 refine bN (λ_=>cL) (GJ ?_)
 refine b4 (s9 (T:="StopIteration") (b:=ae) ⟨_,hU _ rfl,rfl⟩ Gx ?_);exact cL (jG _ (((Heap.ExtBut.refl it s.heap).push _).push _) apR)
theorem next_tuple_end{it t:a1}{i:Nat}{items}{Q:Option aG->cn->Prop}(a6:A.handled=ac)
  (iC:s.heap.IsTupleIter it t i) (ce:s.heap.IsTuple t items) (aO:items[i]? =ac)
  (jG:∀av,zy it s.heap av->s.heap.objs.size<=av.objs.size->Q ac {s with heap:=av}):cG (c8 prog w) A (pyNext (.ref it)) Q E s:=by
 refine kT (id iC) λo aR aD bA=>?_
 refine Mo ce λSB AJ _ cO AC=>?_
 refine b4 (zJ (uK (name:=oi "__next__") iC.typeIs F.slot_tuple_iterator_next
  (qo F.slot_tuple_iterator_next iC.typeIs F.entry_tuple_iterator_next ?_ (F.args_tuple_iterator_next_1 _))))
 show cG _ _ (rG (.ref it) 0>>=_) _ _ s
 refine bN (λ_=>mi aR bA (x:=.ref t) rfl) (jt (show¬((lK t==s2)=ae) from t7) (bN (λ_=>mi aR bA (x:=.int i 0) rfl) (bN (λ_=>GG AJ AC) ?_)))
 simp only [h8,aO];refine bN (λ_=>rK) (bN (λ_=>GH aR bA (by simp)) ?_)
 refine b4 (b4 (qp ?_ (by size_fits)))
 refine b4 (m:=uI _ _) (hG (a:=s2) (by first |rfl|(simp only [uI];rfl)) ?_)
 refine qp ?_ (by size_fits)
 refine bN (λ_=>GB) ?_
 first |(refine G (show A.in1.handled=ac from a6) ?_)|(refine G a6 ?_;try(with_reducible rfl))
 refine bN (λ_=>cL) (GJ ?_)
 refine b4 (s9 (T:="StopIteration") (b:=ae) ⟨_,hU _ rfl,rfl⟩ Gx ?_);exact cL (jG _ (((NH ..).extBut.push _).push _) vP)
theorem unpack_tuple{t:a1}{items:Array aG}{Q:List aG->cn->Prop}(a6:A.handled=ac)(ce:s.heap.IsTuple t items)
  (jG:∀av,(∀b o,s.heap.get? b=J o->av.get? b=J o)->s.heap.objs.size<=av.objs.size->Q items.toList {s with heap:=av}):cG (c8 prog w) A (CF (.ref t) items.size ac) Q E s:=by
 have lP:t≠s.heap.objs.size:=by refine bU ce λo aR _=>?_;exact mf (gE aR)
 refine b4 (bN (λ_=>ie ce.typeIs F.slot_tuple_iter.lookup) (cL (b4 (rJ (wpAny_pyIter_tuple ce ?_)))))
 refine b4 (rJ (wpAny_draw_tuple lP items.size 0 _ _ ⟨_,hU _ rfl,rfl,rfl⟩ (ce.push _) (by lia) λh₁ ae2 I4=>?_))
 have Aw:List.take items.size (List.drop 0 items.toList)=items.toList:=
  G zm (Vj (by simp))
 refine G Aw (jt (by simp) ?_)
 have afq:h₁.IsTuple t items:=(ce.push _).extBut I4.extBut lP;refine b4 (rJ (next_tuple_end a6 ae2 afq (by simp) λafx aeV afo=>?_))
 refine cL (jG afx (λb o e=>?_) ?_)
 ·have hb:b≠s.heap.objs.size:=mf (gE e);exact aeV b o hb (I4.extBut b o hb (k6 _ e))
 ·refine cQ ?_ afo;exact G I4.1 (G (ib ..) (k4 s.heap.objs.size 1))
end
end Mine.Internal
end
noncomputable section
open PySem PySem.W PyProof.Rows PySem.Calls
namespace Mine.Internal
section
variable {H:an}{P:cB}{X:List a1}{b:a1}{h av:bq}{o:Obj}{p:a1×a1}{ρ cb:cr}
inductive All2{ay bF:Type}(R:ay->bF->Prop):List ay->List bF->Prop
 |nil:All2 R [] []
 |cons {a b l m}:R a b->All2 R l m->All2 R (a::l) (b::m)
namespace All2
variable {ay bF:Type}{R S:ay->bF->Prop}
theorem mono(k:∀a b,R a b->S a b){l:List ay}{m:List bF}(x:All2 R l m):All2 S l m:=by
 induction x with
 |nil=>exact .nil
 |cons h t ih=>exact .cons (k _ _ h) ih
theorem length{l:List ay}{m:List bF}(x:All2 R l m):l.length=m.length:=by
 induction x with
 |nil=>rfl
 |cons h t ih=>exact congrArg (· +1) ih
theorem get{l:List ay}{m:List bF}(x:All2 R l m):∀ {i:Nat} {a:ay},l[i]? =J a->∃b,m[i]? =J b/\R a b:=by
 induction x with
 |nil=>intro i a e;exact br e
 |cons h t ih=>
  intro i a e;induction i using n7 with
  |zero=>obtain rfl:=ci e;exact⟨_,rfl,h⟩
  |succ i=>exact ih (i:=i) e
theorem get'{l:List ay}{m:List bF}(x:All2 R l m):∀ {i:Nat} {b:bF},m[i]? =J b->∃a,l[i]? =J a/\R a b:=by
 induction x with
 |nil=>intro i a e;exact br e
 |cons h t ih=>
  intro i a e;induction i using n7 with
  |zero=>obtain rfl:=ci e;exact⟨_,rfl,h⟩
  |succ i=>exact ih (i:=i) e
theorem append{l l':List ay}{m bV:List bF}(x:All2 R l m)(y:All2 R l' bV):All2 R (l++l') (m++bV):=by
 induction x with
 |nil=>exact y
 |cons h t ih=>exact .cons h ih
theorem set{l:List ay}{m:List bF}(x:All2 R l m):∀ {i:Nat} {a:ay} {b:bF},R a b->All2 R (l.set i a) (m.set i b):=by
 induction x with
 |nil=>intro i a b r;exact .nil
 |cons h t ih=>
  intro i a b r;induction i using n7 with
  |zero=>exact .cons r t
  |succ i=>exact .cons h (ih r)
theorem eraseIdx{l:List ay}{m:List bF}(x:All2 R l m):∀ {i:Nat},All2 R (l.eraseIdx i) (m.eraseIdx i):=by
 induction x with
 |nil=>intro i;exact .nil
 |cons h t ih=>
  intro i;induction i using n7 with
  |zero=>exact t
  |succ i=>exact .cons h ih
theorem take{l:List ay}{m:List bF}(x:All2 R l m):∀ {i:Nat},All2 R (l.take i) (m.take i):=by
 induction x with
 |nil=>intro i;rcases i<;>exact .nil
 |cons h t ih=>
  intro i;induction i using n7 with
  |zero=>exact .nil
  |succ i=>exact .cons h ih
theorem drop{l:List ay}{m:List bF}(x:All2 R l m):∀ {i:Nat},All2 R (l.drop i) (m.drop i):=by
 induction x with
 |nil=>intro i;rcases i<;>exact .nil
 |cons h t ih=>
  intro i;induction i using n7 with
  |zero=>exact .cons h t
  |succ i=>exact ih
theorem un{a:ay}{l:List ay}{m:List bF}(x:All2 R (a::l) m):∃b n,m=b::n/\R a b/\All2 R l n:=by
 cases x with
 |cons h t=>exact⟨_,_,rfl,h,t⟩
theorem un0{m:List bF}(x:All2 R [] m):m=[]:=by
 rcases x;rfl
theorem one{a:ay}{l:List bF}(x:All2 R [a] l):∃db,l=[db]/\R a db:=by
 refine kA x.un λb n Kr r t=>?_;obtain rfl:=Kr
 cases t.un0;exact⟨b,rfl,r⟩
theorem two{a b:ay}{l:List bF}(x:All2 R [a,b] l):∃db ck,l=[db,ck]/\R a db/\R b ck:=by
 refine kA x.un λc n Ks r t=>?_;obtain rfl:=Ks
 refine bU t.one λd aj6 s=>?_;obtain rfl:=aj6
 exact⟨c,d,rfl,r,s⟩
theorem three{a b c:ay}{l:List bF}(x:All2 R [a,b,c] l):∃db ck c',l=[db,ck,c']/\R a db/\R b ck/\R c c':=by
 refine kA x.un λe n akh r t=>?_;obtain rfl:=akh
 refine kA t.two λd f aks s u=>?_;obtain rfl:=aks
 exact⟨e,d,f,rfl,r,s,u⟩
end All2
noncomputable abbrev cr:=List (a1×a1)
inductive M4(ρ:cr)(i:Nat)(v:aG):Prop
 |mk (p:a1×a1) (h:ρ[i]? =J p) (e:v=.ref p.1):M4 ρ i v
noncomputable def bg(ρ:cr):L->aG->Prop
 | .none,v=>v=.none
 | .bool b,v=>v=.bool b
 | .int i,v=>∃t,v=.int i t
 | .bytes l,v=>∃t,v=.bytes l.toArray t
 | .str s,v=>∃t,v=.str s t
 | .new i,v=>M4 ρ i v
 | .st c,v=>v=c
def Sub(ρ cb:cr):Prop:=∃x,cb=ρ++x
theorem Sub.refl(ρ:cr):Sub ρ ρ:=⟨[],by simp⟩
theorem Sub.trans{a b c:cr}(x:Sub a b)(y:Sub b c):Sub a c:=by
 refine cm x λu akD=>?_;obtain rfl:=akD;refine cm y λv akO=>?_;obtain rfl:=akO;exact⟨u++v,by simp⟩
theorem Sub.get{a b:cr}(x:Sub a b){i:Nat}{p}(e:a[i]? =J p):b[i]? =J p:=by
 refine cm x λu akZ=>?_;obtain rfl:=akZ
 exact G (sM (by have :=kF.mp e;exact this.1)) e
theorem bg.sub(x:Sub ρ cb){v:L}{aJ:aG}(h:bg ρ v aJ):bg cb v aJ:=by
 induction v using Mine.Internal.L.casesOn with
 |new i=>obtain⟨p,e,r⟩:=h;exact⟨p,x.get e,r⟩
 |_=>exact h
noncomputable def DN(P:cB):L->Int
 | .int i=>hashInt i
 | .str s=>wA P s
 |_=>0
def zS(ρ:cr)(a:Str×L)(e:hT):Prop:=(∃t,e.key=.str a.1 t)/\bg ρ a.2 e.val
def H7(P:cB)(ρ:cr)(a:L×L)(e:hT):Prop:=fX a.1=ae/\bg ρ a.1 e.key/\bg ρ a.2 e.val/\e.hash=DN P a.1
noncomputable def z8(c:a1):Bool:=[539,658,754,865,192,281,441].contains c
inductive M7(ρ:cr)(p:a1×a1)(h:bq)(c:a1)(l:List (Str×L)):Prop
 |mk (k:z8 c=ae) (n:p.1≠p.2) (aB:h.get? p.1=J (kj c p.2)) (aH:List hT) (m:Nat) (e:h.get? p.2=J (qi aH m)) (r:All2 (zS ρ) l aH):M7 ρ p h c l
inductive M8(ρ:cr)(p:a1×a1)(h:bq)(l:List L):Prop
 |mk (q:p.1=p.2) (vs:List aG) (n:Nat) (aB:h.get? p.1=J {cls:=.type "list",data:=.seq vs.toArray n}) (r:All2 (bg ρ) l vs):M8 ρ p h l
inductive Ge(am:bq->a1->Array aG->Prop)(ρ:cr)(p:a1×a1)(h:bq)(l:List L):Prop
 |mk (q:p.1=p.2) (vs:List aG) (aB:am h p.1 vs.toArray) (r:All2 (bg ρ) l vs):Ge am ρ p h l
inductive M6(P:cB)(ρ:cr)(p:a1×a1)(h:bq)(l:List (L×L)):Prop
 |mk (q:p.1=p.2) (aH:List hT) (n:Nat) (aB:h.get? p.1=J (qi aH n)) (r:All2 (H7 P ρ) l aH) (d:(l.map (·.1)).Nodup) (s:p.1≠CE):M6 P ρ p h l
inductive M9(p:a1×a1)(h:bq)(l:List L):Prop
 |mk (q:p.1=p.2) (o:Obj) (aH:Array (Int×aG)) (n:Nat) (t:SetTable) (aB:h.get? p.1=J o) (x:o.ExactSet) (d:o.data=.set aH n t) (f:t.fits aH.size=ae) (z:aH.size=l.length):M9 p h l
inductive M5(p:a1×a1)(h:bq)(l:List UInt8):Prop
 |mk (q:p.1=p.2) (n:Unit) (aB:h.get? p.1=J {cls:=.type "bytearray",data:=.bytearray l.toArray}):M5 p h l
def j9(P:cB)(ρ:cr)(p:a1×a1)(h:bq)(o:bt):Prop:=match o with
 | .inst c l=>M7 ρ p h c l
 | .list l=>M8 ρ p h l
 | .scr l=>Ge Heap.IsList ρ p h l
 | .tup l=>Ge Heap.IsTuple ρ p h l
 | .dict l=>M6 P ρ p h l
 | .set l=>M9 p h l
 | .ba l=>M5 p h l
theorem j9.sub(x:Sub ρ cb){p:a1×a1}{h:bq}{o:bt}(q:j9 P ρ p h o):j9 P cb p h o:=by
 induction o using Mine.Internal.bt.casesOn with
 |inst c aN=>obtain⟨z,a,b,aH,n,e,r⟩:=q;exact⟨z,a,b,aH,n,e,r.mono λ_ _ u=>⟨u.1,u.2.sub x⟩⟩
 |list l=>obtain⟨a,vs,n,b,c⟩:=q;exact⟨a,vs,n,b,c.mono λ_ _ v=>v.sub x⟩
 |scr l=>obtain⟨a,vs,b,c⟩:=q;exact⟨a,vs,b,c.mono λ_ _ v=>v.sub x⟩
 |tup l=>obtain⟨a,vs,b,c⟩:=q;exact⟨a,vs,b,c.mono λ_ _ v=>v.sub x⟩
 |dict l=>obtain⟨a,aH,n,e,r,d,s⟩:=q;exact⟨a,aH,n,e,r.mono λ_ _ u=>⟨u.1,u.2.1.sub x,u.2.2.1.sub x,u.2.2.2⟩,d,s⟩
 |set l=>exact q
 |ba l=>exact q
theorem j9.keeps(k1:∀o,h.get? p.1=J o->av.get? p.1=J o)(k2:∀o,h.get? p.2=J o->av.get? p.2=J o){o:bt}(q:j9 P ρ p h o):j9 P ρ p av o:=by
 induction o using Mine.Internal.bt.casesOn with
 |inst c aN=>obtain⟨z,a,b,aH,n,e,r⟩:=q;exact⟨z,a,k1 _ b,aH,n,k2 _ e,r⟩
 |list l=>obtain⟨a,vs,n,b,d⟩:=q;exact⟨a,vs,n,k1 _ b,d⟩
 |scr l=>obtain⟨a,vs,⟨o,b,c⟩,d⟩:=q;exact⟨a,vs,⟨o,k1 _ b,c⟩,d⟩
 |tup l=>obtain⟨a,vs,⟨o,b,c⟩,d⟩:=q;exact⟨a,vs,⟨o,k1 _ b,c⟩,d⟩
 |dict l=>obtain⟨a,aH,n,e,r,d,s⟩:=q;exact⟨a,aH,n,k1 _ e,r,d,s⟩
 |set l=>obtain⟨a,o,aH,n,t,e,r,u,v,w⟩:=q;exact⟨a,o,aH,n,t,k1 _ e,r,u,v,w⟩
 |ba l=>obtain⟨a,n,e⟩:=q;exact⟨a,n,k1 _ e⟩
theorem j9.live{o:bt}(q:j9 P ρ p h o):(∃o,h.get? p.1=J o)/\∃o,h.get? p.2=J o:=by
 induction o using Mine.Internal.bt.casesOn with
 |inst c aN=>obtain⟨z,a,b,aH,n,e,r⟩:=q;exact⟨⟨_,b⟩,_,e⟩
 |list l=>obtain⟨a,vs,n,b,d⟩:=q;exact⟨⟨_,b⟩,_,a▸b⟩
 |scr l=>obtain⟨a,vs,⟨o,b,c⟩,d⟩:=q;exact⟨⟨_,b⟩,_,a▸b⟩
 |tup l=>obtain⟨a,vs,⟨o,b,c⟩,d⟩:=q;exact⟨⟨_,b⟩,_,a▸b⟩
 |dict l=>obtain⟨a,aH,n,e,r⟩:=q;exact⟨⟨_,e⟩,_,a▸e⟩
 |set l=>obtain⟨a,o,aH,n,t,e,r⟩:=q;exact⟨⟨_,e⟩,_,a▸e⟩
 |ba l=>obtain⟨a,n,e⟩:=q;exact⟨⟨_,e⟩,_,a▸e⟩
structure fa where
 w:eJ
 O:gv
 h₀:bq
 base:l7 w h₀
 fs:List a1
structure fW(Θ:fa)(ρ:cr)(H:an)(h:bq):Prop where
 len:ρ.length=H.length
 old:∀b o,Θ.h₀.get? b=J o->h.get? b=J o
 low:∀(i:Nat) (p:a1×a1),ρ[i]? =J p->i≠0->Θ.h₀.get? p.1=ac/\Θ.h₀.get? p.2=ac
 sep:∀(i j:Nat) (p q:a1×a1),ρ[i]? =J p->ρ[j]? =J q->i≠j->p.1≠q.1/\p.1≠q.2/\p.2≠q.1/\p.2≠q.2
 obj:∀(i:Nat) (p:a1×a1) (o:bt),ρ[i]? =J p->H[i]? =J o->j9 Θ.w.params ρ p h o
 frm:∀b∈Θ.fs,Θ.h₀.get? b=ac/\(∃o,h.get? b=J o/\o.cls=.type "frame"/\∃aH n,o.data=.dict aH n)/\∀(i:Nat) (p:a1×a1),ρ[i]? =J p->b≠p.1/\b≠p.2
def gQ(ρ:cr)(b:a1):Prop:=∃(i:Nat) (p:a1×a1),ρ[i]? =J p/\(b=p.1\/b=p.2)
def Qa(ρ:cr)(b:a1):Prop:=∃(i:Nat) (p:a1×a1),ρ[i]? =J p/\i≠0/\(b=p.1\/b=p.2)
def gM(h av:bq):Prop:=(∀b o,h.get? b=J o->av.get? b=J o)/\h.objs.size<=av.objs.size
theorem gM.refl(h:bq):gM h h:=⟨λ_ _ e=>e,cW _⟩
theorem gM.trans{a b c:bq}(x:gM a b)(y:gM b c):gM a c:=⟨λq o e=>y.1 q o (x.1 q o e),cQ x.2 y.2⟩
theorem gM.push(h:bq)(o:Obj):gM h (h.push o):=⟨λ_ _ e=>k6 _ e,G (ib ..) (k4 h.objs.size 1)⟩
def p7(av:bq)(b:a1)(o:Obj):Prop:=∃sl,av.get? b=J {o with slots:=sl}/\(o.cls≠.type "frame"->sl=o.slots)
theorem p7.of(e:av.get? b=J o):p7 av b o:=⟨o.slots,e,λ_=>rfl⟩
theorem p7.exact(x:p7 av b o)(aD:o.cls≠.type "frame"):av.get? b=J o:=by
 refine bU x λsl e k=>?_
 rw [k aD] at e;exact e
theorem p7.trans{ak:bq}(x:p7 av b o)(y:∀o',av.get? b=J o'->p7 ak b o'):p7 ak b o:=by
 refine bU x λsl e k=>?_
 exact bU (y _ e) λaos e2 k2=>⟨aos,e2,λq=>(k2 q).trans (k q)⟩
structure d3(X:List a1)(ρ:cr)(h:bq)(cb:cr)(av:bq):Prop where
 sub:Sub ρ cb
 new:∀(i:Nat) (p:a1×a1),cb[i]? =J p->ρ.length<=i->h.objs.size<=p.1/\h.objs.size<=p.2
 keep:∀b o,h.get? b=J o->¬Qa ρ b->b∉X->p7 av b o
 size:h.objs.size<=av.objs.size
theorem d3.refl(X:List a1)(ρ:cr)(h:bq):d3 X ρ h ρ h:=⟨.refl _,λi p e hi=>absurd e (by refine G (mP hi) ?_;simp),λ_ _ e _ _=>.of e,cW _⟩
theorem d3.trans{bG du:cr}{ai ak:bq}(x:d3 X ρ h bG ai)(y:d3 X bG ai du ak):d3 X ρ h du ak:=by
 refine⟨x.sub.trans y.sub,λi p e hi=>?_,λb o e hb f4=>?_,cQ x.size y.size⟩
 ·by_cases Qq:bG.length<=i
  ·have :=y.new i p e Qq;have :=x.size;lia
  ·obtain⟨q,cJ⟩:∃q,bG[i]? =J q:=⟨_,iy (wq Qq)⟩;have :=y.sub.get cJ;rw [e] at this;obtain rfl:=ci this;exact x.new i _ cJ hi
 ·refine(x.keep b o e hb f4).trans λo' cU=>y.keep b o' cU (λeH=>kA eH λi p hp hi Qw=>?_) f4
  by_cases aQ:ρ.length<=i
  ·have a:=x.new i p hp aQ;have ck:h.objs.size>b:=gE e;rcases Qw with z|z<;>rw [z] at ck<;>lia
  ·obtain⟨q,cJ⟩:∃q,ρ[i]? =J q:=⟨_,iy (wq aQ)⟩;have :=x.sub.get cJ;rw [hp] at this;obtain rfl:=ci this;exact hb ⟨i,_,cJ,hi,Qw⟩
theorem d3.ext(x:gM h av):d3 X ρ h ρ av:=⟨.refl _,λi p e hi=>absurd e (by refine G (mP hi) ?_;simp),λb o e _ _=>.of (x.1 b o e),x.2⟩
theorem d3.wide(x:d3 [] ρ h cb av):d3 X ρ h cb av:=⟨x.sub,x.new,λb o e hb _=>x.keep b o e hb (by simp),x.size⟩
theorem fW.lt{Θ:fa}(x:fW Θ ρ H h){i:Nat}{p}(e:ρ[i]? =J p):h.objs.size>p.1/\h.objs.size>p.2:=by
 obtain⟨o,aR⟩:∃o,H[i]? =J o:=⟨_,iy (by have :=(kF.mp e).1;exact cT x.len this)⟩
 refine Ue ((x.obj i p o e aR).live) λali en e2=>?_;refine cm ali λdx e1=>?_
 exact⟨gE e1,gE e2⟩
theorem fW.get{Θ:fa}(x:fW Θ ρ H h){i:Nat}{o:bt}(e:H[i]? =J o):∃p,ρ[i]? =J p/\j9 Θ.w.params ρ p h o:=by
 obtain⟨p,hp⟩:∃p,ρ[i]? =J p:=⟨_,iy (by have :=(kF.mp e).1;exact G x.len this)⟩
 exact⟨p,hp,x.obj i p o hp e⟩
theorem fW.base{Θ:fa}(x:fW Θ ρ H h):l7 Θ.w h:=Θ.base.keeps x.old
theorem fW.ext{Θ:fa}(x:fW Θ ρ H h)(k:gM h av):fW Θ ρ H av:=
 ⟨x.len,λb o e=>k.1 b o (x.old b o e),x.low,x.sep,λi p o e1 e2=>(x.obj i p o e1 e2).keeps (λo e=>k.1 _ o e) λo e=>k.1 _ o e,λb hb=>let⟨a,⟨o,e,d⟩,c⟩:=x.frm b hb;⟨a,⟨o,k.1 _ _ e,d⟩,c⟩⟩
theorem fW.upd{Θ:fa}(x:fW Θ ρ H h){i:Nat}{p:a1×a1}{o:bt}(e:ρ[i]? =J p)(hi:i≠0)
  (k:∀b o,b≠p.1->b≠p.2->h.get? b=J o->av.get? b=J o) (r:j9 Θ.w.params ρ p av o):fW Θ ρ (H.set i o) av:=by
 refine⟨by refine G zp ?_;exact x.len,λb o' cU=>k b o' (λq=>?_) (λq=>?_) (x.old b o' cU),x.low,x.sep,λj q o' e1 e2=>?_,λb hb=>let⟨a,⟨o,aP,d⟩,c⟩:=x.frm b hb;⟨a,⟨o,k b o (c i p e).1 (c i p e).2 aP,d⟩,c⟩⟩
 ·have :=(x.low i p e hi).1;rw [<-q,cU] at this;exact br this.symm
 ·have :=(x.low i p e hi).2;rw [<-q,cU] at this;exact br this.symm
 ·by_cases cY:i=j
  ·subst cY;rw [e] at e1;obtain rfl:=ci e1;rw [Vh (by have :=(kF.mp e).1;exact cT x.len this)] at e2
   obtain rfl:=ci e2;exact r
  ·rw [MP cY] at e2;exact v5 (x.sep j i q p e1 e (λz=>cY z.symm)) λcP d6 hN xB=>(x.obj j q o' e1 e2).keeps (λo z=>k _ o cP d6 z) λo z=>k _ o hN xB z
theorem d3.upd{i:Nat}(e:ρ[i]? =J p)(hi:i≠0)
  (k:∀b o,b≠p.1->b≠p.2->h.get? b=J o->av.get? b=J o) (hs:h.objs.size<=av.objs.size):d3 X ρ h ρ av:=
 ⟨.refl _,λi p e hi=>absurd e (by refine G (mP hi) ?_;simp),λb o cU hb _=>.of (k b o (λq=>hb ⟨i,p,e,hi,.inl q⟩) (λq=>hb ⟨i,p,e,hi,.inr q⟩) cU),hs⟩
theorem fW.add{Θ:fa}(x:fW Θ ρ H h)(k:gM h av){p:a1×a1}{o:bt}(ai:h.objs.size<=p.1)(ak:h.objs.size<=p.2)
  (r:j9 Θ.w.params (ρ++[p]) p av o):fW Θ (ρ++[p]) (H++[o]) av:=by
 have sub:Sub ρ (ρ++[p]):=⟨[p],rfl⟩;have ps:∀i q,(ρ++[p])[i]? =J q->ρ[i]? =J q\/(i=ρ.length/\q=p):=by
  intro i q e;rcases Cj i ρ.length with aQ|aQ
  ·rw [sM aQ] at e;exact .inl e
  ·rw [sN aQ] at e;have :i - ρ.length=0:=by
    have :=(kF.mp e).1;simp at this;exact‹_›
   rw [this] at e;simp at e
   exact .inr ⟨OL aQ this,e.symm⟩
 refine⟨by simp [x.len],λb o e=>k.1 b o (x.old b o e),λi q e hi=>?_,λi j q iE e1 e2 vh=>?_,λi q o' e1 e2=>?_,λb hb=>?_⟩
 ·rcases ps i q e with e|⟨-,rfl⟩
  ·exact x.low i q e hi
  ·constructor
   ·cases z:Θ.h₀.get? q.1 with
    |none=>rfl
    |some o'=>have :h.objs.size>q.1:=gE (x.old _ _ z);lia
   ·cases z:Θ.h₀.get? q.2 with
    |none=>rfl
    |some o'=>have :h.objs.size>q.2:=gE (x.old _ _ z);lia
 ·have jL:∀ {a b:a1},h.objs.size>a->h.objs.size<=b->a≠b:=λu v z=>by rw [z] at u;exact jn _ (eE u v)
  rcases ps i q e1 with ch|⟨a,rfl⟩<;>rcases ps j iE e2 with cd|⟨b,rfl⟩
  ·exact x.sep i j q iE ch cd vh
  ·have z:=x.lt ch;exact⟨jL z.1 ai,jL z.1 ak,jL z.2 ai,jL z.2 ak⟩
  ·have z:=x.lt cd;exact⟨(jL z.1 ai).symm,(jL z.2 ai).symm,(jL z.1 ak).symm,(jL z.2 ak).symm⟩
  ·lia
 ·rcases ps i q e1 with e1|⟨a,rfl⟩
  ·have aQ:=(kF.mp e1).1;rw [sM (cT x.len aQ)] at e2;exact((x.obj i q o' e1 e2).keeps (λo e=>k.1 _ o e) (λo e=>k.1 _ o e)).sub sub
  ·subst a;rw [x.len,sN (cW _)] at e2;simp at e2;subst e2;exact r
 ·refine dS (x.frm b hb) λa als c=>?_;refine bU als λo e d=>?_
  have lP:b<h.objs.size:=gE e;refine⟨a,⟨o,k.1 _ _ e,d⟩,λi q e2=>?_⟩
  rcases ps i q e2 with e2|⟨_,rfl⟩
  ·exact c i q e2
  ·exact⟨λz=>by rw [<-z] at ai;exact jn _ (eE lP ai),λz=>by rw [<-z] at ak;exact jn _ (eE lP ak)⟩
theorem d3.add(k:gM h av){p:a1×a1}(ai:h.objs.size<=p.1)(ak:h.objs.size<=p.2):d3 X ρ h (ρ++[p]) av:=by
 refine⟨⟨[p],rfl⟩,λi q e hi=>?_,λb o e _ _=>.of (k.1 b o e),k.2⟩
 rw [sN hi] at e;have :i - ρ.length=0:=by have :=(kF.mp e).1;simp at this;exact‹_›
 rw [this] at e;simp at e;subst e;exact⟨ai,ak⟩
theorem bg.last{n:Nat}(e:ρ.length=n):bg (ρ++[p]) (.new n) (.ref p.1):=⟨p,by refine G (sN (iB e)) ?_;simp [e],rfl⟩
end
variable {H:an}{X:List a1}{h av:bq}{ρ cb:cr}{ay bF:Type}
section
variable {vs:List aG}
theorem pG{bF:Type}(x:Str):∀l:List (Str×bF),cy l x=l.lookup x
 | []=>rfl
 |(y,v)::l=>by
  refine G sP (G pF ?_);by_cases e:y=x
  ·subst e;simp
  ·refine G (a8 e) (G (pG x l) ?_);have :(x==y)=aA:=by simpa using λz=>e z.symm
   (exact G this rfl)
theorem qP{bF:Type}(x y:Str)(v:bF):∀l:List (Str×bF),cy (fA l x v) y=if y=x then J v else cy l y
 | []=>by
  show(if x=y then J v else ac)=if y=x then J v else ac
  by_cases e:x=y
  ·rw [aY e,aY e.symm]
  ·rw [a8 e,a8 λz=>e z.symm]
 |(z,u)::l=>by
  refine G Kl ?_;by_cases e:z=x
  ·subst e;refine G (aY rfl) (G pF (G (pF (v:=u)) ?_));by_cases f:z=y
   ·subst f;rw [aY rfl,aY rfl]
   ·(exact G (a8 f) (G (a8 (λz=>f z.symm)) (G (a8 f) rfl)))
  ·refine G (a8 e) (G pF (G pF ?_));by_cases f:z=y
   ·subst f;(exact G (aY rfl) (G (aY rfl) (G (a8 e) rfl)))
   ·exact G (a8 f) (G (a8 f) (qP x y v l))
noncomputable def own(Z:Env):List a1:=Z.locals::Z.cells.map (·.2)
structure zj(Z:Env)(ρ:cr)(m:Loc)(h:bq):Prop where
 kind:Z.scope.kind=.function
 glob:Z.globals=k8
 blt:Z.builtins=s6
 ns:∃nm,h.Ns Z.locals nm/\∀x v,Z.kindOf x=J .local ->cy m x=J v->∃aJ,nm x=J aJ/\bg ρ v aJ
 cell:∀x c,Z.cells.lookup x=J c->∃kb,h.IsCell c kb/\∀v,Z.kindOf x≠J .local ->cy m x=J v->∃aJ,kb=J aJ/\bg ρ v aJ
 has:∀x,Z.kindOf x=J .cell\/Z.kindOf x=J .free->(Z.cells.lookup x).isSome=ae
 apart:Z.cells.Pairwise λx y=>x.2≠y.2
 napart:∀x∈Z.cells,x.2≠Z.locals
theorem zj.move{Z:Env}{ρ cb:cr}{m:Loc}{h av:bq}(x:zj Z ρ m h)(hs:Sub ρ cb)(k:∀b∈own Z,∀o,h.get? b=J o->p7 av b o):zj Z cb m av:=by
 refine⟨x.kind,x.glob,x.blt,?_,λy c e=>?_,x.has,x.apart,x.napart⟩
 ·refine bU x.ns λnm alu b=>?_;obtain⟨o,aH,ii,aR,r⟩:=alu
  exact bU (k _ fK _ aR) λsl IX _=>⟨nm,⟨_,aH,ii,IX,r⟩,λy v e1 e2=>bU (b y v e1 e2) λaJ p q=>⟨aJ,p,q.sub hs⟩⟩
 ·refine bU (x.cell y c e) λkb alE r=>?_;refine bU alE λo a b=>?_
  exact bU (k _ (f8 _ (rt (f:=(·.2)) (mem_of_lookup e))) _ a) λsl db _=>⟨kb,⟨_,db,b⟩,λv hk e=>bU (r v hk e) λaJ p q=>⟨aJ,p,q.sub hs⟩⟩
structure bD(Θ:fa)(Z:Env)(ρ:cr)(m:Loc)(H:an)(h:bq):Prop where
 rel:fW Θ ρ H h
 fr:zj Z ρ m h
 out:∀b∈own Z,¬gQ ρ b/\Θ.h₀.get? b=ac/\h.objs.size>b
section
variable {Θ:fa}{Z:Env}{m:Loc}{bb:an}
theorem bD.ext(x:bD Θ Z ρ m H h)(k:gM h av):bD Θ Z ρ m H av:=
 ⟨x.rel.ext k,x.fr.move (.refl _) λb _ o e=>.of (k.1 b o e),λb hb=>⟨(x.out b hb).1,(x.out b hb).2.1,eE (x.out b hb).2.2 k.2⟩⟩
theorem ty{b:a1}(x:Qa ρ b):gQ ρ b:=kA x λi p a _ c=>⟨i,p,a,c⟩
theorem bD.call(x:bD Θ Z ρ m H h)(r:fW Θ cb bb av)(f:d3 [] ρ h cb av):bD Θ Z cb m bb av:=by
 refine⟨r,x.fr.move f.sub λb hb o e=>f.keep b o e (λz=>(x.out b hb).1 (ty z)) (by simp),λb hb=>⟨λeH=>mF eH λi p e z=>?_,(x.out b hb).2.1,eE (x.out b hb).2.2 f.size⟩⟩
 by_cases aQ:ρ.length<=i
 ·have a:=f.new i p e aQ;have q:h.objs.size>b:=(x.out b hb).2.2;rcases z with z|z<;>rw [z] at q<;>lia
 ·obtain⟨q,cJ⟩:∃q,ρ[i]? =J q:=⟨_,iy (wq aQ)⟩;have :=f.sub.get cJ;rw [e] at this;obtain rfl:=ci this;exact(x.out b hb).1 ⟨i,p,cJ,z⟩
theorem bD.len(x:bD Θ Z ρ m H h):ρ.length=H.length:=x.rel.len
inductive d4(Θ:fa)(Z:Env)(ρ:cr)(h:bq){ay:Type}(Q:ay->cr->Loc->an->Prop)(a:ay)(av:bq):Prop
 |mk (cb:cr) (bV:Loc) (bb:an) (x:bD Θ Z cb bV bb av) (f:d3 (own Z) ρ h cb av) (q:Q a cb bV bb):d4 Θ Z ρ h Q a av
abbrev aa(Θ:fa)(ah:Ctx)(Z:Env)(ρ:cr){ay:Type}(t:Sem ay)(Q:ay->cr->Loc->an->Prop)(h:bq):Prop:=af Θ.w Θ.O ah t (d4 Θ Z ρ h Q) h
variable {ah:Ctx}{d:Nat}
theorem aa.mono{t:Sem ay}{Q ol:ay->cr->Loc->an->Prop}(x:aa Θ ah Z ρ t Q h)(k:∀a bG dF bI,Q a bG dF bI->ol a bG dF bI):aa Θ ah Z ρ t ol h:=
 af.mono x λa av ⟨bG,dF,bI,y,z,q⟩=>⟨bG,dF,bI,y,z,k _ _ _ _ q⟩
theorem d4.go{f:d3 (own Z) ρ h cb av}{Q:ay->cr->Loc->an->Prop}{a:ay}{ak:bq}(x:d4 Θ Z cb av Q a ak):d4 Θ Z ρ h Q a ak:=
 let⟨bG,dF,bI,y,z,q⟩:=x;⟨bG,dF,bI,y,f.trans z,q⟩
theorem aa.bind{t:Sem ay}{f:ay->Sem bF}{Q1:ay->cr->Loc->an->Prop}{Q:bF->cr->Loc->an->Prop}(x:aa Θ ah Z ρ t Q1 h)
  (k:∀a bG dF bI ai,bD Θ Z bG dF bI ai->Sub ρ bG->Q1 a bG dF bI->aa Θ ah Z bG (f a) Q ai):aa Θ ah Z ρ (t>>=f) Q h:=
 af.bind (af.mono x λa ai ⟨bG,dF,bI,y,z,q⟩=>af.mono (k a bG dF bI ai y z.sub q) λb ak r=>r.go (f:=z))
theorem aa.pure{a:ay}{Q:ay->cr->Loc->an->Prop}(x:bD Θ Z ρ m H h)(q:Q a ρ m H):aa Θ ah Z ρ (bK a:Sem ay) Q h:=af.pure ⟨ρ,m,H,x,.refl _ _ _,q⟩
theorem d4.now{a:ay}{Q:ay->cr->Loc->an->Prop}(x:bD Θ Z ρ m H h)(q:Q a ρ m H):d4 Θ Z ρ h Q a h:=⟨ρ,m,H,x,.refl _ _ _,q⟩
theorem d4.grown{a:ay}{Q:ay->cr->Loc->an->Prop}(x:bD Θ Z ρ m H h)(k:gM h av)(q:Q a ρ m H):d4 Θ Z ρ h Q a av:=⟨ρ,m,H,x.ext k,.ext k,q⟩
theorem d4.added{a:ay}{Q:ay->cr->Loc->an->Prop}(x:bD Θ Z ρ m H h)(k:gM h av){p:a1×a1}{o:bt}(ai:h.objs.size<=p.1)(ak:h.objs.size<=p.2)
  (r:j9 Θ.w.params (ρ++[p]) p av o) (q:Q a (ρ++[p]) m (H++[o])):d4 Θ Z ρ h Q a av:=by
 have f:d3 [] ρ h (ρ++[p]) av:=.add k ai ak;exact⟨ρ++[p],m,H++[o],x.call (x.rel.add k ai ak r) f,f.wide,q⟩
theorem d4.turned{a:ay}{Q:ay->cr->Loc->an->Prop}(x:bD Θ Z ρ m H h){i:Nat}{p:a1×a1}{o:bt}(e:ρ[i]? =J p)(hi:i≠0)
  (k:∀b o,b≠p.1->b≠p.2->h.get? b=J o->av.get? b=J o) (hs:h.objs.size<=av.objs.size) (r:j9 Θ.w.params ρ p av o) (q:Q a ρ m (H.set i o)):d4 Θ Z ρ h Q a av:=by
 have f:d3 [] ρ h ρ av:=.upd e hi k hs;exact⟨ρ,m,H.set i o,x.call (x.rel.upd e hi k r) f,f.wide,q⟩
theorem aa.any{t:Sem ay}{Q:ay->cr->Loc->an->Prop}(ok:bz Θ.fs d ah)
  (x:∀A s,A.handled=ac->A.depth<990->A.units<9800->s.heap=h->s.gens= #[]->s.os=Θ.O->cG (c8 prog Θ.w) A t (λa aS=>d4 Θ Z ρ h Q a aS.heap/\aS.gens= #[]/\aS.os=Θ.O) (λ_ _=>False) s):aa Θ ah Z ρ t Q h:=by
 obtain⟨A,cS,a6,bA,bT⟩:=ok.room;exact af.any cS λs e1 e2 aP=>x A s a6 (Ga bA) (Ga bT) e1 e2 aP
theorem aa.holding{t:Sem ay}{Q:ay->cr->Loc->an->Prop}(x:aa Θ ah Z ρ t Q h):aa Θ ah Z ρ (PySem.holding vs t) Q h:=af.holding x
theorem aa.operate{t:Sem aG}{Q:aG->cr->Loc->an->Prop}(x:aa Θ ah Z ρ t Q h):aa Θ ah Z ρ (PySem.operate vs t) Q h:=af.operate x
theorem aa.stand{pos:Pos}{f:Unit->Sem ay}{Q:ay->cr->Loc->an->Prop}(x:aa Θ ah Z ρ (f ()) Q h):aa Θ ah Z ρ (PySem.standAt pos>>=f) Q h:=af.bv (λ_=>af.standAt) x
theorem aa.release{ff:List aG}{f:Unit->Sem ay}{Q:ay->cr->Loc->an->Prop}(x:aa Θ ah Z ρ (f ()) Q h):aa Θ ah Z ρ (PySem.release vs ff>>=f) Q h:=af.bv (λ_=>af.release) x
abbrev mT(m:Loc)(k:L->an->Prop):aG->cr->Loc->an->Prop:=λaJ cb bV bb=>bV=m/\∃v,bg cb v aJ/\k v bb
theorem oO{ay bF:Type}{a v:ay}{b c:bF}(e:J (a,b)=J (v,c)):v=a:=(ND (ci e)).1.symm
theorem qS{ay bF:Type}{a v:ay}{b c:bF}(e:J (a,b)=J (v,c)):c=b:=(ND (ci e)).2.symm
theorem xf{ay:Type}{c:Prop}[Decidable c]{X:Option ay}{v:ay}{P:Prop}(e:(if c then ac else X)=J v)(k:¬c->X=J v->P):P:=by
 rcases Decidable.em c with h|h
 ·rw [aY h] at e;exact br e
 ·rw [a8 h] at e;exact k h e
theorem aoF{bM:oh}{a b:Int}{t u:Tok}{v:L}{k:L->an->Prop}(ok:bz Θ.fs d ah)(x:bD Θ Z ρ m H h)(e:a5 bM (.int a) (.int b) H=J (v,bb))(q:k v bb):
  aa Θ ah Z ρ (zB bM (.int a t) (.int b u)) (mT m k) h:=by
 refine aa.any ok λA s a6 bA bT e1 e2 aP=>?_
 subst e1;have cq:∀(i:Int) (t:Tok),v=.int i->bb=H->d4 Θ Z ρ s.heap (mT m k) (.int i t) s.heap:=λi t e1 e2=>d4.now x ⟨rfl,v,e1▸⟨t,rfl⟩,e2▸q⟩
 have aoz:∀z:Int,cH z=ae->z.natAbs<2^62:=λz hz=>by simpa [cH] using hz
 have Ld:∀z:Int,cH z=ae->z.natAbs<2^64:=λz hz=>n8 (aoz z hz) (by decide)
 have js:∀ {i:Int} {t:Tok} {aS:cn},aS.heap=s.heap->aS.gens=s.gens->aS.os=s.os->v=.int i->bb=H->d4 Θ Z ρ s.heap (mT m k) (.int i t) aS.heap/\aS.gens= #[]/\aS.os=Θ.O:=
  λa b c acE acF=>⟨a▸cq _ _ acE acF,b.trans e2,c.trans aP⟩
 have e:QX bM a b H=J (v,bb):=e;rcases bM
 case Add=>exact add_int (js rfl rfl rfl (oO e) (qS e))
 case Sub=>exact sub_int (js rfl rfl rfl (oO e) (qS e))
 case Mult=>exact dR e λhs e=>mul_int (js rfl rfl rfl (oO e) (qS e)) (IntMulOk.of_left (PyProof.Rows.intBits_le (Ld _ (eZ hs))))
 case FloorDiv=>exact xf e λhb e=>dR e λhs e=>floordiv_int hb (js rfl rfl rfl (oO e) (qS e)) (.inl (Vt (eE ‹_› (by decide))))
 case Mod=>exact xf e λhb e=>mod_int' hb (js rfl rfl rfl (oO e) (qS e))
 case Pow=>exact dR e λhs e=>pow_int_small hs.1 (by lia) (Ld _ hs.2.2) (js rfl rfl rfl (oO e) (qS e))
 case LShift=>exact dR e λhs e=>lshift_int_small hs.1 (by lia) (Ld _ hs.2.2) (js rfl rfl rfl (oO e) (qS e))
 case RShift=>exact dR e λhs e=>rshift_int hs (js rfl rfl rfl (oO e) (qS e))
 case BitAnd=>exact and_int (js rfl rfl rfl (oO e) (qS e))
 case BitOr=>exact or_int (js rfl rfl rfl (oO e) (qS e))
 all_goals exact br e
end
end
variable {vs:List aG}{Θ:fa}{Z:Env}{m:Loc}{bb:an}{ah:Ctx}{d:Nat}
section
abbrev dC(m:Loc)(v:L)(bI:an):aG->cr->Loc->an->Prop:=λaJ cb bV bb=>bV=m/\bb=bI/\bg cb v aJ
noncomputable abbrev lc(m:Loc)(bI:an){ay:Type}:ay->cr->Loc->an->Prop:=λ_ _ bV bb=>bV=m/\bb=bI
noncomputable abbrev Mv(m:Loc)(b:Bool)(bI:an):Bool->cr->Loc->an->Prop:=λck _ bV bb=>bV=m/\bb=bI/\ck=b
variable {Um:Type}
theorem aa.bindV{R:cr->Um->ay->Prop}{k:Um->an->Prop}{t:Sem ay}{f:ay->Sem bF}{Q:bF->cr->Loc->an->Prop}(x:aa Θ ah Z ρ t (λaJ cb bV bb=>bV=m/\∃v,R cb v aJ/\k v bb) h)
  (c:∀aJ v bG bI ai,bD Θ Z bG m bI ai->Sub ρ bG->R bG v aJ->k v bI->aa Θ ah Z bG (f aJ) Q ai):aa Θ ah Z ρ (t>>=f) Q h:=
 aa.bind x λaJ bG dF bI ai bL cP q=>by
  refine Mm q λKm v r w=>?_;obtain rfl:=Km
  exact c aJ v bG bI ai bL cP r w
theorem aa.bindR{R:cr->ay->Prop}{t:Sem ay}{f:ay->Sem bF}{Q:bF->cr->Loc->an->Prop}(x:aa Θ ah Z ρ t (λa cb bV bI=>bV=m/\bI=bb/\R cb a) h)
  (c:∀aJ bG ai,bD Θ Z bG m bb ai->Sub ρ bG->R bG aJ->aa Θ ah Z bG (f aJ) Q ai):aa Θ ah Z ρ (t>>=f) Q h:=
 aa.bind x λaJ bG dF bI ai bL cP q=>by
  refine dS q λKt Kv r=>?_;obtain rfl:=Kt;obtain rfl:=Kv
  exact c aJ bG ai bL cP r
theorem aa.bindU{t:Sem ay}{f:ay->Sem bF}{Q:bF->cr->Loc->an->Prop}(x:aa Θ ah Z ρ t (lc m bb) h)
  (c:∀a bG ai,bD Θ Z bG m bb ai->Sub ρ bG->aa Θ ah Z bG (f a) Q ai):aa Θ ah Z ρ (t>>=f) Q h:=
 aa.bind x λaJ bG dF bI ai bL cP q=>by
  refine cz q λKw Kx=>?_;obtain rfl:=Kw;obtain rfl:=Kx
  exact c aJ bG ai bL cP
theorem aa.bindB{k:ay->an->Prop}{t:Sem ay}{f:ay->Sem bF}{Q:bF->cr->Loc->an->Prop}(x:aa Θ ah Z ρ t (λb _ bV bb=>bV=m/\k b bb) h)
  (c:∀b bG bI ai,bD Θ Z bG m bI ai->Sub ρ bG->k b bI->aa Θ ah Z bG (f b) Q ai):aa Θ ah Z ρ (t>>=f) Q h:=
 aa.bind x λaJ bG dF bI ai bL cP q=>by
  refine cz q λamE w=>?_;obtain rfl:=amE
  exact c aJ bG bI ai bL cP w
theorem aa.toV{v:L}{k:L->an->Prop}{t:Sem aG}(x:aa Θ ah Z ρ t (dC m v bb) h)(w:k v bb):aa Θ ah Z ρ t (mT m k) h:=
 aa.mono x λaJ bG dF bI q=>by
  refine dS q λaM Ky r=>?_;obtain rfl:=Ky
  exact⟨aM,v,r,w⟩
theorem RB{bF:Type}:∀ {l:List (Str×bF)} {x:Str} {v:bF},cy l x=J v->(x,v)∈l:=by
 intro l;induction l with
 |nil=>exact λe=>br e
 |cons p l ih=>
  intro x v e;obtain⟨y,u⟩:=p;rw [pF] at e;by_cases q:y=x
  ·rw [aY q] at e;obtain rfl:=ci e;subst q;exact fK
  ·rw [a8 q] at e;exact f8 _ (ih e)
noncomputable def oF(ρ:cr)(h:bq):nl->aG->Prop
 | .at_ v,aJ=>bg ρ v aJ
 | .sl a b,aJ=>∃s,aJ=.ref s/\∃u w:L,eA u=J a/\eA w=J b/\∃ef ja,bg ρ u ef/\bg ρ w ja/\h.get? s=J {cls:=.type "slice",data:=.fields #[ef,ja,.none]}/\ ¬gQ ρ s/\s∉own Z
end
section
variable {i:Nat}{k v:L}{fO o':aG}{d5:List (L×aG)}{l:List (L×L)}
noncomputable def nF:L->aG->Bool
 | .int i,v=>v.isInt i
 | .str x,v=>Value.isStrOf x v
 |_,_=>aA
theorem DD{v:aG}(h:nF k v=ae):(∃i t,k=.int i/\v=.int i t)\/ ∃x t,k=.str x/\v=.str x t:=by
 rcases k<;>simp only [nF,ng] at h
 ·refine cm (Value.isInt_shape h) λt Ku=>?_;obtain rfl:=Ku;exact .inl ⟨_,t,rfl,rfl⟩
 ·refine cm (Value.isStrOf_shape h) λt alT=>?_;obtain rfl:=alT;exact .inr ⟨_,t,rfl,rfl⟩
theorem agf(w:eJ)(x:Str):DN w.params (.str x)=hashStr w x:=by
 first |rfl|(unfold wA;rfl)
theorem vo{P:L->aG->Prop}{k:L}{v:aG}(h:nF k v=ae)(hi:∀i t,P (.int i) (.int i t))(hs:∀x t,P (.str x) (.str x t)):P k v:=by
 rcases DD h with⟨i,t,rfl,rfl⟩|⟨x,t,rfl,rfl⟩
 ·exact hi i t
 ·exact hs x t
theorem afQ{i j:Int}:(i==j)=eg (L.int i=L.int j):=by refine fB t6 ?_;simp
theorem aoU{x y:Str}:eg (L.str x=L.str y)=eg (x=y):=by simp
theorem ahS{v:aG}{a b:L}(ha:nF a v=ae)(hb:nF b v=ae):a=b:=
 vo (P:=λk v=>nF b v=ae->k=b) ha
  (λi t hb=>vo (P:=λk v=>v=.int i t->L.int i=k) hb (λj u e=>congrArg L.int (Value.int.inj e).1.symm) (λx u e=>Value.noConfusion e) rfl)
  (λx t hb=>vo (P:=λk v=>v=.str x t->L.str x=k) hb (λj u e=>Value.noConfusion e) (λy u e=>congrArg L.str (Value.str.inj e).1.symm) rfl) hb
theorem ahR{w:eJ}{A:kI}{E:aG->cn->Prop}{s:cn}{a b:L}{u v:aG}{Q:Bool->cn->Prop}(bT:nF a u=ae)(hv:nF b v=ae)(h:Q (eg (a=b)) s):cG (c8 prog w) A (eqBool u v) Q E s:=
 vo (P:=λa u=>Q (eg (a=b)) s->cG (c8 prog w) A (eqBool u v) Q E s) bT
  (λi t h=>vo (P:=λb v=>Q (eg (L.int i=b)) s->cG (c8 prog w) A (eqBool (.int i t) v) Q E s) hv
   (λj r h=>wpAny_eqBool_int (G afQ h)) (λy r h=>SeqAt.EqAt.int_str i t y r _ _ _ _ (decide_eq_false (p:=L.int i=L.str y) L.noConfusion▸h)) h)
  (λx t h=>vo (P:=λb v=>Q (eg (L.str x=b)) s->cG (c8 prog w) A (eqBool (.str x t) v) Q E s) hv
   (λj r h=>SeqAt.EqAt.str_int x t j r _ _ _ _ (decide_eq_false (p:=L.str x=L.int j) L.noConfusion▸h)) (λy r h=>wpAny_eqBool_str (cT aoU h)) h) h
def lq(w:eJ):KeyKind prog w L where
 is:=nF
 hash:=DN w.params
 inj:=λv a b ha hb=>ahS ha hb
 byValue:=λk v h=>by rcases DD h with⟨i,t,rfl,rfl⟩|⟨x,t,rfl,rfl⟩<;>rfl
 pyHash:=λ{A E s k v Q} hv h=>vo (P:=λk v=>Q (DN w.params k) {s with toks:=s.toks+1}->cG (c8 prog w) A (pyHash v) Q E s) hv (λi t h=>wpAny_pyHash_int h) (λx t h=>wpAny_pyHash_str (cT (agf ..) h)) h
 eqBool:=λ{A E s a b u v Q} bT hv h=>ahR bT hv h
 «strs»:=λk x t v h=>by
  rcases DD h with⟨i,t,rfl,e⟩|⟨y,t,rfl,e⟩
  ·cases e
  ·cases e;rcases v<;>rfl
def kN(ρ:cr)(a:L×L)(b:L×aG):Prop:=a.1=b.1/\fX a.1=ae/\bg ρ a.2 b.2
theorem qL{v:aG}(hk:fX k=ae)(r:bg ρ k v):nF k v=ae:=by
 rcases k<;>simp only [fX,ng] at hk
 ·refine cm r λt al3=>?_;obtain rfl:=al3;simp [nF,Value.isInt]
 ·refine cm r λt ame=>?_;obtain rfl:=ame;simp [nF,Value.isStrOf]
theorem aiV{v:aG}(h:nF k v=ae):fX k=ae/\bg ρ k v:=by
 rcases DD h with⟨i,t,rfl,rfl⟩|⟨x,t,rfl,rfl⟩
 ·exact⟨rfl,t,rfl⟩
 ·exact⟨rfl,t,rfl⟩
theorem kN.keys(x:All2 (kN ρ) l d5):d5.map (·.1)=l.map (·.1):=by
 induction x with
 |nil=>rfl
 |cons h t ih=>(exact G h9 (G h9 (G ih (G h.1 rfl))))
theorem u1{w:eJ}{p:a1×a1}(r:j9 w.params ρ p h (.dict l)):p.1=p.2/\p.1≠CE/\∃d5,h.DictOf (lq w) p.1 d5/\All2 (kN ρ) l d5:=by
 obtain⟨e,aH,n,bj,ra,hn,hs⟩:=r;have key:∀ {l:List (L×L)} {aH:List hT},All2 (H7 w.params ρ) l aH->∃d5,All2 (kN ρ) l d5/\Pairs (lq w) aH d5/\∀e∈aH,∃k,(lq w).is k e.key=ae/\e.hash=(lq w).hash k:=λ{l aH} ra=>by
  induction ra with
  |nil=>exact⟨[],.nil,.nil,λ_ z=>absurd z jl⟩
  | @cons a b l aH r t ih=>
   refine kT ih λd5 ai ak aZ=>?_
   refine v5 r λaM a7 q3 iF=>?_
   refine⟨(a.1,b.val)::d5,.cons ⟨rfl,aM,q3⟩ ai,.cons (qL aM a7) rfl ak,λe bl=>?_⟩
   rcases fw.mp bl with rfl|bl
   ·exact⟨a.1,qL aM a7,iF⟩
   ·exact aZ e bl
 exact kT (key ra) λd5 ai ak aZ=>⟨e,hs,d5,⟨_,aH.toArray,n,bj,⟨rfl,rfl,rfl⟩,rfl,λe bl=>aZ e (by simpa using bl),by simpa using ak,G (kN.keys ai) hn⟩,ai⟩
theorem H0{w:eJ}{a:a1}(bA:h.DictOf (lq w) a d5)(ra:All2 (kN ρ) l d5)(hs:a≠CE):j9 w.params ρ (a,a) h (.dict l):=by
 refine asd bA λo aH ii bj amg Qz hk hp hn=>?_;refine dS amg λdv dy eT=>?_
 obtain⟨J9,od,as0,os⟩:=o;dsimp only at dv dy eT Qz;subst dv dy eT Qz;have key:∀ {l:List (L×L)} {d5:List (L×aG)} {aH:List hT},All2 (kN ρ) l d5->Pairs (lq w) aH d5->(∀e∈aH,∃k,(lq w).is k e.key=ae/\e.hash=(lq w).hash k)->All2 (H7 w.params ρ) l aH:=λ{l d5 aH} ra hp hk=>by
  induction ra generalizing aH with
  |nil=>rcases hp;exact .nil
  | @cons a b l d5 r t ih=>
   cases hp with
   | @cons e _ aH _ ai ak aZ=>
    refine dS r λaM a7 q3=>?_
    refine bU (hk e fK) λk k1 k2=>?_
    have rX:k=b.1:=(lq w).inj _ _ _ k1 ai;subst rX;refine .cons ⟨a7,?_,?_,?_⟩ (ih aZ λe bl=>hk e (f8 _ bl))
    ·exact G aM ((aiV ai).2)
    ·exact G ak q3
    ·exact G k2 (G aM rfl)
 exact⟨rfl,aH.toList,ii,by simpa using bj,key ra hp λe bl=>hk e (by simpa using bl),by refine cT (kN.keys ra) ?_;exact hn,hs⟩
theorem Ad(x:All2 (kN ρ) l d5):match dV l k with |J v=>∃aJ,zH d5 k=J aJ/\bg ρ v aJ|ac=>zH d5 k=ac:=by
 induction x with
 |nil=>rfl
 | @cons a b l d5 h t ih=>
  obtain⟨y,v⟩:=a;obtain⟨eO,aJ⟩:=b;refine dS h λe hk r=>?_
  dsimp only at e r;subst e;refine G (show dV ((y,v)::l) k=if y=k then J v else dV l k from rfl) ?_
  unfold zH at ih⊢;refine G List.find?_cons ?_;by_cases q:y=k
  ·refine G (aY q) ?_;have :eg (y=k)=ae:=by simpa using q
   exact G this (⟨aJ,rfl,r⟩)
  ·refine G (a8 q) ?_;have :eg (y=k)=aA:=by simpa using q
   exact G this (ih)
theorem acx{aJ:aG}(hk:fX k=ae)(r:bg ρ v aJ){l:List (L×L)}{d5:List (L×aG)}(ra:All2 (kN ρ) l d5)(hn:(l.map (·.1)).Nodup):All2 (kN ρ) (g9 l k v) (stored d5 k aJ):=by
 have aiu:∀ {l:List (L×L)} {d5:List (L×aG)},All2 (kN ρ) l d5->k∉l.map (·.1)->g9 l k v=l++[(k,v)]/\(d5.any λvr=>eg (vr.1=k))=aA:=λ{l d5} ra hn=>by
  induction ra with
  |nil=>exact⟨rfl,rfl⟩
  | @cons a b l d5 r t ih=>
   rw [h9,fw,not_or] at hn;refine cz (ih hn.2) λai ak=>?_
   obtain⟨y,u⟩:=a;constructor
   ·rw [tw];exact G (a8 (λz=>hn.1 z.symm)) (G ai rfl)
   ·refine G zl (G ak (cT r.1 ?_));have :eg (y=k)=aA:=by simpa using λz=>hn.1 z.symm
    exact G this rfl
 have aoD:∀ {l:List (L×L)} {d5:List (L×aG)},All2 (kN ρ) l d5->(l.map (·.1)).Nodup->k∈l.map (·.1)->All2 (kN ρ) (g9 l k v) (d5.map λvr=>if vr.1=k then(vr.1,aJ) else vr)/\(d5.any λvr=>eg (vr.1=k))=ae:=λ{l d5} ra hn bc=>by
  induction ra with
  |nil=>rcases bc
  | @cons a b l d5 lu t ih=>
   obtain⟨y,u⟩:=a;rw [h9,n5] at hn;by_cases q:y=k
   ·subst q;have gX:y∉d5.map (·.1):=G (kN.keys t) hn.1;constructor
    ·rw [tw];refine G (aY rfl) (G h9 (G (aY lu.1.symm) (G (map_store_of_not_mem _ _ _ gX) ?_)));exact .cons ⟨lu.1,hk,r⟩ t
    ·refine G zl (cT lu.1 ?_);simp
   ·have i7:k∈l.map (·.1):=by
     rcases fw.mp bc with z|z
     ·exact absurd z.symm q
     ·exact z
    refine cz (ih hn.2 i7) λai ak=>?_
    constructor
    ·rw [tw];refine G (a8 q) (G h9 (G (a8 (by rw [<-lu.1];exact q)) ?_))
     exact .cons lu ai
    ·refine G zl (G ak ?_);simp
 unfold stored;by_cases bc:k∈l.map (·.1)
 ·exact cz (aoD ra hn bc) λai ak=>G (aY ak) ai
 ·refine cz (aiu ra bc) λai ak=>?_
  refine G (a8 (by rw [ak];simp)) (G ai ?_)
  exact ra.append (.cons ⟨rfl,hk,r⟩ .nil)
theorem aci(x:All2 (kN ρ) l d5)(hn:(l.map (·.1)).Nodup):All2 (kN ρ) (li l k) (zI d5 k):=by
 induction x with
 |nil=>exact .nil
 | @cons a b l d5 lu t ih=>
  obtain⟨y,u⟩:=a;obtain⟨eO,aJ⟩:=b;rw [h9,n5] at hn;have e:y=eO:=lu.1;subst e;have ih:=ih hn.2;refine G (show li ((y,u)::l) k=if y=k then l else(y,u)::li l k from rfl) ?_
  by_cases q:y=k
  ·subst q;have gX:y∉d5.map (·.1):=G (kN.keys t) hn.1;refine G (aY rfl) ?_;have :zI ((y,aJ)::d5) y=d5:=by
    unfold zI;refine G kE (G (a8 (by simp)) ?_)
    exact without_of_not_mem _ _ gX
   exact G this t
  ·refine G (a8 q) ?_;have :zI ((y,aJ)::d5) k=(y,aJ)::zI d5 k:=by
    unfold zI;(exact G kE (G (aY (by simpa using q)) rfl))
   exact G this (.cons lu ih)
theorem RU(B:l7 Θ.w h){a:a1}(ha:h.objs.size<=a):a≠CE:=by
 have :∃o,h.get? 927=J o:=by
  have e:((dk Θ.w.params).lookup 927).isSome=ae:=by kernel_rfl
  exact cm (sW.mp e) λo e=>⟨o,B.k _ _ e⟩
 refine cm this λo e=>?_
 have lt:h.objs.size>927:=gE e;rintro rfl
 have :h.objs.size<=1:=ha;lia
theorem act(ok:bz Θ.fs (d+4) ah)(x:bD Θ Z ρ m H h)(aR:bg ρ (.new i) o')(hi:H[i]? =J (.dict l))(hk:fX k=ae)(pN:bg ρ k fO)(e:dV l k=J v):aa Θ ah Z ρ (oj o' fO) (dC m v H) h:=by
 obtain⟨p,hp,rfl⟩:=aR;have r:=x.rel.obj _ _ _ hp hi;refine tX (u1 r) λ_ _ d5 bA ra=>?_
 have aB:=Ad (k:=k) ra;rw [e] at aB;refine bU aB λaJ d1 g2=>?_
 refine aa.any ok λA s a6 pB bT e1 e2 aP=>?_
 subst e1;exact wpAny_getItem_of (knd:=lq Θ.w) (qL hk pN) bA.mapOf d1 ⟨.now x ⟨rfl,rfl,g2⟩,e2,aP⟩
theorem acs(ok:bz Θ.fs (d+4) ah)(x:bD Θ Z ρ m H h)(aR:bg ρ (.new i) o')(hi:H[i]? =J (.dict l))(hk:fX k=ae)(pN:bg ρ k fO):aa Θ ah Z ρ (s7 .In fO o') (dC m (.bool (dV l k).isSome) H) h:=by
 obtain⟨p,hp,rfl⟩:=aR;have r:=x.rel.obj _ _ _ hp hi;refine tX (u1 r) λ_ hs d5 bA ra=>?_
 have aB:=Ad (k:=k) ra;have e:(zH d5 k).isSome=(dV l k).isSome:=by
  cases q:dV l k with
  |none=>rw [q] at aB;exact G aB rfl
  |some v=>rw [q] at aB;refine bU aB λaJ aB _=>?_;exact G aB rfl
 refine aa.any ok λA s a6 pB bT e1 e2 aP=>?_
 subst e1;exact wpAny_in_of (knd:=lq Θ.w) (qL hk pN) (by simpa using hs) bA.mapOf ⟨.now x ⟨rfl,rfl,G e rfl⟩,e2,aP⟩
theorem acv{aJ:aG}(ok:bz Θ.fs (d+4) ah)(x:bD Θ Z ρ m H h)(aR:bg ρ (.new i) o')(hi:H[i]? =J (.dict l))(bu:i≠0)(hk:fX k=ae)(aq:bH l.length=ae)(pN:bg ρ k fO)(f0:bg ρ v aJ):
  aa Θ ah Z ρ (wF o' fO aJ) (lc m (H.set i (.dict (g9 l k v)))) h:=by
 obtain⟨p,hp,rfl⟩:=aR;have r:=x.rel.obj _ _ _ hp hi;obtain⟨-,-,-,-,-,hn,-⟩:=id r;refine tX (u1 r) λtJ hs d5 bA ra=>?_
 obtain⟨p1,p2⟩:=p;dsimp only at tJ hs bA;subst tJ;have lN:l.length<=65536:=by simpa [bH] using aq
 refine aa.any ok λA s a6 pB bT e1 e2 aP=>?_
 subst e1;refine wpAny_setItem_pairs (knd:=lq Θ.w) (qL hk pN) bA (λav IJ gc=>⟨d4.turned x hp bu (λb o ai _ e=>gc.extBut b o ai e) (iB gc.1.symm) (o:=.dict (g9 l k v)) (H0 IJ (acx hk f0 ra hn) hs) ⟨rfl,rfl⟩,e2,aP⟩) ?_
 refine G k9 (cT ra.length ?_);lia
theorem acp(ok:bz Θ.fs (d+4) ah)(x:bD Θ Z ρ m H h)(aR:bg ρ (.new i) o')(hi:H[i]? =J (.dict l))(bu:i≠0)(hk:fX k=ae)(aq:bH l.length=ae)(pN:bg ρ k fO)(e:(dV l k).isSome=ae):
  aa Θ ah Z ρ (zD o' fO) (lc m (H.set i (.dict (li l k)))) h:=by
 obtain⟨p,hp,rfl⟩:=aR;have r:=x.rel.obj _ _ _ hp hi;obtain⟨-,-,-,-,-,hn,-⟩:=id r;refine tX (u1 r) λtJ hs d5 bA ra=>?_
 obtain⟨p1,p2⟩:=p;dsimp only at tJ hs bA;subst tJ;have aB:=Ad (k:=k) ra;refine cm (sW.mp e) λv Al=>?_
 rw [Al] at aB;refine bU aB λaJ d1 g2=>?_
 have lN:l.length<=65536:=by simpa [bH] using aq
 refine aa.any ok λA s a6 pB bT e1 e2 aP=>?_
 subst e1;unfold zD;try with_reducible refine rJ ?_
 refine bN (λ_=>N0 bA.typeIs (by decide)) ?_
 refine b4 (uK (name:=oi "__delitem__") bA.typeIs PySem.F.slot_dict_delitem
  (call_meetsIn PySem.F.slot_dict_delitem bA.typeIs PySem.F.entry_dict_delitem (PySem.F.args_dict_delitem_2 _ _) (meets_dict_delitem_pairs (lq Θ.w) p1 (qL hk pN)) ⟨d5,bA,(by refine G k9 (cT ra.length ?_);lia),G d1 rfl,λav IJ gc=>?_⟩))
 exact cL ⟨d4.turned x hp bu (λb o ai _ e=>gc.extBut b o ai e) (iB gc.1.symm) (o:=.dict (li l k)) (H0 IJ (aci ra hn) hs) ⟨rfl,rfl⟩,e2,aP⟩
theorem acq(ok:bz Θ.fs (d+4) ah)(x:bD Θ Z ρ m H h)(aR:bg ρ (.new i) o')(hi:H[i]? =J (.dict l))(hk:fX k=ae)(pN:bg ρ k fO):
  aa Θ ah Z ρ (PySem.call (.builtin "dict.get") [o',fO]) (dC m ((dV l k).getD .none) H) h:=by
 obtain⟨p,hp,rfl⟩:=aR;have r:=x.rel.obj _ _ _ hp hi;refine tX (u1 r) λ_ hs d5 bA ra=>?_
 have aB:=Ad (k:=k) ra;have e:bg ρ ((dV l k).getD .none) ((zH d5 k).getD .none):=by
  cases q:dV l k with
  |none=>rw [q] at aB;exact G aB rfl
  |some v=>rw [q] at aB;refine bU aB λaJ aB r=>?_;exact G aB r
 refine aa.any ok λA s a6 pB bT e1 e2 aP=>?_
 subst e1;exact call_meetsIn PySem.F.slot_dict_get bA.typeIs PySem.F.entry_dict_get (PySem.F.args_dict_get_2 _ _) (meets_dict_get (lq Θ.w) p.1 (qL hk pN) (by simpa using hs)) ⟨_,bA.mapOf,.now x ⟨rfl,rfl,e⟩,e2,aP⟩
theorem acr{Ac:L}{C6:aG}(ok:bz Θ.fs (d+4) ah)(x:bD Θ Z ρ m H h)(aR:bg ρ (.new i) o')(hi:H[i]? =J (.dict l))(hk:fX k=ae)(pN:bg ρ k fO)(KX:bg ρ Ac C6):
  aa Θ ah Z ρ (PySem.call (.builtin "dict.get") [o',fO,C6]) (dC m ((dV l k).getD Ac) H) h:=by
 obtain⟨p,hp,rfl⟩:=aR;have r:=x.rel.obj _ _ _ hp hi;refine tX (u1 r) λ_ hs d5 bA ra=>?_
 have aB:=Ad (k:=k) ra;have e:bg ρ ((dV l k).getD Ac) ((zH d5 k).getD C6):=by
  cases q:dV l k with
  |none=>rw [q] at aB;exact G aB KX
  |some v=>rw [q] at aB;refine bU aB λaJ aB r=>?_;exact G aB r
 refine aa.any ok λA s a6 pB bT e1 e2 aP=>?_
 subst e1;exact call_meetsIn PySem.F.slot_dict_get bA.typeIs PySem.F.entry_dict_get (PySem.F.args_dict_get_3 _ _ _) (meets_dict_get_default (lq Θ.w) p.1 (qL hk pN) (by simpa using hs) C6) ⟨_,bA.mapOf,.now x ⟨rfl,rfl,e⟩,e2,aP⟩
end
variable {i:Nat}{k v:L}{o':aG}
theorem tL{u:L}{a:Option Int}{ef:aG}(e:eA u=J a)(r:bg ρ u ef):IsPart ef a:=by
 cases u<;>simp only [eA] at e<;>first |(cases e;cases r;exact .none)|(cases e;refine cm r λt amh=>?_;obtain rfl:=amh;exact .int _ _)|exact br e
theorem ab8{ay bF:Type}{R:ay->bF->Prop}{l l':List ay}{m:List bF}(r:All2 R l m){a b:Option Int}(e:jY l a b=J l'):∃bV,jY m a b=J bV/\All2 R l' bV:=by
 unfold jY at e⊢;cases a<;>cases b<;>dsimp only at e⊢
 ·cases e;exact⟨_,rfl,r⟩
 ·refine dR e λaD e=>?_
  cases e;exact⟨_,aY aD,r.take⟩
 ·refine dR e λaD e=>?_
  cases e;exact⟨_,aY aD,r.drop⟩
 ·refine dR e λaD e=>?_
  cases e;exact⟨_,aY aD,r.take.drop⟩
theorem HR{bF:Type}(l:List bF)(a b:Nat):(l.drop (min a l.length)).take (min b l.length - min a l.length)=(l.take b).drop a:=by
 apply F0
 intro i;refine G List.getElem?_take (G List.getElem?_drop (G List.getElem?_drop (G List.getElem?_take ?_)));by_cases ai:i<min b l.length - min a l.length
 ·have ha:a<=l.length:=by
   rcases MX a l.length with q|q
   ·exact q
   ·rw [Gc q,Nat.sub_eq_zero_of_le (ry _ _)] at ai;exact absurd ai (M1 _)
  rw [pe ha] at ai⊢;(exact G (aY ai) (G (aY (eE (Nat.add_lt_of_lt_sub' ai) (sT _ _))) rfl))
 ·refine G (a8 ai) ?_;split
  ·(exact G (mP (Xi ai ‹_›)) rfl)
  ·rfl
theorem C5{bF:Type}{l l':List bF}{a b:Option Int}(e:jY l a b=J l'):
  l'=(l.drop (a.elim 0 (k7 l.length))).take (b.elim l.length (k7 l.length) - a.elim 0 (k7 l.length)):=by
 have m4:∀z:Int,0<=z->k7 l.length z=min z.toNat l.length:=λz hz=>by
  refine cm (ze hz) λk ami=>?_;obtain rfl:=ami
  exact Gu _ _
 cases a<;>cases b<;>dsimp only [Nb] at e⊢
 ·cases e;simp
 ·refine dR e λaD e=>?_
  cases e;refine G (m4 _ aD.1) ?_;have :=HR l 0 (us ‹Int›);simpa using this.symm
 ·refine dR e λaD e=>?_
  cases e;refine G (m4 _ aD.1) ?_;have :=HR l (us ‹Int›) l.length;rw [List.take_length,Nat.min_self] at this;exact this.symm
 ·refine dR e λaD e=>?_
  cases e;refine G (m4 _ aD.1) (G (m4 _ aD.2.1) ?_);exact(HR l _ _).symm
theorem aca{l l':List aG}{a b:Option Int}(e:jY l a b=J l'):slicePick l.toArray a b ac=l'.toArray:=by
 refine G (slicePick_plain ..) (G (C5 e ..) ?_);simp
theorem Jf{bF:Type}{l:List bF}{k:Int}{v:bF}(e:ij l k=J v):0<=k/\l[k.toNat]? =J v:=by
 unfold ij at e;split at e
 ·exact⟨by assumption,e⟩
 ·exact br e
theorem Ef{k:Int}(h:cH k=ae):k.natAbs<2^62:=by simpa [cH] using h
theorem fE{n:Nat}(h:bH n=ae):n<=65536:=by simpa [bH] using h
theorem oC{n:Nat}(h:bH n=ae):n<=mh:=by have :=fE h;refine G k9 ?_;lia
theorem ahf{i:Nat}{l:List L}{k:Int}{v:L}{o':aG}{t:Tok}(ok:bz Θ.fs (d+4) ah)(x:bD Θ Z ρ m H h)(aR:bg ρ (.new i) o')(hi:H[i]? =J (.list l))(hk:cH k=ae)(e:ij l k=J v):
  aa Θ ah Z ρ (oj o' (.int k t)) (dC m v H) h:=by
 obtain⟨p,hp,rfl⟩:=aR;obtain⟨-,vs,n,bj,r⟩:=x.rel.obj _ _ _ hp hi;refine cz (Jf e) λbu e=>bU (r.get e) λaJ cU f0=>?_
 have :=Ef hk;refine aa.any ok λA s a6 bA bT e1 e2 aP=>?_
 subst e1;exact wpAny_getItem_list (items:=vs.toArray) ⟨_,bj,rfl,n,rfl⟩ bu (by lia) (by simpa using cU) ⟨.now x ⟨rfl,rfl,f0⟩,e2,aP⟩
theorem api{i:Nat}{l:List L}{k:Int}{v:L}{o':aG}{t:Tok}(ok:bz Θ.fs (d+4) ah)(x:bD Θ Z ρ m H h)(aR:bg ρ (.new i) o')(hi:H[i]? =J (.tup l))(hk:cH k=ae)(e:ij l k=J v):
  aa Θ ah Z ρ (oj o' (.int k t)) (dC m v H) h:=by
 obtain⟨p,hp,rfl⟩:=aR;obtain⟨-,vs,ce,r⟩:=x.rel.obj _ _ _ hp hi;refine cz (Jf e) λbu e=>bU (r.get e) λaJ cU f0=>?_
 have :=Ef hk;have aQ:k.toNat<vs.length:=(kF.mp cU).1;refine aa.any ok λA s a6 bA bT e1 e2 aP=>?_
 subst e1;refine PyProof.Rows.getItem_tuple (items:=vs.toArray) (j:=k.toNat) ce (by lia) (by lia) ?_ (by simpa using cU) ⟨.now x ⟨rfl,rfl,f0⟩,e2,aP⟩
 unfold seqIndex?;refine G (a8 (show¬k<0 by exact B5.mpr ‹_›)) ?_
 simp;exact OM bu aQ
theorem ahk{i:Nat}{l l':List L}{a b:Option Int}{o' eM:aG}(ok:bz Θ.fs (d+4) ah)(x:bD Θ Z ρ m H h)(aR:bg ρ (.new i) o')(vi:oF (Z:=Z) ρ h (.sl a b) eM)(aq:bH l.length=ae)
  (aQ:∀p:a1×a1,ρ[i]? =J p->∃vs,h.IsList p.1 (List.toArray vs)/\All2 (bg ρ) l vs) (e:jY l a b=J l'):
  aa Θ ah Z ρ (oj o' eM) (dC m (.new H.length) (H++[.list l'])) h:=by
 obtain⟨p,hp,rfl⟩:=aR;refine bU (aQ p hp) λvs bj r=>?_
 refine BK vi λq amj u w oB u4 ef ja jO nO hs _ _=>?_;obtain rfl:=amj
 refine bU (ab8 r e) λvs' ig fR=>aa.any ok λA s a6 bA bT e1 e2 aP=>?_
 subst e1;refine wpAny_getItem_list_slice (items:=vs.toArray) (lo:=a) (hi:=b) (st:=ac) bj ⟨_,hs,rfl,rfl⟩ (tL oB jO) (tL u4 nO) .none (by simp) ?_ ?_
 ·refine G (aca ig) (⟨d4.added x (gM.push _ _) (p:=(s.heap.objs.size,s.heap.objs.size)) (cW _) (cW _) (o:=.list l') ⟨rfl,vs',_,hU _ rfl,fR.mono λ_ _ z=>z.sub ⟨_,rfl⟩⟩ ⟨rfl,rfl,bg.last x.len⟩,e2,aP⟩)
 ·exact G iA (cT r.length (oC aq))
set_option tactic.hygienic true in
theorem apj{i:Nat}{l:List L}{a:Int}{o' eM:aG}(ok:bz Θ.fs (d+4) ah)(x:bD Θ Z ρ m H h)(aR:bg ρ (.new i) o')(vi:oF (Z:=Z) ρ h (.sl (J a) ac) eM)(aq:bH l.length=ae)
  (hi:H[i]? =J (.tup l)) (ai:1<=a) (ak:a<=l.length):aa Θ ah Z ρ (oj o' eM) (dC m (.new H.length) (H++[.tup (l.drop a.toNat)])) h:=by
 obtain⟨p,hp,rfl⟩:=aR;obtain⟨-,vs,ce,r⟩:=x.rel.obj _ _ _ hp hi;refine BK vi λq amk u w oB u4 ef ja jO nO hs _ _=>?_;obtain rfl:=amk
 have pu:=tL oB jO;have pw:=tL u4 nO;cases pw;cases pu;rename_i t;refine cm (ze (show 0<=a by exact zf ai)) λj aml=>?_;obtain rfl:=aml
 have aQ:=r.length;refine aa.any ok λA s a6 bA bT e1 e2 aP=>?_
 subst e1;refine getItem_tuple_from (items:=vs.toArray) (a:=j) ce ⟨_,hs,rfl,rfl⟩ (sJ.mp ai) (by simp;lia) ?_ ?_
 ·refine⟨d4.added x (gM.push _ _) (p:=(s.heap.objs.size,s.heap.objs.size)) (cW _) (cW _) (o:=.tup (l.drop j)) ⟨rfl,vs.drop j,⟨_,hU _ rfl,rfl,_,rfl⟩,(r.drop).mono λ_ _ z=>z.sub ⟨_,rfl⟩⟩ ⟨rfl,rfl,bg.last x.len⟩,e2,aP⟩
 ·exact G iA (cT r.length (oC aq))
section
variable {M:qh}{A:kI}{E:aG->cn->Prop}{s:cn}
theorem T3{i:Int}{u:Tok}{Q:Option Int->cn->Prop}(da:wx i=ae)(h:Q (J i) s):cG M A (Gj (.int i u)) Q E s:=by
 refine bN (λ_=>ie (wH s i u) F.slot_int_index.lookup) ?_
 show cG M A (if(!wx i)=ae then _ else bK (J i)) _ E s
 exact G da (cL h)
theorem T4{a:a1}{Q:Option Int->cn->Prop}(ce:s.TypeIs (.ref a) "slice")(h:Q ac s):cG M A (Gj (.ref a)) Q E s:=by
 exact bN (λ_=>ie ce slice_no_index) (cL h)
noncomputable def zV(v:aG):Sem aG:=do
 if v== .none then return .none
 if(<-specialOf v "__index__").isNone then
  rule "bytes.slice.part-no-index";raiseError "TypeError" "slice indices must be integers or None or have an __index__ method"
 return rI (<-asIndex v)
theorem aal(s:aG):Vy s=(do
 let step <-zV (<-rG s 2)
 if step==rI 0 then rule "bytes.slice.step-zero";raiseError "ValueError" "slice step cannot be zero"
 let An <-zV (<-rG s 0)
 let last <-zV (<-rG s 1)
 return(An,last,step)):=rfl
theorem LY{v:aG}{k:Option Int}{Q:aG->cn->Prop}(hv:IsPart v k)(h:Q (rawPart k) s):cG M A (zV v) Q E s:=by
 cases hv with
 |none=>exact cL h
 |int i t=>
  unfold zV;exact jt (show¬((Value.int i t==s2)=ae) from t7) (bN (λ_=>ie (T:="int") (wH s i t) int_index) (bN (λ_=>hG (a:=i) rfl) (cL h)))
theorem LZ{sl:a1}{vU vV:aG}{lo hi:Option Int}{Q:aG×aG×aG->cn->Prop}(hs:s.heap.IsSliceOf sl vU vV .none)(pl:IsPart vU lo)(pu:IsPart vV hi)
  (h:Q (rawPart lo,rawPart hi,.none) s):cG M A (Vy (.ref sl)) Q E s:=by
 refine kT (id hs) λos vk asG IL=>G (aal ..) (bN (λ_=>mi vk IL (x:=.none) rfl) (bN (λ_=>LY .none) ?_))
 refine jt (show¬((rawPart ac==rI 0)=ae) from t7) (bN (λ_=>mi vk IL (x:=vU) rfl) (bN (λ_=>LY pl) ?_))
 exact bN (λ_=>mi vk IL (x:=vV) rfl) (bN (λ_=>LY pu) (cL h))
noncomputable abbrev jW(l:List UInt8):Obj:= {cls:=.type "bytearray",data:=.bytearray l.toArray}
theorem vX{a:a1}{l:List UInt8}{Q:Array UInt8->cn->Prop}(aR:s.heap.get? a=J (jW l))(h:Q l.toArray s):cG M A (Builtin.Bytes.payload (.ref a)) Q E s:=
 b4 (b4 (GC aR (cL (cL h))))
end
theorem xr:Manifest.owners.lookup (String.ofList ['y','a','r','r','a','e','t','y','b'].reverse)=J Manifest.sig_bytearray:=by kernel_rfl
theorem Ti:Slot "bytearray" "__getitem__" "bytearray.__getitem__":=
 .of (owner:="bytearray") (n:="__getitem__") (by refine G (iM ..) (G (iL ..) ?_);kernel_rfl) (by decide+kernel) (by decide+kernel) (by decide+kernel)
  (by first |exact .inl (by decide+kernel)|exact .inr (by decide+kernel)) (by refine G (rH ..) ?_;kernel_rfl)
theorem ac3:ql nu "bytearray.__getitem__"=J Builtin.«bytearray.__getitem__»:=CA (by kernel_rfl)
theorem Yd(a b:aG):mg "bytearray.__getitem__" ⟨[a,b],[]⟩:=by
 unfold mg;refine G (zG (id:="bytearray.__getitem__") (n:=['_','_','m','e','t','i','t','e','g','_','_']) (o:=['y','a','r','r','a','e','t','y','b']) (by kernel_rfl) xr) ?_;kernel_rfl
theorem K6{k:Int}{n:Nat}(bu:0<=k)(ai:k.toNat<n):seqIndex? k n=J k.toNat:=by
 unfold seqIndex?;refine G (a8 (show¬k<0 by exact B5.mpr ‹_›)) ?_
 simp;exact OM bu ai
theorem adG{k:Int}(h:cH k=ae):wx k=ae:=by
 have :=Ef h;simp only [wx,he,decide_eq_true_eq];exact CM this
theorem Zh{i:Nat}{l:List UInt8}{k:Int}{v:UInt8}{o':aG}{t:Tok}(ok:bz Θ.fs (d+4) ah)(x:bD Θ Z ρ m H h)(aR:bg ρ (.new i) o')(hi:H[i]? =J (.ba l))(hk:cH k=ae)(e:ij l k=J v):
  aa Θ ah Z ρ (oj o' (.int k t)) (dC m (di v) H) h:=by
 obtain⟨p,hp,rfl⟩:=aR;obtain⟨-,-,bj⟩:=x.rel.obj _ _ _ hp hi;refine cz (Jf e) λbu e=>?_
 have aQ:k.toNat<l.length:=(kF.mp e).1;refine aa.any ok λA s a6 bA bT e1 e2 aP=>?_
 subst e1;refine wpAny_getItem_slot (T:="bytearray") ⟨_,bj,rfl⟩ (by decide) Ti (qo Ti ⟨_,bj,rfl⟩ ac3 ?_ (Yd _ _))
 show cG _ _ (Gj (.int k t)>>=_) _ _ s
 refine bN (λ_=>T3 (adG hk)) (bN (λ_=>vX bj) (G iA (G (K6 bu aQ) ?_)))
 have cU:l.toArray[k.toNat]? =J v:=by simpa using e
 simp only [Na,cU];exact bN (λ_=>wpAny_mkInt) (cL ⟨_,rfl,.now x ⟨rfl,rfl,_,rfl⟩,e2,aP⟩)
theorem aow{l l':List UInt8}{a b:Option Int}(e:jY l a b=J l'):
  Vz l.toArray ((a.elim 0 (k7 l.length):Nat):Int) ((b.elim l.length (k7 l.length):Nat):Int) 1=l'.toArray:=by
 unfold Vz;(exact G (sliceRange_one ..) (G (pick_run ..) (G (C5 e) rfl)))
theorem ab9{bF:Type}{l l':List bF}{a b:Option Int}(e:jY l a b=J l'):l'.length<=l.length:=by
 (refine G (C5 e) (G o6 (G wl ?_)));exact cQ (ry _ _) (sU _ _)
theorem aaw{l l':List UInt8}{a b:Option Int}{o' eM:aG}(ok:bz Θ.fs (d+4) ah)(x:bD Θ Z ρ m H h)(aR:bg ρ (.bytes l) o')(vi:oF (Z:=Z) ρ h (.sl a b) eM)(aq:bH l.length=ae)(e:jY l a b=J l'):
  aa Θ ah Z ρ (oj o' eM) (dC m (.bytes l') H) h:=by
 refine cm aR λt amm=>?_;obtain rfl:=amm
 refine BK vi λq amn u w oB u4 ef ja jO nO hs _ _=>?_;obtain rfl:=amn
 refine aa.any ok λA s a6 bA bT e1 e2 aP=>?_
 subst e1;have Qu:s.TypeIs (.ref q) "slice":=⟨_,hs,rfl⟩;refine wpAny_getItem_slot (T:="bytes") rfl (by decide) VH (qo VH rfl FB.entry_bytes_getitem ?_ (FB.args_bytes_getitem_2 _ _))
 show cG _ _ (Gj (.ref q)>>=_) _ _ s
 refine bN (λ_=>T4 Qu) (bN (λ_=>tc Qu) (jt (by decide) (bN (λ_=>LZ ⟨_,hs,rfl,rfl⟩ (tL oB jO) (tL u4 nO)) (bN (λ_=>hG (sliceIndices_raw a b ac l.toArray.size (by simp))) (G iA (G (sliceBounds_plain ..) ?_))))))
 dsimp only;have cq:∀t,d4 Θ Z ρ s.heap (dC m (.bytes l') H) (.bytes l'.toArray t) s.heap:=λt=>.now x ⟨rfl,rfl,t,rfl⟩
 split
 ·rename_i aD;simp only [he,beq_iff_eq] at aD;have gs:a.elim 0 (k7 l.length)=0:=by have :=aD.1.1.1;exact Int.ofNat_eq_zero.mp this
  have fu:b.elim l.length (k7 l.length)=l.length:=by have :=aD.1.2;exact Int.ofNat_inj.mp this
  have ek:=C5 e;rw [gs,fu] at ek;have ek:l'=l:=by refine G ek ?_;simp
  subst ek;exact bN (λ_=>tc (T:="bytes") rfl) (yM (by decide) (bN (λ_=>rK) (cL ⟨_,rfl,cq t,e2,aP⟩)))
 ·refine G (aow e) ?_;have hz:=ab9 e;exact b4 (GF (cL ⟨_,rfl,cq _,e2,aP⟩) (G iA (cQ hz (oC aq))))
set_option tactic.hygienic true in
theorem Q3{H:an}{P:L->nl->L->an->Prop}
  (k1:∀ {i l k w},H[i]? =J (.list l)->cH k=ae->ij l k=J w->P (.new i) (.at_ (.int k)) w H)
  (k2:∀ {i l k w},H[i]? =J (.tup l)->cH k=ae->ij l k=J w->P (.new i) (.at_ (.int k)) w H)
  (k3:∀ {i l k w},H[i]? =J (.ba l)->cH k=ae->ij l k=J w->P (.new i) (.at_ (.int k)) (di w) H)
  (oI:∀ {i l k w},H[i]? =J (.dict l)->fX k=ae->dV l k=J w->P (.new i) (.at_ k) w H)
  (k5:∀ {i l a b w},H[i]? =J (.list l)\/H[i]? =J (.scr l)->bH l.length=ae->jY l a b=J w->P (.new i) (.sl a b) (.new H.length) (H++[.list w]))
  (Q9:∀ {i l} {a:Int},H[i]? =J (.tup l)->1<=a/\a<=l.length/\bH l.length=ae->P (.new i) (.sl (J a) ac) (.new H.length) (H++[.tup (l.drop a.toNat)]))
  (agb:∀ {l a b w},bH l.length=ae->jY l a b=J w->P (.bytes l) (.sl a b) (.bytes w) H):
  ∀ {o ix v bb},cj o ix H=J (v,bb)->P o ix v bb:=λ{o ix v bb} e=>by
 have ku:∀ {ay:Type} {x:Option ay} {f:ay->L×an} {Q:L->an->Prop},x.map f=J (v,bb)->(∀w,x=J w->Q (f w).1 (f w).2)->Q v bb:=λ{ay x f Q} e k=>by
  rcases x with _|w
  ·exact br e
  ·have :=k w rfl;rw [ci e] at this;exact this
 rcases ix with k|⟨a,b⟩
 ·rcases o<;>first |exact br e|skip
  rename_i i;delta cj at e
  dsimp only at e;generalize bX:H[i]? =q at e;rcases q with _|q
  ·exact br e
  ·rcases q<;>first |exact br e|skip
   ·rcases k<;>first |exact br e|exact dR e λhk e=>ku (Q:=P _ _) e λw e=>k1 bX hk e
   ·rcases k<;>first |exact br e|exact dR e λhk e=>ku (Q:=P _ _) e λw e=>k2 bX hk e
   ·rename_i l;have e:(if fX k then(dV l k).map (·,H) else ac)=J (v,bb):=by rcases k<;>exact e
    exact dR e λhk e=>ku (Q:=P _ _) e λw e=>oI bX hk e
   ·rcases k<;>first |exact br e|exact dR e λhk e=>ku (Q:=P _ _) e λw e=>k3 bX hk e
 ·rcases o<;>first |exact br e|skip
  ·exact dR e λhk e=>ku (Q:=P _ _) e λw e=>agb hk e
  ·rename_i i;delta cj at e
   dsimp only at e;generalize bX:H[i]? =q at e;rcases q with _|q
   ·exact br e
   ·rcases q<;>first |exact br e|skip
    ·exact dR e λhk e=>ku (Q:=P _ _) e λw e=>k5 (.inl bX) hk e
    ·rcases a with _|a
     ·exact br e
     ·rcases b with _|b
      ·exact dR e λhk e=>by refine lX e λamo amp=>?_;obtain rfl:=amo;obtain rfl:=amp;exact Q9 bX hk
      ·exact br e
    ·exact dR e λhk e=>ku (Q:=P _ _) e λw e=>k5 (.inr bX) hk e
theorem agW{o v:L}{ix:nl}{o' eM:aG}(ok:bz Θ.fs (d+4) ah)(x:bD Θ Z ρ m H h)(aR:bg ρ o o')(hi:oF (Z:=Z) ρ h ix eM)(e:cj o ix H=J (v,bb)):aa Θ ah Z ρ (oj o' eM) (dC m v bb) h:=by
 refine Q3 (P:=λo ix v bb=>∀o' eM,bg ρ o o'->oF (Z:=Z) ρ h ix eM->aa Θ ah Z ρ (oj o' eM) (dC m v bb) h) ?_ ?_ ?_ ?_ ?_ ?_ ?_ e o' eM aR hi
 ·intro i l k w bX hk iO o' eM aR hi;refine cm hi λt amq=>?_;obtain rfl:=amq
  exact ahf ok x aR bX hk iO
 ·intro i l k w bX hk iO o' eM aR hi;refine cm hi λt amr=>?_;obtain rfl:=amr
  exact api ok x aR bX hk iO
 ·intro i l k w bX hk iO o' eM aR hi;refine cm hi λt ams=>?_;obtain rfl:=ams
  exact Zh ok x aR bX hk iO
 ·exact λbX hk iO o' eM aR hi=>act ok x aR bX hk hi iO
 ·intro i l a b w bX aq iO o' eM aR hi;refine ahk ok x aR hi aq (λp hp=>?_) iO
  rcases bX with bX|bX
  ·obtain⟨-,vs,n,bj,r⟩:=x.rel.obj _ _ _ hp bX;exact⟨vs,⟨_,bj,rfl,n,rfl⟩,r⟩
  ·obtain⟨-,vs,bj,r⟩:=x.rel.obj _ _ _ hp bX;exact⟨vs,bj,r⟩
 ·exact λbX aD o' eM aR hi=>apj ok x aR hi aD.2.2 bX aD.1 aD.2.1
 ·exact λaq iO o' eM aR hi=>aaw ok x aR hi aq iO
variable {A:kI}{E:aG->cn->Prop}{s:cn}
section
variable {k:Int}{t:Tok}
theorem Lc:Slot "bytearray" "__setitem__" "bytearray.__setitem__":=
 .of (owner:="bytearray") (n:="__setitem__") (by refine G (iM ..) (G (iL ..) ?_);kernel_rfl) (by decide+kernel) (by decide+kernel) (by decide+kernel)
  (by first |exact .inl (by decide+kernel)|exact .inr (by decide+kernel)) (by refine G (rH ..) ?_;kernel_rfl)
theorem P3:ql nu "bytearray.__setitem__"=J Builtin.«bytearray.__setitem__»:=CA (by kernel_rfl)
theorem OV(a b c:aG):mg "bytearray.__setitem__" ⟨[a,b,c],[]⟩:=by
 unfold mg;refine G (zG (id:="bytearray.__setitem__") (n:=['_','_','m','e','t','i','t','e','s','_','_']) (o:=['y','a','r','r','a','e','t','y','b']) (by kernel_rfl) xr) ?_;kernel_rfl
section
variable {M:qh}
theorem T2{o i v:aG}{T id:String}{Q:Unit->cn->Prop}(gm:s.TypeIs o T)(hn:seqItemTypes.contains T=aA)(qY:Slot T "__setitem__" id)
  (aD:cG M A (call (.builtin id) [o,i,v]) (λ_ aS=>Q () aS) E s):cG M A (wF o i v) Q E s:=by
 refine rJ (bN (λ_=>N0 gm hn) (b4 (uK gm qY (wI aD (λv aS av=>cL av) λ_ _ e=>e))))
theorem TZ{a:a1}{l:List UInt8}{f:Array UInt8->Array UInt8}{Q:Unit->cn->Prop}(aR:s.heap.get? a=J (jW l))(hs:(f l.toArray).size<=mh)
  (h:Q () {s with heap:=s.heap.update a (wz f)}):cG M A (Gl (.ref a) f) Q E s:=by
 show cG _ _ (updateBytearray a f) _ _ _
 refine bN (λ_=>GC aR) (bN (λ_=>wpAny_update aR) ?_)
 have aB:(s.heap.update a (wz f)).get? a=J {cls:=.type "bytearray",data:=.bytearray (f l.toArray)}:=s0 _ aR rfl;refine NZ aB ?_ h;have :(f l.toArray).size<=mh:=hs;unfold Data.pastItsLine;dsimp only;(exact G (a8 (n9.mpr hs)) rfl)
end
theorem ahj{l:List L}{v:L}{aJ:aG}(ok:bz Θ.fs (d+4) ah)(x:bD Θ Z ρ m H h)(aR:bg ρ (.new i) o')(hi:H[i]? =J (.list l))(bu:i≠0)(hv:bg ρ v aJ)(hk:cH k=ae)(k0:0<=k)(k1:k<l.length):
  aa Θ ah Z ρ (wF o' (.int k t) aJ) (lc m (H.set i (.list (l.set k.toNat v)))) h:=by
 obtain⟨p,hp,rfl⟩:=aR;obtain⟨nL,vs,n,bj,r⟩:=x.rel.obj _ _ _ hp hi;have :=Ef hk;have aQ:=r.length;refine aa.any ok λA s a6 bA bT e1 e2 aP=>?_
 subst e1;refine T2 (T:="list") ⟨_,bj,rfl⟩ (by decide) slot_list_setitem (qo slot_list_setitem ⟨_,bj,rfl⟩ entry_list_setitem ?_ (args_list_setitem _ _ _))
 show cG _ _ (Builtin.List.listSubscript? (.int k t)>>=_) _ _ s
 refine bN (λ_=>wpAny_listSubscript_int (fitsIndex_of k0 (by lia))) ?_
 obtain⟨j,rfl⟩:=ze k0;have cY:j<vs.toArray.size:=by simp;lia
 have Dz:vs.toArray[j]? =J vs.toArray[j]:=Mt cY;refine b4 (b4 (wpAny_seqItemAt bj rfl (cL ?_)));refine G Dz ?_;have qR:∀b,b≠p.1->(s.heap.update p.1 (rB (·.setIfInBounds j aJ))).get? b=s.heap.get? b:=λb hb=>uE _ _ (λz=>hb z.symm)
 have cq:d4 Θ Z ρ s.heap (lc m (H.set i (.list (l.set j v)))) () (s.heap.update p.1 (rB (·.setIfInBounds j aJ))):=by
  refine d4.turned x hp bu (λb o ai ak e=>(qR b ai).trans e) (G (qg ..) (cW _)) (o:=.list (l.set j v)) ⟨nL,vs.set j aJ,n,?_,r.set hv⟩ ⟨rfl,rfl⟩
  refine G (s0 _ bj (by simp [rB];rfl)) ?_
  simp [rB]
 exact bN (λ_=>wpAny_setSeqItemAt bj rfl) (cL ⟨.none,rfl,cq,e2,aP⟩)
set_option tactic.hygienic true in
theorem Zm{l:List UInt8}{v:L}{c:UInt8}{aJ:aG}(ok:bz Θ.fs (d+4) ah)(x:bD Θ Z ρ m H h)(aR:bg ρ (.new i) o')(hi:H[i]? =J (.ba l))(bu:i≠0)(hv:bg ρ v aJ)(aD:oL v=J c)(aq:bH l.length=ae)(k0:0<=k)(k1:k<l.length):
  aa Θ ah Z ρ (wF o' (.int k t) aJ) (lc m (H.set i (.ba (l.set k.toNat c)))) h:=by
 obtain⟨p,hp,rfl⟩:=aR;obtain⟨nL,-,bj⟩:=x.rel.obj _ _ _ hp hi;have :=fE aq;refine aa.any ok λA s a6 bA bT e1 e2 aP=>?_
 subst e1;refine T2 (T:="bytearray") ⟨_,bj,rfl⟩ (by decide) Lc (qo Lc ⟨_,bj,rfl⟩ P3 ?_ (OV _ _ _))
 refine bN (λ_=>T3 (by simp only [wx,he,decide_eq_true_eq];lia)) ?_
 unfold oL at aD;split at aD
 ·rename_i z;obtain⟨u,rfl⟩:=hv;split at aD
  ·rename_i hz;obtain rfl:=ci aD;refine b4 (b4 (hG (a:=z) rfl ?_));refine jt (by simp;exact And.symm (And.comm.mp hz)) ?_
   refine cL (bN (λ_=>vX bj) (G iA (G (K6 k0 ((MK ‹_›).mpr ‹_›)) ?_)))
   have qR:∀b,b≠p.1->(s.heap.update p.1 (wz (·.setIfInBounds k.toNat (hV z.toNat)))).get? b=s.heap.get? b:=λb hb=>uE _ _ (λz=>hb z.symm)
   have cq:d4 Θ Z ρ s.heap (lc m (H.set i (.ba (l.set k.toNat (hV z.toNat))))) () (s.heap.update p.1 (wz (·.setIfInBounds k.toNat (hV z.toNat)))):=by
    refine d4.turned x hp bu (λb o ai ak e=>(qR b ai).trans e) (G (qg ..) (cW _)) (o:=.ba (l.set k.toNat (hV z.toNat))) ⟨nL,(),?_⟩ ⟨rfl,rfl⟩
    refine G (s0 _ bj rfl) ?_;simp [wz]
   refine bN (λ_=>TZ bj (by simp;exact oC aq)) ?_
   exact cL ⟨.none,rfl,cq,e2,aP⟩
  ·exact br aD
 ·exact br aD
theorem ahg{l:List L}(ok:bz Θ.fs (d+4) ah)(x:bD Θ Z ρ m H h)(aR:bg ρ (.new i) o')(hi:H[i]? =J (.list l))(bu:i≠0)(aq:bH l.length=ae)(k0:0<=k)(k1:k<l.length):
  aa Θ ah Z ρ (zD o' (.int k t)) (lc m (H.set i (.list (l.eraseIdx k.toNat)))) h:=by
 obtain⟨p,hp,rfl⟩:=aR;obtain⟨nL,vs,n,bj,r⟩:=x.rel.obj _ _ _ hp hi;have :=fE aq;have aQ:=r.length;refine aa.any ok λA s a6 bA bT e1 e2 aP=>?_
 subst e1;refine P.delItem_list (n:=n) (items:=vs.toArray) (k:=k.toNat) bj ?_ (G iA (K6 k0 (Xs k0 k1 aQ))) ?_ (G iA (cT aQ (oC aq)))
 ·simp only [VB,he,decide_eq_true_eq];lia
 ·have qR:∀b,b≠p.1->(s.heap.update p.1 (rB λeW=>eW.eraseIdxIfInBounds k.toNat)).get? b=s.heap.get? b:=λb hb=>uE _ _ (λz=>hb z.symm)
  have :=IsL.update (n:=n) (show IsL s.heap p.1 vs.toArray n from bj) (λeW=>eW.eraseIdxIfInBounds k.toNat)
  have z:vs.toArray.eraseIdxIfInBounds k.toNat=(vs.eraseIdx k.toNat).toArray:=by simp
  rw [z] at this;exact⟨d4.turned x hp bu (λb o ai ak e=>(qR b ai).trans e) (G (qg ..) (cW _)) (o:=.list (l.eraseIdx k.toNat)) ⟨nL,vs.eraseIdx k.toNat,_,this,r.eraseIdx⟩ ⟨rfl,rfl⟩,e2,aP⟩
set_option tactic.hygienic true in
theorem acj{H:an}{P:L->L->an->Prop}
  (k1:∀ {i l k},H[i]? =J (.list l)->i≠0->bH l.length=ae/\0<=k/\k<l.length->P (.new i) (.int k) (H.set i (.list (l.eraseIdx k.toNat))))
  (k2:∀ {i l k},H[i]? =J (.dict l)->i≠0->(fX k&&bH l.length&&(dV l k).isSome)=ae->P (.new i) k (H.set i (.dict (li l k)))):
  ∀ {o k bb},pv o k H=J bb->P o k bb:=λ{o k bb} e=>by
 have ku:∀ {i:Nat} {x:bt} {Q:an->Prop},wr H i x=J bb->(i≠0->Q (H.set i x))->Q bb:=λ{i x Q} e k=>by
  exact xf e λh e=>cT (ci e) (k h)
 rcases o<;>first |exact br e|skip
 rename_i i;delta pv at e
 dsimp only at e;generalize bX:H[i]? =q at e;rcases q with _|q
 ·exact br e
 ·rcases q<;>first |exact br e|skip
  ·rcases k<;>first |exact br e|exact dR e λhk e=>ku (Q:=P _ _) e λh=>k1 bX h hk
  ·rename_i l;have e:(if fX k&&bH l.length&&(dV l k).isSome then wr H i (.dict (li l k)) else ac)=J bb:=by rcases k<;>exact e
   exact dR e λhk e=>ku (Q:=P _ _) e λh=>k2 bX h hk
theorem agT{o k:L}{fO:aG}(ok:bz Θ.fs (d+4) ah)(x:bD Θ Z ρ m H h)(aR:bg ρ o o')(hk:bg ρ k fO)(e:pv o k H=J bb):aa Θ ah Z ρ (zD o' fO) (lc m bb) h:=by
 refine acj (P:=λo k bb=>∀o' fO,bg ρ o o'->bg ρ k fO->aa Θ ah Z ρ (zD o' fO) (lc m bb) h) ?_ ?_ e o' fO aR hk
 ·intro i l k bX bu aD o' fO aR hk;obtain⟨t,rfl⟩:=hk;exact ahg ok x aR bX bu aD.1 aD.2.1 aD.2.2
 ·exact λbX bu aD o' fO aR hk=>acp ok x aR bX bu (eZ (eZ aD)) (eK (eZ aD)) hk (eK aD)
end
variable {t:Tok}
section
variable {a9:List a1}
section
variable {w:eJ}{bp:gv}{n:Nat}
theorem Jm{T:String}{name:Str}{id:String}{B:Builtin}{self:aG}{ct:List aG}{Q:aG->bq->Prop}(ok:bz a9 (n+1) ah)(qY:Slot T name id)(ce:∀s:cn,s.heap=h->s.TypeIs self T)
  (hb:ql nu id=J B) (ha:mg id ⟨self::ct,[]⟩) (hn:qw.contains id=aA)
  (k:∀gU,bz a9 n gU->af w bp gU (B ⟨self::ct,[]⟩) (λcq av=>match cq with | .done f=>∃v,f=.ret v/\Q v av| .again c'=>c'.quiet=ae/\ji w bp (gU.goto c') Q av) h):af w bp ah (PySem.call (.builtin id) (self::ct)) Q h:=by
 refine af.call λp=>Q6 rfl ?_
 have D5:=ok.call (.builtin id) ⟨self::ct,[]⟩ p;obtain⟨A,cS,_⟩:=D5.room;refine af.any cS λs aM a7 q3=>qY.check _ _ _ _ _ _ _ _ (ce s aM) ha ⟨⟨zE qY.plain _,?_⟩,a7,q3⟩
 refine G aM ?_;exact DM rfl hb (k _ (ok.enter (.call (.builtin id) ⟨self::ct,[]⟩) (.builtin id ⟨self::ct,[]⟩) p (by show(!qw.contains id)=ae;exact G hn rfl) (G (plainId_weight qY.plain ..) (hf _)) (G (plainId_units qY.plain ..) (mQ rfl))))
theorem af7{T newId m1:String}{Mw:Builtin}{dg:List aG}{Q:aG->bq->Prop}(ok:bz a9 (n+3) ah)(qA:TypeCalled T newId m1)(aeP:Gs T ⟨dg,[]⟩=bK ())(ac2:ql nu m1=J Mw)
  (hn:qw.contains m1=aA)
  (afa:∀gU,bz a9 (n+2) gU->af w bp gU (PySem.call (.builtin newId) (.type T::dg)) (λmv ai=>(∀s:cn,s.heap=ai->s.TypeIs mv T)/\mg m1 ⟨mv::dg,[]⟩/\
   ∀E4,bz a9 n E4->af w bp E4 (Mw ⟨mv::dg,[]⟩) (λcq av=>match cq with | .done f=>∃v,f=.ret v/\v=.none/\Q mv av| .again c'=>c'.quiet=ae/\ji w bp (E4.goto c') (λv av=>v=.none/\Q mv av) av) ai) h):
  af w bp ah (PySem.call (.type T) dg) Q h:=by
 refine af.call λp=>ji.tree rfl ?_
 have D5:=ok.call (.type T) ⟨dg,[]⟩ p;show af w bp _ (callAny (.type T) ⟨dg,[]⟩) _ h
 refine af.again (c:=.builtin "type.__call__" ⟨.type T::dg,[]⟩) ⟨Gm _ (by decide+kernel),?_⟩
 have oM:bz a9 (n+2) ((ah.enter (.call (.type T) ⟨dg,[]⟩) ac p).goto (.builtin "type.__call__" ⟨.type T::dg,[]⟩)):=ok.enter _ _ p (by show(!qw.contains "type.__call__")=ae;decide+kernel) (by show 0<=2;exact hf _) (by show 1<=40;exact mQ rfl)
 refine DM rfl NO ?_;unfold Builtin.«type.__call__»;refine oY qA.mro λc nQ ae9=>?_
 refine af.ifn (by refine G qA.notType ?_;decide) ?_
 refine af.ifn (by refine G qA.canCreate ?_;decide) ?_
 refine G aeP (G ae9 ?_);refine af.bind (af.pure (af.bind (af.pure ?_)));refine af.ifn (by simp) (G qA.made (af.bind (af.pure (af.bind (af.pure ?_)))))
 refine af.bind (af.holding (af.mono (afa _ oM) λmv ai cV=>?_))
 refine dS cV λce ha k=>?_
 obtain⟨wa,Dp,_⟩:=oM.room;refine af.bind (af.any Dp λs aM a7 q3=>s9 (ce s aM) qA.sub ⟨?_,a7,q3⟩)
 refine G aM (af.ifn (by decide) (af.bind (af.holding ?_)))
 refine af.bind (af.any Dp λs aM a7 q3=>ie (ce s aM) qA.init.lookup ⟨?_,a7,q3⟩)
 refine G aM ?_;dsimp only;refine G (qA.init.bind ..) (af.holding (af.bind (af.pure (af.bind ?_))));refine af.mono (Jm (n:=n+1) (Q:=λv av=>v=.none/\Q mv av) oM qA.init ce ac2 ha hn λgU hM=>af.mono (k gU (hM.mono (k4 n 1))) λcq av q=>?_) λv av q=>?_
 ·induction cq using PySem.Fin.casesOn with
  |done f=>refine bU q λv a b=>?_;exact⟨v,a,b⟩
  |again c=>exact q
 ·obtain⟨rfl,q⟩:=q;exact af.pure (af.ret ⟨_,rfl,q⟩)
end
end
variable {a9:List a1}{w:eJ}{n:Nat}
section
variable {Q:Bool->cn->Prop}
theorem RL:mroOf (.type "bytearray")=bK [.type "bytearray",.type "object"]:=by refine G (mroOf_type ..) ?_;kernel_rfl
theorem ahu:jp (.type "bytearray") "__new__"=bK (J (.builtin "bytearray.__new__")):=by refine G (iM ..) (G (iL ..) ?_);kernel_rfl
theorem aoy:Slot "bytearray" "__init__" "bytearray.__init__":=
 .of (owner:="bytearray") (n:="__init__") (by refine G (iM ..) (G (iL ..) ?_);kernel_rfl) (by decide+kernel) (by decide+kernel) (by decide+kernel)
  (by first |exact .inl (by decide+kernel)|exact .inr (by decide+kernel)) (by refine G (rH ..) ?_;kernel_rfl)
theorem abH:TypeCalled "bytearray" "bytearray.__new__" "bytearray.__init__":=
 ⟨by decide+kernel,by decide+kernel,⟨_,_,RL⟩,madeBy_type RL ahu (by decide+kernel),by decide+kernel,by refine G (rH ..) ?_;kernel_rfl,aoy⟩
theorem apq:Gs "bytearray" ⟨[],[]⟩=bK ():=by kernel_rfl
theorem apr(a:aG):Gs "bytearray" ⟨[a],[]⟩=bK ():=by kernel_rfl
theorem ah5:rE "bytearray.__new__" ⟨[.type "bytearray"],[]⟩=bK ():=by kernel_rfl
theorem ah6(a:aG):rE "bytearray.__new__" ⟨[.type "bytearray",a],[]⟩=bK ():=by kernel_rfl
theorem ac6:ql nu "bytearray.__new__"=J Builtin.«list.__new__»:=
 entryFor_alias (id':="list.__new__") (by refine G (fastTable_eq_tree ..) ?_;kernel_rfl) (by decide+kernel) (by decide+kernel) (by refine G (fastTable_eq_tree ..) ?_;kernel_rfl)
theorem ac4:ql nu "bytearray.__init__"=J Builtin.«bytearray.__init__»:=CA (by kernel_rfl)
theorem SM:plainId "bytearray.__new__"=ae:=by decide+kernel
set_option maxRecDepth 1000000 in
set_option maxHeartbeats 4000000 in
theorem ai8:("bytearray.__new__".splitOn ".__new__").headD ""="bytearray":=by simp +decide [String.splitOn,String.splitOnAux]
theorem Lg:isSubtype (.type "bytearray") (.type "bytearray")=bK ae:=by refine G (rH ..) ?_;kernel_rfl
theorem Ye(a:aG):mg "bytearray.__init__" ⟨[a],[]⟩:=by
 unfold mg;refine G (zG (id:="bytearray.__init__") (n:=['_','_','t','i','n','i','_','_']) (o:=['y','a','r','r','a','e','t','y','b']) (by kernel_rfl) xr) ?_;kernel_rfl
theorem Yf(a b:aG):mg "bytearray.__init__" ⟨[a,b],[]⟩:=by
 unfold mg;refine G (zG (id:="bytearray.__init__") (n:=['_','_','t','i','n','i','_','_']) (o:=['y','a','r','r','a','e','t','y','b']) (by kernel_rfl) xr) ?_;kernel_rfl
theorem Zl:jp (.type "bytearray") "__release_buffer__"=bK (J (.builtin "bytearray.__release_buffer__")):=by refine G (iM ..) (G (iL ..) ?_);kernel_rfl
theorem aav:jp (.type "bytes") "__release_buffer__"=bK ac:=by refine G (iM ..) (G (iL ..) ?_);kernel_rfl
theorem uS:jp (.type "bytes") "__buffer__"=bK (J (.builtin "bytes.__buffer__")):=by refine G (iM ..) (G (iL ..) ?_);kernel_rfl
theorem G0:jp (.type "bytearray") "__buffer__"=bK (J (.builtin "bytearray.__buffer__")):=by refine G (iM ..) (G (iL ..) ?_);kernel_rfl
theorem Pf:jp (.type "bytes") "__index__"=bK ac:=by refine G (iM ..) (G (iL ..) ?_);kernel_rfl
theorem aau:jp (.type "bytes") "__int__"=bK ac:=by refine G (iM ..) (G (iL ..) ?_);kernel_rfl
theorem aat:jp (.type "bytes") "__float__"=bK ac:=by refine G (iM ..) (G (iL ..) ?_);kernel_rfl
theorem aas:isSubtype (.type "bytes") (.type "complex")=bK aA:=by refine G (rH ..) ?_;kernel_rfl
theorem aar:isSubtype (.type "bytes") (.type "bytearray")=bK aA:=by refine G (rH ..) ?_;kernel_rfl
theorem acy:("bytearray.__release_buffer__":String).dropRight ("__release_buffer__".length+1)="bytearray":=by decide+kernel
theorem acz:("bytearray.__buffer__":String).dropRight ("__buffer__".length+1)="bytearray":=by decide+kernel
theorem PX:("bytes.__buffer__":String).dropRight ("__buffer__".length+1)="bytes":=by decide+kernel
theorem acY:("bytearray.__release_buffer__":String).endsWith ("."++"__release_buffer__")=ae:=by decide+kernel
theorem acZ:("bytearray.__buffer__":String).endsWith ("."++"__buffer__")=ae:=by decide+kernel
theorem P1:("bytes.__buffer__":String).endsWith ("."++"__buffer__")=ae:=by decide+kernel
section
variable {M:qh}
theorem E0{o:aG}{T id name:String}(gm:s.TypeIs o T)(aQ:jp (.type T) (name:Str)=bK (J (.builtin id)))(bl:id.endsWith ("."++name)=ae)
  (bA:id.dropRight (name.length+1)=T) (hs:isSubtype (.type T) (.type T)=bK ae) (h:Q ae s):cG M A (VA o name) Q E s:=by
 refine bN (λ_=>ie gm aQ) ?_
 dsimp only;refine G bl (G (a8 (by decide)) (G bA ?_))
 exact s9 gm hs h
theorem aq0{o:aG}{T name:String}(gm:s.TypeIs o T)(aQ:jp (.type T) (name:Str)=bK ac)(h:Q ae s):cG M A (VA o name) Q E s:=
 bN (λ_=>ie gm aQ) (cL h)
theorem T1{a:a1}{l:List UInt8}(aR:s.heap.get? a=J (jW l))(h:Q aA s):cG M A (Vx (.ref a)) Q E s:=
 bN (λ_=>E0 (T:="bytearray") ⟨_,aR,rfl⟩ Zl acY acy Lg) (cL h)
theorem aqZ{b:Array UInt8}{t:Tok}(h:Q aA s):cG M A (Vx (.bytes b t)) Q E s:=
 bN (λ_=>aq0 (T:="bytes") rfl aav) (cL h)
theorem EZ{id:String}{Iq:Bool}{b:Array UInt8}{t:Tok}{Q:Option (Array UInt8)->cn->Prop}(h:Q (J b) s):cG M A (Vu id (.bytes b t) Iq) Q E s:=by
 exact bN (λ_=>ie (T:="bytes") rfl uS) (bN (λ_=>E0 (T:="bytes") rfl uS P1 PX F.sub_bytes_bytes) (jt (by decide) (bN (λ_=>ie (T:="bytes") rfl uS) (bN (λ_=>aqZ) (jt (by decide) (bN (λ_=>cL) (cL h)))))))
theorem aqW{id:String}{Iq:Bool}{a:a1}{l:List UInt8}{Q:Option (Array UInt8)->cn->Prop}(aR:s.heap.get? a=J (jW l))(h:Q (J l.toArray) s):cG M A (Vu id (.ref a) Iq) Q E s:=by
 have gm:s.TypeIs (.ref a) "bytearray":=⟨_,aR,rfl⟩;exact bN (λ_=>ie (T:="bytearray") gm G0) (bN (λ_=>E0 (T:="bytearray") gm G0 acZ acz Lg) (jt (by decide) (bN (λ_=>ie (T:="bytearray") gm G0) (bN (λ_=>T1 aR) (jt (by decide) (bN (λ_=>vX aR) (cL h)))))))
end
end
section
variable {a:a1}{l l':List UInt8}
section
variable {prog:uG}
theorem abY{dg:List aG}(aD:rE "bytearray.__new__" ⟨.type "bytearray"::dg,[]⟩=bK ()){Q₁:aG->cn->Prop}
  (h:Q₁ (.ref s.heap.objs.size) {s with heap:=s.heap.push (jW [])}):
  codeAny (c8 prog w) A (.call (.builtin "bytearray.__new__") ⟨.type "bytearray"::dg,[]⟩) (wants Q₁ E) s:=by
 refine Gv ?_;show cG _ A.in1 (do rE "bytearray.__new__" ⟨.type "bytearray"::dg,[]⟩;again (.builtin "bytearray.__new__" ⟨.type "bytearray"::dg,[]⟩)) _ _ s
 refine b4 (hG aD (cL ⟨zE SM _,codeAny_builtin_stack ac6 rfl λp st=>?_⟩))
 refine G (Gh SM _) ?_;have asK:=Lg;have afd:=ai8;obtain⟨hp,aB,d,tk,os⟩:=s;simp only [afd];wp_walk
 exact h
end
section
variable {bp:gv}
def Made(h:bq)(a:a1)(l:List UInt8)(av:bq):Prop:=av.get? a=J (jW l)/\(∀b,b≠a->av.get? b=h.get? b)/\av.objs.size=h.objs.size
theorem Made.write{f:Array UInt8->Array UInt8}(aR:h.get? a=J (jW l))(e:f l.toArray=l'.toArray):Made h a l' (h.update a (wz f)):=by
 refine⟨?_,λb hb=>uE _ _ (λz=>hb z.symm),by(exact G (qg ..) rfl)⟩
 refine G (s0 _ aR rfl) ?_;simp [wz,jW,e]
theorem Made.trans{ai ak:bq}(x:Made h a l ai)(y:Made ai a l' ak):Made h a l' ak:=
 ⟨y.1,λb hb=>(y.2.1 b hb).trans (x.2.1 b hb),y.2.2.trans x.2.2⟩
noncomputable def xF:Option aG->Option (List UInt8)
 |ac=>J []
 |J (.int n _)=>if 0<=n/\n<=65536 then J (f9 n.toNat 0) else ac
 |J (.bytes b _)=>if b.size<=65536 then J b.toList else ac
 |_=>ac
theorem af.write{f:Array UInt8->Array UInt8}{Q:Unit->bq->Prop}(ok:bz a9 n ah)(aR:h.get? a=J (jW l))(e:f l.toArray=l'.toArray)(hs:l'.length<=65536)
  (k:∀av,Made h a l' av->Q () av):af w bp ah (Gl (.ref a) f) Q h:=by
 obtain⟨A,cS,_⟩:=ok.room;refine af.any cS λs aM a7 q3=>?_
 subst aM;refine TZ aR ?_ ⟨k _ (Made.write aR e),a7,q3⟩;refine G e (G iA (G k9 ?_));lia
theorem af.exports{Q:Nat->bq->Prop}(aR:h.get? a=J (jW l))(k:Q 0 h):af w bp ah (Gi (.ref a)) Q h:=by
 unfold Gi;exact af.bind (af.load aR (af.pure k))
theorem af.checkResize{Q:Unit->bq->Prop}(ok:bz a9 n ah)(aR:h.get? a=J (jW l))(k:Q () h):af w bp ah (Vw (.ref a)) Q h:=by
 unfold Vw;refine af.bind (af.bind (P9 ok ?_));refine af.bind (m:=Gi _) (af.exports aR (af.pure ?_));exact af.ifn (by decide) (af.pure k)
set_option tactic.hygienic true in
theorem afN{Q:bq->Prop}(ok:bz a9 n ah)(aR:h.get? a=J (jW [])){src:Option aG}(e:xF src=J l)(k:∀av,Made h a l av->Q av):
  af w bp ah (Builtin.«bytearray.__init__» ⟨.ref a::src.toList,[]⟩) (λcq av=>match cq with | .done f=>∃v,f=.ret v/\v=.none/\Q av| .again c'=>c'.quiet=ae/\ji w bp (ah.goto c') (λv av=>v=.none/\Q av) av) h:=by
 obtain⟨A,cS,_⟩:=id ok.room;unfold Builtin.«bytearray.__init__»;refine af.bind (af.any cS λs aM a7 q3=>T1 (aM▸aR) ⟨?_,a7,q3⟩)
 refine G aM (G (a8 (by decide)) ?_)
 have hb:Builtin.Bytes.bindOptional "bytearray.__init__" "bytearray" ["source","encoding","errors"] src.toList []=bK [src,ac,ac]:=by rcases src<;>rfl
 refine G hb (af.bind (af.pure ?_));refine af.bind (m:=Vv _ _ _ ac) (af.pure (af.bind (m:=Vv _ _ _ ac) (af.pure ?_)));refine af.bind (af.bind (P9 ok ?_));refine af.bind (m:=Gi _) (af.exports aR (af.pure ?_));refine af.ifn (by decide) (af.bind (af.write ok aR (l':=[]) rfl (by simp) λai dF=>?_))
 have cq:∀av,Made h a l av->af w bp ah (PySem.ret .none) (λcq av=>match cq with | .done f=>∃v,f=.ret v/\v=.none/\Q av| .again c'=>c'.quiet=ae/\ji w bp (ah.goto c') (λv av=>v=.none/\Q av) av) av:=λav m=>af.ret ⟨_,rfl,rfl,k av m⟩
 induction src using oa with
 |none=>
  obtain rfl:=ci e;refine af.bind (af.pure ?_);exact cq _ dF
 |some v=>
  rcases v<;>first |exact br e|skip
  ·rename_i i t;refine dR e λhi e=>?_
   ·obtain rfl:=ci e;refine af.bind (m:=asStr? _) (af.pure ?_);refine af.ifn (by simp) (af.bind (m:=(bK ():Sem Unit)) (af.pure ?_))
    refine af.bind (af.any cS λs aM a7 q3=>ie (wH s i t) int_index ⟨?_,a7,q3⟩)
    refine G aM (af.ifp (by simp) (af.bind (af.attempt (af.any cS λs aM a7 q3=>hG (a:=i) rfl ⟨?_,a7,q3⟩))))
    refine G aM ?_;refine af.ifn (by simp [wx];lia) (af.ifn (Int.not_lt_of_ge hi.1) (af.ifn (by simp;lia) (af.ifn (by simp [Gk,k9];lia) ?_)))
    refine af.bind (af.rule ?_);split
    ·refine af.bind (af.write ok dF.1 (l':=f9 i.toNat 0) rfl (by simp;exact Int.le_def.mpr hi.2) λak jK=>cq _ (dF.trans jK))
    ·have :i.toNat=0:=by lia
     rw [this] at cq;exact cq _ dF
  ·rename_i b t;refine dR e λhi e=>?_
   ·obtain rfl:=ci e;refine af.bind (m:=asStr? _) (af.pure ?_);refine af.ifn (by simp) (af.bind (m:=(bK ():Sem Unit)) (af.pure ?_))
    refine af.bind (af.any cS λs aM a7 q3=>ie (T:="bytes") rfl Pf ⟨?_,a7,q3⟩)
    refine G aM (af.ifn (by simp) (af.bind (af.any cS λs aM a7 q3=>EZ ⟨?_,a7,q3⟩)))
    refine G aM (af.bind (af.rule ?_));exact af.bind (af.write ok dF.1 (l':=b.toList) rfl (by simpa using hi) λak jK=>cq _ (dF.trans jK))
end
end
variable {a:a1}
theorem aox:ql nu "bytearray.extend"=J Builtin.«bytearray.extend»:=CA (by kernel_rfl)
theorem Yc(a b:aG):mg "bytearray.extend" ⟨[a,b],[]⟩:=by
 unfold mg;refine G (zG (id:="bytearray.extend") (n:=['d','n','e','t','x','e']) (o:=['y','a','r','r','a','e','t','y','b']) (by kernel_rfl) xr) ?_;kernel_rfl
section
variable {bp:gv}
theorem Q8{src:Option aG}{l:List UInt8}{Q:aG->bq->Prop}(ok:bz a9 (n+3) ah)(e:xF src=J l)
  (k:∀av,gM h av->av.get? h.objs.size=J (jW l)->Q (.ref h.objs.size) av):af w bp ah (PySem.call (.type "bytearray") src.toList) Q h:=by
 have aD:Gs "bytearray" ⟨src.toList,[]⟩=bK ():=by induction src using oa with |none=>exact apq|some v=>exact apr v
 have jH:rE "bytearray.__new__" ⟨.type "bytearray"::src.toList,[]⟩=bK ():=by induction src using oa with |none=>exact ah5|some v=>exact ah6 v
 have ha:∀o,mg "bytearray.__init__" ⟨o::src.toList,[]⟩:=λo=>by induction src using oa with |none=>exact Ye o|some v=>exact Yf o v
 refine af7 ok abH aD ac4 (by decide+kernel) λgU hM=>?_
 obtain⟨A,cS,_⟩:=hM.room;refine af.any cS λs aM a7 q3=>CG (abY jH ?_)
 refine G aM (⟨?_,a7,q3⟩);have aB:(h.push (jW [])).get? h.objs.size=J (jW []):=hU _ rfl;refine⟨λs e=>⟨_,by refine G e ?_;exact aB,rfl⟩,ha _,λE4 aiW=>?_⟩
 refine afN (Q:=λav=>Q (.ref h.objs.size) av) aiW aB e λav m=>k av ⟨λb o e=>?_,G m.2.2 (G (ib ..) (k4 h.objs.size 1))⟩ m.1
 refine G (m.2.1 b (by intro z;subst z;exact absurd (gE e) (jn _))) ?_
 exact k6 _ e
set_option tactic.hygienic true in
theorem aoL{l x l':List UInt8}{lo hi:Option Int}(e:vK l lo hi x=J l'):
  l.toArray.extract 0 (us ((lo.elim 0 (k7 l.length):Nat):Int))++x.toArray++l.toArray.extract (us (max ((lo.elim 0 (k7 l.length):Nat):Int) ((hi.elim l.length (k7 l.length):Nat):Int))) l.length=l'.toArray/\l'.length=l.length:=by
 have m4:∀z:Int,0<=z->k7 l.length z=min z.toNat l.length:=λz hz=>by
  refine cm (ze hz) λk amt=>?_;obtain rfl:=amt
  exact Gu _ _
 rcases lo with _|a<;>rcases hi with _|b
 rotate_left
 ·exact br e
 ·exact br e
 rotate_left
 ·refine dR (show(if x.length=l.length then J x else ac)=J l' from e) λaQ e=>?_
  ·obtain rfl:=ci e;have z:(max ((0:Nat):Int) ((l.length:Nat):Int)).toNat=l.length:=rfl;dsimp only [Nb];refine G z ?_;simp [aQ]
 ·refine dR (show(if 0<=a/\a<=b/\b<=l.length/\(x.length:Int)=b - a then J (l.take a.toNat++x++l.drop b.toNat) else ac)=J l' from e) λaD e=>?_
  ·obtain rfl:=ci e;dsimp only [Nb];refine v5 aD λai ak aZ cC=>?_
   refine cm (ze ai) λi amu=>?_;obtain rfl:=amu
   refine cm (ze (zg ai ak)) λj amv=>?_;obtain rfl:=amv
   replace ak:=sJ.mp ak
   replace aZ:=sJ.mp aZ
   refine G (Gu ..) (G (Gu ..) (G (pe (cQ ak aZ)) (G (pe aZ) (G (Int.max_eq_right (sJ.mpr ak)) (G (h8 ..) (G (h8 ..) ?_))))));replace cC:x.length+i=j:=by lia
   constructor
   ·have q:List.take (l.length - j) (List.drop j l)=List.drop j l:=Vj (by simp)
    simp [List.extract_toArray,q]
   ·simp;exact XR ak aZ cC
theorem aor{a q:a1}{l x l':List UInt8}{t:Tok}{vU vV:aG}{lo hi:Option Int}{Q:bq->Prop}(ok:bz a9 (n+3) ah)(aR:h.get? a=J (jW l))(hs:h.get? q=J {cls:=.type "slice",data:=.fields #[vU,vV,.none]})
  (pl:IsPart vU lo) (pu:IsPart vV hi) (aq:l.length+x.length<=65536) (e:vK l lo hi x=J l') (k:∀ai av,gM h ai->Made ai a l' av->Q av):
  af w bp ah (Builtin.«bytearray.__setitem__» ⟨[.ref a,.ref q,.bytes x.toArray t],[]⟩) (λcq av=>match cq with | .done f=>∃v,f=.ret v/\Q av| .again c'=>c'.quiet=ae/\ji w bp (ah.goto c') (λ_ av=>Q av) av) h:=by
 obtain⟨A,cS,_⟩:=id ok.room;have gm:∀s:cn,s.heap=h->s.TypeIs (.ref q) "slice":=λs aM=>⟨_,by refine G aM ?_;exact hs,rfl⟩
 unfold Builtin.«bytearray.__setitem__»;refine af.ifn (by simp) (af.bind (af.any cS λs aM a7 q3=>T4 (gm s aM) ⟨?_,a7,q3⟩))
 refine G aM (af.bind (af.any cS λs aM a7 q3=>tc (gm s aM) ⟨?_,a7,q3⟩))
 refine G aM (af.ifn (by decide) ?_)
 refine af.bind (af.any cS λs aM a7 q3=>LZ ⟨_,by refine G aM ?_;exact hs,rfl,rfl⟩ pl pu ⟨?_,a7,q3⟩)
 refine G aM (af.bind (m:=isInstance _ _) (af.any cS λs aM a7 q3=>s9 (s4 s _ t) aar ⟨?_,a7,q3⟩))
 refine G aM (af.ifp (by decide) (af.bind (af.any cS λs aM a7 q3=>?_)))
 refine b4 (b4 (ie (s4 s _ t) Pf (cL ?_)));refine b4 (b4 (ie (s4 s _ t) aau (cL ?_)));refine b4 (b4 (ie (s4 s _ t) aat (cL ?_)));refine s9 (s4 s _ t) aas ⟨?_,a7,q3⟩;refine G aM (af.bind (m:=asStr? _) (af.pure ?_));refine af.ifn (by simp) (af.bind (af.rule (af.bind ?_)))
 refine Q8 (src:=J (.bytes x.toArray t)) ok (l:=x) (by simp [xF];exact Ch aq) λai az d1=>?_
 have aez:∀s:cn,s.heap=ai->s.heap.IsSliceOf q vU vV .none:=λs aM=>⟨_,by refine G aM ?_;exact az.1 _ _ hs,rfl,rfl⟩
 refine af.bind (af.holding (af.any cS λs aM a7 q3=>LZ (aez s aM) pl pu ⟨?_,a7,q3⟩))
 refine G aM (af.bind (af.any cS λs aM a7 q3=>vX (aM▸d1) ⟨?_,a7,q3⟩))
 refine G aM ?_;have IY:=az.1 _ _ aR;refine af.bind (af.any cS λs aM a7 q3=>vX (aM▸IY) ⟨?_,a7,q3⟩)
 refine G aM (af.bind (af.any cS λs aM a7 q3=>hG (sliceIndices_raw lo hi ac l.toArray.size (by simp)) ⟨?_,a7,q3⟩))
 refine G aM (G iA (G (sliceBounds_plain ..) ?_));refine af.ifp (by decide) (af.bv (λ_=>af.rule) ?_)
 have xc:l.toArray.extract 0 (us ((lo.elim 0 (k7 l.length):Nat):Int))++x.toArray++l.toArray.extract (us (max ((lo.elim 0 (k7 l.length):Nat):Int) ((hi.elim l.length (k7 l.length):Nat):Int))) l.toArray.size=l'.toArray/\l'.length=l.length:=
  G iA (aoL e)
 have go:af w bp ah (Gl (.ref a) (λb=>b.extract 0 (us ((lo.elim 0 (k7 l.length):Nat):Int))++x.toArray++b.extract (us (max ((lo.elim 0 (k7 l.length):Nat):Int) ((hi.elim l.length (k7 l.length):Nat):Int))) b.size)>>=λ_=>PySem.ret .none)
  (λcq av=>match cq with | .done f=>∃v,f=.ret v/\Q av| .again c'=>c'.quiet=ae/\ji w bp (ah.goto c') (λ_ av=>Q av) av) ai:=
  af.bind (af.write ok IY (l':=l') xc.1 (by lia) λak jK=>af.ret ⟨_,rfl,k _ _ az jK⟩)
 split
 ·exact af.bv (λ_=>af.checkResize ok IY) go
 ·exact go
end
section
variable {l x:List UInt8}{aJ:aG}
variable {fs:List a1}
theorem Th:Slot "bytearray" "extend" "bytearray.extend":=
 .of (owner:="bytearray") (n:="extend") (by refine G (iM ..) (G (iL ..) ?_);kernel_rfl) (by decide+kernel) (by decide+kernel) (by decide+kernel)
  (by first |exact .inl (by decide+kernel)|exact .inr (by decide+kernel)) (by refine G (rH ..) ?_;kernel_rfl)
section
variable {bp:gv}
theorem af9{T:String}{id:String}{B:Builtin}{o i v:aG}{Q:Unit->bq->Prop}(ok:bz fs (n+1) ah)(qY:Slot T "__setitem__" id)(afl:seqItemTypes.contains T=aA)(ce:∀s:cn,s.heap=h->s.TypeIs o T)
  (hb:ql nu id=J B) (ha:mg id ⟨[o,i,v],[]⟩) (hn:qw.contains id=aA)
  (k:∀gU,bz fs n gU->af w bp gU (B ⟨[o,i,v],[]⟩) (λcq av=>match cq with | .done f=>∃v,f=.ret v/\Q () av| .again c'=>c'.quiet=ae/\ji w bp (gU.goto c') (λ_ av=>Q () av) av) h):af w bp ah (PySem.setItem o i v) Q h:=by
 obtain⟨A,cS,_⟩:=ok.room;refine af.holding (af.bind (af.any cS λs aM a7 q3=>N0 (ce s aM) afl ⟨?_,a7,q3⟩))
 refine G aM (af.bind (af.bind (af.any cS λs aM a7 q3=>ie (ce s aM) qY.lookup ⟨?_,a7,q3⟩)))
 refine G aM ?_;dsimp only;refine G (qY.bind ..) (af.holding (af.bind (af.pure (af.bind ?_))));exact af.mono (Jm ok qY ce hb ha hn k) λv av q=>af.pure (af.pure q)
theorem adm{a:a1}{t:Tok}{Q:aG->bq->Prop}(ok:bz fs n ah)(aR:h.get? a=J (jW l))(aq:l.length+x.length<=65536)(k:∀av,Made h a (l++x) av->Q .none av):
  af w bp ah (Builtin.«bytearray.extend» ⟨[.ref a,.bytes x.toArray t],[]⟩) (λcq av=>match cq with | .done f=>∃v,f=.ret v/\Q v av| .again c'=>c'.quiet=ae/\ji w bp (ah.goto c') Q av) h:=by
 obtain⟨A,cS,_⟩:=ok.room;refine af.bind (m:=selfAndOne _ _) (af.pure ?_);refine af.bind (af.any cS λs aM a7 q3=>ie (s4 s _ t) uS ⟨?_,a7,q3⟩)
 refine G aM (af.ifp (by simp) (af.bind (af.rule ?_)))
 refine af.bind (af.any cS λs aM a7 q3=>vX (aM▸aR) ⟨?_,a7,q3⟩)
 refine G aM ?_;have tb:∀(s:cn) {Q:Option (Array UInt8×Option aG)->cn->Prop},Q (J (x.toArray,ac)) s->cG (c8 prog w) A (Builtin.Bytes.takeBuffer? "bytearray.extend" (.bytes x.toArray t) 0) Q (λ_ _=>False) s:=λs Q cJ=>by
  refine b4 (ie (s4 s _ t) uS ?_);exact bN (λ_=>E0 (s4 s _ t) uS P1 PX F.sub_bytes_bytes) (jt (by decide) (bN (λ_=>ie (s4 s _ t) uS) (bN (λ_=>EZ) (cL cJ))))
 refine af.bind (af.bind (af.attempt (af.any cS λs aM a7 q3=>tb s ⟨?_,a7,q3⟩)))
 refine G aM (af.pure (af.ifp (by simp) ?_))
 have go:af w bp ah (Gl (.ref a) (· ++x.toArray)>>=λ_=>PySem.ret .none) (λcq av=>match cq with | .done f=>∃v,f=.ret v/\Q v av| .again c'=>c'.quiet=ae/\ji w bp (ah.goto c') Q av) h:=
  af.bind (af.write ok aR (l':=l++x) (by simp) (by simp;omega) λak jK=>af.ret ⟨_,rfl,k _ jK⟩)
 show af w bp ah (if(!x.toArray.isEmpty)=ae then _ else _) _ _
 split
 ·exact af.bv (λ_=>af.checkResize ok aR) go
 ·exact go
end
theorem Zn{l':List UInt8}{a b:Option Int}{eM:aG}(ok:bz Θ.fs (d+4) ah)(y:bD Θ Z ρ m H h)(aR:bg ρ (.new i) o')(vi:oF (Z:=Z) ρ h (.sl a b) eM)(hv:bg ρ (.bytes x) aJ)(hi:H[i]? =J (.ba l))(bu:i≠0)
  (aq:bH (l.length+x.length)=ae) (e:vK l a b x=J l'):aa Θ ah Z ρ (wF o' eM aJ) (lc m (H.set i (.ba l'))) h:=by
 obtain⟨p,hp,rfl⟩:=aR;obtain⟨nL,-,bj⟩:=y.rel.obj _ _ _ hp hi;refine BK vi λq amw u w oB u4 ef ja jO nO hs _ _=>?_;obtain rfl:=amw
 refine cm hv λt amx=>?_;obtain rfl:=amx
 have aB:h.get? p.1=J (jW l):=bj;refine af9 (n:=d+3) ok Lc (by decide) (λs e=>⟨_,by refine G e ?_;exact aB,rfl⟩) P3 (OV _ _ _) (by decide+kernel) λgU hM=>?_
 exact aor (Q:=λav=>d4 Θ Z ρ h (lc m (H.set i (.ba l'))) () av) hM aB hs (tL oB jO) (tL u4 nO) (fE aq) e λai av az dF=>d4.turned y hp bu (λb o ai ak e=>(dF.2.1 b ai).trans (az.1 _ _ e)) (G dF.2.2 az.2) (o:=.ba l') ⟨nL,(),dF.1⟩ ⟨rfl,rfl⟩
set_option tactic.hygienic true in
theorem aoj{H:an}{P:L->nl->L->an->Prop}
  (k1:∀ {i l k v},H[i]? =J (.list l)->i≠0->cH k=ae/\0<=k/\k<l.length->P (.new i) (.at_ (.int k)) v (H.set i (.list (l.set k.toNat v))))
  (k2:∀ {i l k v c},H[i]? =J (.ba l)->i≠0->bH l.length=ae/\0<=k/\k<l.length->oL v=J c->P (.new i) (.at_ (.int k)) v (H.set i (.ba (l.set k.toNat c))))
  (k3:∀ {i l k v},H[i]? =J (.dict l)->i≠0->(fX k&&bH l.length)=ae->P (.new i) (.at_ k) v (H.set i (.dict (g9 l k v))))
  (oI:∀ {i l a b x c},H[i]? =J (.ba l)->i≠0->bH (l.length+x.length)=ae->vK l a b x=J c->P (.new i) (.sl a b) (.bytes x) (H.set i (.ba c))):
  ∀ {o ix v bb},fS o ix v H=J bb->P o ix v bb:=λ{o ix v bb} e=>by
 have ku:∀ {i:Nat} {x:bt} {Q:an->Prop},wr H i x=J bb->(i≠0->Q (H.set i x))->Q bb:=λ{i x Q} e k=>by
  exact xf e λh e=>cT (ci e) (k h)
 rcases o<;>first |exact br e|skip
 ·rename_i i;rcases ix with k|⟨a,b⟩
  ·delta fS at e
   dsimp only at e;generalize bX:H[i]? =q at e;rcases q with _|q
   ·exact br e
   ·rcases q<;>first |exact br e|skip
    ·rcases k<;>first |exact br e|exact dR e λhk e=>ku (Q:=P _ _ _) e λh=>k1 bX h hk
    ·rename_i l;have e:(if fX k&&bH l.length then wr H i (.dict (g9 l k v)) else ac)=J bb:=by rcases k<;>exact e
     exact dR e λhk e=>ku (Q:=P _ _ _) e λh=>k3 bX h hk
    ·rcases k<;>first |exact br e|skip
     exact dR e λhk e=>by
      exact gb e λc ig e=>ku (Q:=P _ _ _) e λh=>k2 bX h hk ig
  ·delta fS at e
   dsimp only at e;generalize bX:H[i]? =q at e;rcases q with _|q
   ·exact br e
   ·rcases q<;>first |exact br e|skip
    rcases v<;>first |exact br e|skip
    exact dR e λaq e=>by
     exact gb e λc ig e=>ku (Q:=P _ _ _) e λh=>oI bX h aq ig
theorem ag2{o v:L}{ix:nl}{eM:aG}(ok:bz Θ.fs (d+4) ah)(x:bD Θ Z ρ m H h)(aR:bg ρ o o')(hi:oF (Z:=Z) ρ h ix eM)(hv:bg ρ v aJ)(e:fS o ix v H=J bb):aa Θ ah Z ρ (wF o' eM aJ) (lc m bb) h:=by
 refine aoj (P:=λo ix v bb=>∀o' eM aJ,bg ρ o o'->oF (Z:=Z) ρ h ix eM->bg ρ v aJ->aa Θ ah Z ρ (wF o' eM aJ) (lc m bb) h) ?_ ?_ ?_ ?_ e o' eM aJ aR hi hv
 ·intro i l k v bX bu aD o' eM aJ aR hi hv;refine cm hi λt amy=>?_;obtain rfl:=amy
  exact ahj ok x aR bX bu hv aD.1 aD.2.1 aD.2.2
 ·intro i l k v c bX bu aD ig o' eM aJ aR hi hv;refine cm hi λt amz=>?_;obtain rfl:=amz
  exact Zm ok x aR bX bu hv ig aD.1 aD.2.1 aD.2.2
 ·exact λbX bu aD o' eM aJ aR hi hv=>acv ok x aR bX bu (eZ aD) (eK aD) hi hv
 ·exact λbX bu aq ig o' eM aJ aR hi hv=>Zn ok x aR hi hv bX bu aq ig
theorem Zi(ok:bz Θ.fs (d+4) ah)(y:bD Θ Z ρ m H h)(aR:bg ρ (.new i) o')(hv:bg ρ (.bytes x) aJ)(hi:H[i]? =J (.ba l))(bu:i≠0)
  (aq:bH (l.length+x.length)=ae):aa Θ ah Z ρ (PySem.call (.builtin "bytearray.extend") [o',aJ]) (dC m .none (H.set i (.ba (l++x)))) h:=by
 obtain⟨p,hp,rfl⟩:=aR;obtain⟨nL,-,bj⟩:=y.rel.obj _ _ _ hp hi;refine cm hv λt amA=>?_;obtain rfl:=amA
 have aB:h.get? p.1=J (jW l):=bj;refine Jm (n:=d+3) ok Th (λs e=>⟨_,by refine G e ?_;exact aB,rfl⟩) aox (Yc _ _) (by decide+kernel) λgU hM=>?_
 exact adm hM aB (fE aq) λav dF=>d4.turned y hp bu (λb o ai ak e=>(dF.2.1 b ai).trans e) (G dF.2.2 (cW _)) (o:=.ba (l++x)) ⟨nL,(),dF.1⟩ ⟨rfl,rfl,rfl⟩
theorem G1{src:Option aG}(ok:bz Θ.fs (d+4) ah)(y:bD Θ Z ρ m H h)(e:xF src=J l):aa Θ ah Z ρ (PySem.call (.type "bytearray") src.toList) (dC m (.new H.length) (H++[.ba l])) h:=by
 exact Q8 (n:=d+1) ok e λav az aB=>d4.added y az (p:=(h.objs.size,h.objs.size)) (cW _) (cW _) (o:=.ba l) ⟨rfl,(),aB⟩ ⟨rfl,rfl,bg.last y.len⟩
theorem list_append{l:List L}{v:L}(ok:bz Θ.fs (d+4) ah)(x:bD Θ Z ρ m H h)(aR:bg ρ (.new i) o')(hv:bg ρ v aJ)(hi:H[i]? =J (.list l))(bu:i≠0)(aq:bH l.length=ae):
  aa Θ ah Z ρ (PySem.call (.builtin "list.append") [o',aJ]) (dC m .none (H.set i (.list (l++[v])))) h:=by
 obtain⟨p,hp,rfl⟩:=aR;obtain⟨nL,vs,n,bj,r⟩:=x.rel.obj _ _ _ hp hi;refine aa.any ok λA s a6 bA bT e1 e2 aP=>?_
 subst e1;refine wpAny_list_append_plain (items:=vs.toArray) ⟨n,bj⟩ (λav AK gc=>⟨?_,e2,aP⟩) (G iA (cT r.length (oC aq)))
 exact cm AK λJL AK=>d4.turned x hp bu (λb o ai _ e=>gc.extBut b o ai e) (iB gc.1.symm) (o:=.list (l++[v])) ⟨nL,vs++[aJ],JL,by simpa using AK,r.append (.cons hv .nil)⟩ ⟨rfl,rfl,rfl⟩
end
variable {aJ:aG}
section
open PySem.SeqAt
open _root_.PySem.AutoSeq1 (wpAny_loadPart')
open MeetsSeq MeetsSeq2 MeetsSeq3 SeqRoads2
theorem anT(l:a1)(items:Array aG)(n:Nat)(x:aG)(e:aG->Bool)(j:Nat)(cY:j<items.size)(iC:e items[j]=ae)(k:Nat)(qH:items.size<=mh):
  ∀i:Nat,j - i=k->i<=j->(∀m (bc:m<items.size),i<=m->m<j->e items[m]=aA)->Meets (Builtin.«list.remove.loop» ⟨[.ref l,x,rI i],[]⟩)
   (λA R s=>s.heap.get? l=J {cls:=.type "list",dict:=ac,data:=.seq items n,slots:= #[]}/\(∀y,y∈items->EqAt A.in1 s y x (e y))/\R (.ok (.ret .none)) {s with heap:=s.heap.update l (rB λeW=>eW.eraseIdxIfInBounds j)}):=by
 induction k with
 |zero=>
  intro i hk vh AI prog w A R s h;obtain⟨hp,aB,d,tk,os⟩:=s;obtain⟨aQ,bl,h⟩:=h;have ae1:i=j:=rf (Mine.Internal.OL vh hk);subst ae1;wp_walk using GD aQ
  have hi:items[((i:Nat):Int).toNat]? =J items[i]:=by simp [cY]
  (rw [hi])
  refine b4 (bl _ (Array.getElem_mem cY) prog w _ _ ?_);(rw [iC])
  have afu:(items.eraseIdxIfInBounds i).size<=mh+1:=cQ (size_erased items _) (uC qH);wp_walk using(wpAny_updateSeq aQ rfl (hz:=qH) (_hz':=afu)),GD aQ
  simpa using h
 |succ k ih=>
  intro i hk vh AI prog w A R s h;obtain⟨hp,aB,d,tk,os⟩:=s;obtain⟨aQ,bl,h⟩:=h;have lP:i<items.size:=eI vh cY;wp_walk using GD aQ
  have hi:items[((i:Nat):Int).toNat]? =J items[i]:=by simp [lP]
  have aD:((i:Int)+1)=((i+1:Nat):Int):=by push_cast;rfl
  (rw [hi])
  refine b4 (bl _ (Array.getElem_mem lP) prog w _ _ ?_);(rw [AI i lP (cW _) (Nat.lt_of_sub_eq_succ hk)])
  wp_walk
  (rw [aD])
  exact⟨zE plain_remove_loop _,NM entry_remove_loop (by
   (rw [Gh plain_remove_loop _])
   exact ih (i+1) (Mine.Internal.asu hk) (Mine.Internal.asv hk) (λm bc ai ak=>AI m bc (jz ‹_›) ak) prog w A R _ ⟨aQ,bl,h⟩)⟩
theorem ahi(l:a1)(items:Array aG)(n:Nat)(x:aG)(e:aG->Bool)(j:Nat)(cY:j<items.size)
  (iC:e items[j]=ae) (AI:∀m (bc:m<items.size),m<j->e items[m]=aA) (qH:items.size<=mh):
  Meets (Builtin.«list.remove» ⟨[.ref l,x],[]⟩)
   (λA R s=>s.heap.get? l=J {cls:=.type "list",dict:=ac,data:=.seq items n,slots:= #[]}/\(∀y,y∈items->EqAt A.in1 s y x (e y))/\R (.ok (.ret .none)) {s with heap:=s.heap.update l (rB λeW=>eW.eraseIdxIfInBounds j)}):=by
 intro prog w A R s h;obtain⟨hp,aB,d,tk,os⟩:=s;obtain⟨aQ,bl,h⟩:=h;wp_walk using GD aQ
 exact⟨zE plain_remove_loop _,NM entry_remove_loop (by
  (rw [Gh plain_remove_loop _])
  exact anT l items n x e j cY iC _ qH 0 rfl (hf _) (λm bc _ ak=>AI m bc ak) prog w A R _ ⟨aQ,bl,h⟩)⟩
end
theorem agg(P:cB):(match(xq P).data with | .dict aH _=>aH.all (λe=>match e.key with | .str _ _=>ae|_=>aA)|_=>aA)=ae:=by kernel_rfl
theorem air(P:cB):(match(xq P).data with | .dict aH _=>nsFind aH "__eq__"|_=>J .none)=ac:=by kernel_rfl
theorem ais(P:cB):(match(xq P).data with | .dict aH _=>nsFind aH "__ne__"|_=>J .none)=ac:=by kernel_rfl
theorem adW(P:cB):(dk P).lookup 539=J JY:=by kernel_rfl
theorem adV(P:cB):(dk P).lookup 538=J (xq P):=by kernel_rfl
theorem PD{P:cB}{h:bq}{x d:a1}(K:(dk P).In h)(aO:h.get? x=J (kj 539 d)):h.CmpInst x 539 [.type "object"]:=by
 have dD:=K _ _ (adW P);have nE:=K _ _ (adV P);have n:h.isNs 538=ae:=by unfold Heap.isNs;exact G nE (agg P)
 have N:=Heap.Ns.of_isNs n;refine⟨_,_,_,538,_,_,_,_,_,_,_,_,_,_,_,_,"object.__new__",_,aO,rfl,dD,N,?_,?_⟩
 ·unfold Heap.nsMap;exact G nE (air P)
 ·unfold Heap.nsMap;exact G nE (ais P)
section
open PySem.SeqAt
theorem Qc{v:L}:∀ {l:List L} {k:Nat},tz v l=J k->l[k]? =J v/\∀j,j<k->l[j]? ≠J v
 | [],k,e=>by exact br e
 |x::l,k,e=>by
  rw [Ih] at e;by_cases q:x=v
  ·rw [aY q] at e;obtain rfl:=ci e;subst q;exact⟨rfl,λj cY=>absurd cY (M1 _)⟩
  ·rw [a8 q] at e;refine bU (rz.mp e) λi dw amB=>?_;obtain rfl:=amB
   refine cz (Qc dw) λa b=>⟨by simpa using a,λj cY=>?_⟩
   induction j using n7 with
   |zero=>simp only [List.getElem?_cons_zero];intro z;obtain rfl:=ci z;exact q rfl
   |succ j=>simp only [List.getElem?_cons_succ];exact b j (Nat.succ_lt_succ_iff.mp cY)
set_option tactic.hygienic true in
theorem G6{v:L}{aJ:aG}(x:fW Θ ρ H h)(hv:oE H v=ae)(r:bg ρ v aJ):∃(i:Nat) (p:a1×a1),v=.new i/\ρ[i]? =J p/\aJ=.ref p.1/\h.get? p.1=J (kj 539 p.2):=by
 unfold oE at hv;split at hv
 ·rename_i i;split at hv
  ·rename_i c aN e;obtain⟨p,hp,rfl⟩:=r;obtain⟨gZ,iR,-,-,aB,-⟩:=x.get e;rw [hp] at iR;obtain rfl:=ci iR;have :c=539:=by simpa using hv
   subst this;exact⟨i,p,rfl,hp,rfl,aB⟩
  ·exact b8 hv
 ·exact b8 hv
theorem ahh{i j k:Nat}{l:List L}{o' aJ:aG}(ok:bz Θ.fs (d+4) ah)(x:bD Θ Z ρ m H h)(aR:bg ρ (.new i) o')(hv:bg ρ (.new j) aJ)(hi:H[i]? =J (.list l))(bu:i≠0)(aq:bH l.length=ae)
  (hb:l.all (oE H)=ae) (e:tz (.new j) l=J k):
  aa Θ ah Z ρ (PySem.call (.builtin "list.remove") [o',aJ]) (dC m .none (H.set i (.list (l.eraseIdx k)))) h:=by
 obtain⟨p,hp,rfl⟩:=aR;obtain⟨nL,vs,n,bj,r⟩:=x.rel.obj _ _ _ hp hi;refine cz (Qc e) λrX j0=>?_
 have Z1:oE H (.new j)=ae:=i3.mp hb _ (zr rX);refine tY (G6 x.rel Z1 hv) λasM q ej cJ amC aep=>?_;obtain rfl:=amC
 cases ej;have Ra:k<l.length:=(kF.mp rX).1;have aQ:=r.length;refine aa.any ok λA s a6 bA bT e1 e2 aP=>?_
 subst e1;refine call_meets PySem.F.slot_list_remove ⟨_,bj,rfl⟩ PySem.F.entry_list_remove (PySem.F.args_list_remove_2 _ _)
  (ahi p.1 vs.toArray n (.ref q.1) (λy=>y== .ref q.1) k (by simp;exact MY Ra aQ) ?_ (λbV bc lP=>?_) (G iA (cT aQ (oC aq)))) ⟨bj,λy hy=>?_,?_⟩
 ·refine bU (r.get rX) λy Dc K4=>?_
  obtain⟨iE,AL,rfl⟩:=K4;rw [cJ] at AL;obtain rfl:=ci AL;have :vs.toArray[k]? =J (.ref q.1):=by simpa using Dc
  rw [Mt (by simp;exact place_lt Dc)] at this
  have :=ci this;exact G this (beq_self_eq_true _)
 ·have i7:bV<l.length:=by simp at bc;exact n8 lP Ra
  have aB:=iy i7;refine bU (r.get aB) λy Dc K4=>?_
  have bm:oE H l[bV]=ae:=i3.mp hb _ (zo _);refine tY (G6 x.rel bm K4) λlQ a7 iO QR amD g2=>?_;obtain rfl:=amD
  have :lQ≠j:=λz=>j0 bV lP (by(exact G aB (G iO (G z rfl))))
  have jL:=(x.rel.sep _ _ _ _ QR cJ this).1;have :vs.toArray[bV]? =J (.ref a7.1):=by simpa using Dc
  rw [Mt bc] at this;have :=ci this;show(vs.toArray[bV]== .ref q.1)=aA
  refine G this (fB beq_eq_false_iff_ne ?_);intro z;exact jL (by injection z)
 ·have hy:y∈vs:=by simpa using hy
  obtain⟨bV,i7,rfl⟩:=ux hy;refine bU (r.get' (iy i7)) λa mV ra=>?_
  have bm:oE H a=ae:=i3.mp hb _ (zr mV);refine tY (G6 x.rel bm ra) λlQ a7 iO QR Ae g2=>G Ae ?_
  by_cases z:a7.1=q.1
  ·refine G z ?_;have :(lK q.1==lK q.1)=ae:=beq_self_eq_true _;exact G this (EqAt.same _)
  ·have :(lK a7.1==lK q.1)=aA:=by refine fB beq_eq_false_iff_ne ?_;intro y;exact z (by injection y)
   refine G this (EqAt.of_refs z λprog w E Q cJ=>?_)
   obtain⟨xa,aI,asz,tk,os⟩:=s;exact compareOp_eq_other PySem.F.cmp_object PySem.F.cmp_object (PD x.rel.base.k g2) (PD x.rel.base.k aep) z (by show A.units+1<9900;exact eI ‹_› (by decide)) cJ
 ·have qR:∀b,b≠p.1->(s.heap.update p.1 (rB λeW=>eW.eraseIdxIfInBounds k)).get? b=s.heap.get? b:=λb hb=>uE _ _ (λz=>hb z.symm)
  have :=IsL.update (n:=n) (show IsL s.heap p.1 vs.toArray n from bj) (λeW=>eW.eraseIdxIfInBounds k)
  have z:vs.toArray.eraseIdxIfInBounds k=(vs.eraseIdx k).toArray:=by simp
  rw [z] at this;exact⟨d4.turned x hp bu (λb o ai ak e=>(qR b ai).trans e) (G (qg ..) (cW _)) (o:=.list (l.eraseIdx k)) ⟨nL,vs.eraseIdx k,_,this,r.eraseIdx⟩ ⟨rfl,rfl,rfl⟩,e2,aP⟩
end
section
variable {a b:L}{db ck:aG}{c:Bool}{l fY:List L}{bM:CmpOp}
theorem aio:jp (.type "bytes") (dunderR "add")=bK ac:=by refine G (iM ..) (G (iL ..) ?_);kernel_rfl
theorem ain:fillsNumberSlot (.type "bytes") "add"=bK aA:=PySem.fillsNumberSlot_seq (id:="bytes.__add__") (r:=ac) NL.lookup (by decide+kernel) aio rfl
theorem aog:seqSlot? (.type "bytes") "__add__"=bK (J (.builtin "bytes.__add__")):=PySem.seqSlot_of NL.lookup (by decide+kernel)
section
theorem agP{a b:List UInt8}(ok:bz Θ.fs (d+4) ah)(x:bD Θ Z ρ m H h)(ha:bg ρ (.bytes a) db)(hb:bg ρ (.bytes b) ck)(aq:bH (a.length+b.length)=ae):
  aa Θ ah Z ρ (zB .Add db ck) (dC m (.bytes (a++b)) H) h:=by
 refine cm ha λt amM=>?_;obtain rfl:=amM
 refine cm hb λu amN=>?_;obtain rfl:=amN
 have :=fE aq;refine aa.any ok λA s a6 bA bT e1 e2 aP=>?_
 subst e1;refine wpAny_binaryOp_concat (T:="bytes") rfl rfl ain aog (qo NL rfl FB.entry_bytes_add ?_ (FB.args_bytes_add_2 _ _));refine b4 (m:=slotArgs _ _ _) (cL ?_);refine b4 (EZ ?_);refine b4 (b4 (zJ (EZ (cL ?_))));dsimp only;have cq:∀(l:List UInt8) (t:Tok) (aS:cn),l=a++b->aS.heap=s.heap->aS.gens= #[]->aS.os=Θ.O->d4 Θ Z ρ s.heap (dC m (.bytes (a++b)) H) (.bytes l.toArray t) aS.heap/\aS.gens= #[]/\aS.os=Θ.O:=
  λl t aS e ai ak aZ=>⟨by refine G ai (G e ?_);exact .now x ⟨rfl,rfl,t,rfl⟩,ak,aZ⟩
 have go:cG (c8 prog Θ.w) A.in1 (if Gk (a.toArray.size+b.toArray.size)=ae then(do let _ <-(unsupported "bytes.__add__:memory":Sem PUnit);ret (<-mkBytes (a.toArray++b.toArray))) else(do ret (<-mkBytes (a.toArray++b.toArray)))) (λcq aS=>∃v,cq=.done (.ret v)/\d4 Θ Z ρ s.heap (dC m (.bytes (a++b)) H) v aS.heap/\aS.gens= #[]/\aS.os=Θ.O) (λ_ _=>False) s:=by
  refine jt (by simp [Gk,k9];lia) ?_
  exact b4 (GF (cL ⟨_,rfl,by simpa using cq (a++b) _ _ rfl rfl e2 aP⟩) (by simp [k9];lia))
 split
 ·rename_i hz;refine bN (λ_=>tc (T:="bytes") rfl) (yM (by decide) ?_)
  have :a=[]:=by simpa using hz
  exact bN (λ_=>rK) (cL ⟨_,rfl,cq b u s (G this rfl) rfl e2 aP⟩)
 ·split
  ·rename_i hz;refine bN (λ_=>tc (T:="bytes") rfl) (yM (by decide) ?_)
   have :b=[]:=by simpa using hz
   exact bN (λ_=>rK) (cL ⟨_,rfl,cq a t s (by refine G this ?_;simp) rfl e2 aP⟩)
  ·exact go
open PySem.SeqAt
set_option tactic.hygienic true in
theorem adK(A:kI)(s:cn)(ha:hK a=ae)(hb:hK b=ae)(ra:bg ρ a db)(rb:bg ρ b ck):EqAt A s db ck (a==b):=by
 rcases a<;>simp only [hK] at ha<;>first |exact b8 ha|skip
 ·rcases b<;>simp only [hK] at hb<;>first |exact b8 hb|skip
  ·cases ra;cases rb;exact EqAt.same _
  ·cases ra;refine cm rb λt amO=>?_;obtain rfl:=amO;exact EqAt.none_int _ _
 ·rename_i i;rcases b<;>simp only [hK] at hb<;>first |exact b8 hb|skip
  ·cases rb;refine cm ra λt amP=>?_;obtain rfl:=amP;exact EqAt.int_none _ _
  ·rename_i j;refine cm ra λt amQ=>?_;obtain rfl:=amQ
   refine cm rb λu amR=>?_;obtain rfl:=amR
   have :((L.int i)==(L.int j))=(i==j):=by
    refine fB t6 ?_;simp
   exact G this (EqAt.int_int _ _ _ _)
theorem all_range(aQ:l.length=fY.length):(nn l.length).all (λj=>l[j]? ==fY[j]?)=(l==fY):=by
 refine fB t6 ?_;rewrite [i3];refine fB beq_iff_eq ?_;constructor
 ·intro h;apply F0
  intro i;by_cases hi:i<l.length
  ·have :=h i (by simpa using hi)
   simpa using this
  ·(exact G (mP (wo hi)) (G (mP (by lia)) rfl))
 ·rintro rfl i -
  simp
theorem AY{i:Nat}(x:fW Θ ρ H h)(hi:H[i]? =J (.list l)\/H[i]? =J (.scr l)){v:aG}(r:bg ρ (.new i) v):∃a vs,v=.ref a/\h.IsList a (List.toArray vs)/\All2 (bg ρ) l vs:=by
 obtain⟨p,hp,rfl⟩:=r;rcases hi with hi|hi
 ·obtain⟨gZ,iR,-,vs,n,bj,r⟩:=x.get hi;rw [hp] at iR;obtain rfl:=ci iR;exact⟨_,vs,rfl,⟨_,bj,rfl,n,rfl⟩,r⟩
 ·obtain⟨gZ,iR,-,vs,bj,r⟩:=x.get hi;rw [hp] at iR;obtain rfl:=ci iR;exact⟨_,vs,rfl,bj,r⟩
theorem ahm{vs gr:List aG}(A:kI)(s:cn)(b9:All2 (bg ρ) l vs)(dG:All2 (bg ρ) fY gr)(ch:l.all hK=ae)(cd:fY.all hK=ae):
  ∀j (ai:j<vs.toArray.size) (ak:j<gr.toArray.size),EqAt A s vs.toArray[j] gr.toArray[j] (l[j]? ==fY[j]?):=by
 intro j ai ak;have ai:j<vs.length:=by simpa using ai
 have ak:j<gr.length:=by simpa using ak
 refine bU (b9.get' (iy ai)) λa mV ra=>?_
 refine bU (dG.get' (iy ak)) λb fc rb=>?_
 refine G mV (G fc ?_);have :(J a==J b)=(a==b):=by refine fB t6 ?_;simp
 exact G this (adK A s (i3.mp ch _ (zr mV)) (i3.mp cd _ (zr fc)) ra rb)
theorem ahl{dx en:aG}{i j:Nat}(ok:bz Θ.fs (d+4) ah)(x:bD Θ Z ρ m H h)(ai:H[i]? =J (.list l)\/H[i]? =J (.scr l))(ak:H[j]? =J (.list fY))(b9:bg ρ (.new i) dx)(dG:bg ρ (.new j) en)
  (e:(if l.length=fY.length then(if l.all hK&&fY.all hK then J (l==fY) else ac) else J aA)=J c) (hop:bM=.Eq\/bM=.NotEq):aa Θ ah Z ρ (s7 bM dx en) (dC m (.bool (if bM=.Eq then c else !c)) H) h:=by
 refine kA (AY x.rel ai b9) λa vs amS bj aM=>?_;obtain rfl:=amS
 refine kA (AY x.rel (.inl ak) dG) λb gr amT Du a7=>?_;obtain rfl:=amT
 have e1:=aM.length;have e2:=a7.length;refine aa.any ok λA s a6 bA bT gs fu f1=>?_
 subst gs;split at e
 ·rename_i aQ;refine dR e λaq e=>?_
  rw [he] at aq;obtain rfl:=ci e;have hz:vs.toArray.size=gr.toArray.size:=by simp;lia
  have key:=ahm A.in1 s aM a7 aq.1 aq.2;have all:(nn vs.toArray.size).all (λj=>l[j]? ==fY[j]?)=(l==fY):=G iA (cT e1 (all_range aQ))
  rcases hop with rfl|rfl
  ·exact eq_listAt (e:=λj=>l[j]? ==fY[j]?) bj Du hz (by show A.units<9900;exact eE ‹_› (by decide)) key ⟨.now x ⟨rfl,rfl,G all rfl⟩,fu,f1⟩
  ·exact RcNeAt.lists (e:=λj=>l[j]? ==fY[j]?) bj Du hz (by show A.units<9900;exact eE ‹_› (by decide)) key prog Θ.w _ _ ⟨.now x ⟨rfl,rfl,G all rfl⟩,fu,f1⟩
 ·rename_i aQ;obtain rfl:=ci e;have hz:(vs.toArray.size !=gr.toArray.size)=ae:=by simp;lia
  rcases hop with rfl|rfl
  ·exact eq_list_lengthsAt bj Du hz (by show A.units<9900;exact eE ‹_› (by decide)) ⟨.now x ⟨rfl,rfl,rfl⟩,fu,f1⟩
  ·exact RcNeAt.lists_lengths bj Du hz (by show A.units<9900;exact eE ‹_› (by decide)) prog Θ.w _ _ ⟨.now x ⟨rfl,rfl,rfl⟩,fu,f1⟩
set_option tactic.hygienic true in
theorem ada(e:Ak a b H=J c):(∃i j,a=.int i/\b=.int j/\c=(i==j))\/(∃i j,a=.bytes i/\b=.bytes j/\c=(i==j))\/
  ∃i j l fY,a=.new i/\b=.new j/\(H[i]? =J (.list l)\/H[i]? =J (.scr l))/\H[j]? =J (.list fY)/\(if l.length=fY.length then(if l.all hK&&fY.all hK then J (l==fY) else ac) else J aA)=J c:=by
 rcases a<;>first |exact br e|skip
 ·rcases b<;>first |exact br e|exact .inl ⟨_,_,rfl,rfl,(ci e).symm⟩
 ·rcases b<;>first |exact br e|exact .inr (.inl ⟨_,_,rfl,rfl,(ci e).symm⟩)
 ·rename_i i;rcases b<;>first |exact br e|skip
  rename_i j;refine .inr (.inr ⟨i,j,?_⟩);delta Ak at e
  dsimp only at e;generalize H[i]? =o at e⊢;generalize H[j]? =q at e⊢;rcases o with _|o
  ·exact br e
  ·rcases o<;>first |exact br e|skip
   ·rcases q with _|q
    ·exact br e
    ·rcases q<;>first |exact br e|exact⟨_,_,rfl,rfl,.inl rfl,rfl,e⟩
   ·rcases q with _|q
    ·exact br e
    ·rcases q<;>first |exact br e|exact⟨_,_,rfl,rfl,.inr rfl,rfl,e⟩
theorem P6(hop:bM=.Eq\/bM=.NotEq)(ok:bz Θ.fs (d+4) ah)(x:bD Θ Z ρ m H h)(ha:bg ρ a db)(hb:bg ρ b ck)(e:Ak a b H=J c):
  aa Θ ah Z ρ (s7 bM db ck) (dC m (.bool (if bM=.Eq then c else !c)) H) h:=by
 rcases ada e with⟨i,j,rfl,rfl,rfl⟩|⟨i,j,rfl,rfl,rfl⟩|⟨i,j,l,fY,rfl,rfl,ai,ak,e⟩
 ·refine cm ha λt amU=>?_;obtain rfl:=amU
  refine cm hb λu amV=>?_;obtain rfl:=amV
  refine aa.any ok λA s a6 bA bT gs fu f1=>?_
  subst gs;rcases hop with rfl|rfl
  ·exact PyProof.Rows.eq_int ⟨.now x ⟨rfl,rfl,rfl⟩,fu,f1⟩
  ·exact PyProof.Rows.ne_int ⟨.now x ⟨rfl,rfl,rfl⟩,fu,f1⟩
 ·refine cm ha λt amW=>?_;obtain rfl:=amW
  refine cm hb λu amX=>?_;obtain rfl:=amX
  refine aa.any ok λA s a6 bA bT gs fu f1=>?_
  subst gs;rcases hop with rfl|rfl
  ·exact eq_bytes ⟨.now x ⟨rfl,rfl,rfl⟩,fu,f1⟩
  ·exact ne_bytes ⟨.now x ⟨rfl,rfl,rfl⟩,fu,f1⟩
 ·exact ahl ok x ai ak ha hb e hop
set_option tactic.hygienic true in
theorem afW(e:DE a b H=J c):(a=.none/\b=.none/\c=ae)\/((∃i,a=.new i)/\b=.none/\c=aA)\/((∃i,a=.int i)/\b=.none/\c=aA)\/(a=.none/\(∃i,b=.new i)/\c=aA)\/
  ∃i j,a=.new i/\b=.new j/\qK H i=ae/\qK H j=ae/\c=(i==j):=by
 rcases a<;>first |exact br e|skip
 ·rcases b<;>first |exact br e|skip
  ·exact .inl ⟨rfl,rfl,(ci e).symm⟩
  ·exact dR e λ_ e=>.inr (.inr (.inr (.inl ⟨rfl,⟨_,rfl⟩,(ci e).symm⟩)))
 ·rcases b<;>first |exact br e|skip
  exact .inr (.inr (.inl ⟨⟨_,rfl⟩,rfl,(ci e).symm⟩))
 ·rcases b<;>first |exact br e|skip
  ·exact dR e λ_ e=>.inr (.inl ⟨⟨_,rfl⟩,rfl,(ci e).symm⟩)
  ·exact dR e λh e=>.inr (.inr (.inr (.inr ⟨_,_,rfl,rfl,(eZ h),(eK h),(ci e).symm⟩)))
set_option tactic.hygienic true in
theorem QZ(hop:bM=.Is\/bM=.IsNot)(ok:bz Θ.fs (d+4) ah)(x:bD Θ Z ρ m H h)(ha:bg ρ a db)(hb:bg ρ b ck)(e:DE a b H=J c):
  aa Θ ah Z ρ (s7 bM db ck) (dC m (.bool (if bM=.Is then c else !c)) H) h:=by
 have two:∀v:aG,(∃a,v=.ref a)\/(∃i t,v=.int i t)->plainIs v .none=ae/\plainIs .none v=ae/\v≠.none:=by
  rintro v (⟨a,rfl⟩|⟨i,t,rfl⟩)<;>exact⟨rfl,rfl,λz=>by cases z⟩
 refine aa.any ok λA s a6 bA bT gs fu f1=>?_
 subst gs;rcases afW e with⟨rfl,rfl,rfl⟩|⟨⟨i,rfl⟩,rfl,rfl⟩|⟨⟨i,rfl⟩,rfl,rfl⟩|⟨rfl,⟨i,rfl⟩,rfl⟩|⟨i,j,rfl,rfl,aeH,w8,rfl⟩
 ·cases ha;cases hb;rcases hop with rfl|rfl
  ·exact wpAny_is_self rfl ⟨.now x ⟨rfl,rfl,rfl⟩,fu,f1⟩
  ·exact wpAny_isNot_self rfl ⟨.now x ⟨rfl,rfl,rfl⟩,fu,f1⟩
 ·obtain⟨p,hp,rfl⟩:=ha;cases hb;refine dS (two (.ref p.1) (.inl ⟨_,rfl⟩)) λlY pP tV=>?_
  rcases hop with rfl|rfl
  ·exact NX lY tV ⟨.now x ⟨rfl,rfl,rfl⟩,fu,f1⟩
  ·exact NW lY tV ⟨.now x ⟨rfl,rfl,rfl⟩,fu,f1⟩
 ·refine cm ha λt amZ=>?_;obtain rfl:=amZ
  cases hb;obtain⟨lY,pP,tV⟩:=two (.int _ t) (.inr ⟨_,_,rfl⟩);rcases hop with rfl|rfl
  ·exact NX lY tV ⟨.now x ⟨rfl,rfl,rfl⟩,fu,f1⟩
  ·exact NW lY tV ⟨.now x ⟨rfl,rfl,rfl⟩,fu,f1⟩
 ·obtain⟨p,hp,rfl⟩:=hb;cases ha;refine dS (two (.ref p.1) (.inl ⟨_,rfl⟩)) λlY pP tV=>?_
  rcases hop with rfl|rfl
  ·exact NX pP (λz=>tV z.symm) ⟨.now x ⟨rfl,rfl,rfl⟩,fu,f1⟩
  ·exact NW pP (λz=>tV z.symm) ⟨.now x ⟨rfl,rfl,rfl⟩,fu,f1⟩
 ·have inst:∀ {i:Nat} {p:a1×a1},qK H i=ae->ρ[i]? =J p->∃c,s.heap.get? p.1=J (kj c p.2):=by
   intro i p hi hp;unfold qK at hi;split at hi
   ·rename_i c aN bX;obtain⟨-,-,aB,-⟩:=x.rel.obj _ _ _ hp bX;exact⟨c,aB⟩
   ·exact b8 hi
  obtain⟨p,hp,rfl⟩:=ha;obtain⟨q,cJ,rfl⟩:=hb;refine cm (inst aeH hp) λdv d1=>cm (inst w8 cJ) λdy g2=>?_
  by_cases z:i=j
  ·subst z;rw [hp] at cJ;obtain rfl:=ci cJ;refine G (beq_self_eq_true ..) ?_;rcases hop with rfl|rfl
   ·exact wpAny_is_ref_self ⟨.now x ⟨rfl,rfl,rfl⟩,fu,f1⟩
   ·exact wpAny_isNot_ref_self ⟨.now x ⟨rfl,rfl,rfl⟩,fu,f1⟩
  ·have jL:=(x.rel.sep _ _ _ _ hp cJ z).1;have :(i==j)=aA:=by simpa using z
   refine G this ?_;rcases hop with rfl|rfl
   ·exact wpAny_is_ref_other jL d1 g2 (by intro y;cases y) ⟨.now x ⟨rfl,rfl,rfl⟩,fu,f1⟩
   ·exact wpAny_isNot_ref_other jL d1 g2 (by intro y;cases y) ⟨.now x ⟨rfl,rfl,rfl⟩,fu,f1⟩
set_option tactic.hygienic true in
theorem abX(e:bW .Lt a b H=J c):∃i j,a=.int i/\b=.int j/\c=eg (i<j):=by
 rcases a<;>first |exact br e|(rcases b<;>first |exact br e|exact⟨_,_,rfl,rfl,(ci e).symm⟩)
theorem abW(e:bW .LtE a b H=J c):∃i j,a=.int i/\b=.int j/\c=eg (i<=j):=by
 rcases a<;>first |exact br e|(rcases b<;>first |exact br e|exact⟨_,_,rfl,rfl,(ci e).symm⟩)
theorem abU(e:bW .Gt a b H=J c):∃i j,a=.int i/\b=.int j/\c=eg (j<i):=by
 rcases a<;>first |exact br e|(rcases b<;>first |exact br e|exact⟨_,_,rfl,rfl,(ci e).symm⟩)
theorem abT(e:bW .GtE a b H=J c):∃i j,a=.int i/\b=.int j/\c=eg (j<=i):=by
 rcases a<;>first |exact br e|(rcases b<;>first |exact br e|exact⟨_,_,rfl,rfl,(ci e).symm⟩)
set_option tactic.hygienic true in
theorem abV(e:bW .In a b H=J c):fX a=ae/\∃j l,b=.new j/\H[j]? =J (.dict l)/\c=(dV l a).isSome:=by
 rcases b<;>first |exact br e|skip
 rename_i j;refine dR e λhk e=>⟨hk,j,?_⟩
 have e:(match H[j]?with |J (.dict l)=>J (dV l a).isSome|_=>ac)=J c:=e
 generalize H[j]? =q at e⊢;rcases q with _|q
 ·exact br e
 ·rcases q<;>first |exact br e|exact⟨_,rfl,rfl,(ci e).symm⟩
set_option tactic.hygienic true in
theorem DS(ok:bz Θ.fs (d+4) ah)(x:bD Θ Z ρ m H h)(ha:bg ρ a db)(hb:bg ρ b ck)(e:bW bM a b H=J c):
  aa Θ ah Z ρ (s7 bM db ck) (dC m (.bool c) H) h:=by
 rcases bM
 case Eq=>exact P6 (.inl rfl) ok x ha hb e
 case NotEq=>
  refine bU (rz.mp e) λc' cU am0=>?_;obtain rfl:=am0
  exact P6 (.inr rfl) ok x ha hb cU
 case Is=>exact QZ (.inl rfl) ok x ha hb e
 case IsNot=>
  refine bU (rz.mp e) λc' cU am1=>?_;obtain rfl:=am1
  exact QZ (.inr rfl) ok x ha hb cU
 case In=>
  refine ar6 (abV e) λhk j l am2 bX am3=>?_;obtain rfl:=am2;obtain rfl:=am3
  exact acs ok x hb bX hk ha
 case NotIn=>exact br e
 case Lt=>
  refine kA (abX e) λi j am4 am5 am6=>?_;obtain rfl:=am4;obtain rfl:=am5;obtain rfl:=am6
  refine cm ha λt am7=>?_;obtain rfl:=am7
  refine cm hb λu am8=>?_;obtain rfl:=am8
  refine aa.any ok λA s a6 bA bT gs fu f1=>?_
  subst gs;exact P.lt_int ⟨.now x ⟨rfl,rfl,rfl⟩,fu,f1⟩
 case LtE=>
  refine kA (abW e) λi j ana anb anc=>?_;obtain rfl:=ana;obtain rfl:=anb;obtain rfl:=anc
  refine cm ha λt ane=>?_;obtain rfl:=ane
  refine cm hb λu anf=>?_;obtain rfl:=anf
  refine aa.any ok λA s a6 bA bT gs fu f1=>?_
  subst gs;exact P.le_int ⟨.now x ⟨rfl,rfl,rfl⟩,fu,f1⟩
 case Gt=>
  refine kA (abU e) λi j ang anh ani=>?_;obtain rfl:=ang;obtain rfl:=anh;obtain rfl:=ani
  refine cm ha λt anj=>?_;obtain rfl:=anj
  refine cm hb λu ank=>?_;obtain rfl:=ank
  refine aa.any ok λA s a6 bA bT gs fu f1=>?_
  subst gs;exact P.gt_int ⟨.now x ⟨rfl,rfl,rfl⟩,fu,f1⟩
 case GtE=>
  refine kA (abT e) λi j ajp ajq ajr=>?_;obtain rfl:=ajp;obtain rfl:=ajq;obtain rfl:=ajr
  refine cm ha λt ajs=>?_;obtain rfl:=ajs
  refine cm hb λu ajt=>?_;obtain rfl:=ajt
  refine aa.any ok λA s a6 bA bT gs fu f1=>?_
  subst gs;exact P.ge_int ⟨.now x ⟨rfl,rfl,rfl⟩,fu,f1⟩
end
end
variable {db ck:aG}{l:List L}
section
variable {a:Int}
theorem Tj:Slot "bytearray" "__len__" "bytearray.__len__":=
 .of (owner:="bytearray") (n:="__len__") (by refine G (iM ..) (G (iL ..) ?_);kernel_rfl) (by decide+kernel) (by decide+kernel) (by decide+kernel)
  (by first |exact .inl (by decide+kernel)|exact .inr (by decide+kernel)) (by refine G (rH ..) ?_;kernel_rfl)
theorem ac5:ql nu "bytearray.__len__"=J Builtin.«bytearray.__len__»:=CA (by kernel_rfl)
theorem Yg(a:aG):mg "bytearray.__len__" ⟨[a],[]⟩:=by
 unfold mg;refine G (zG (id:="bytearray.__len__") (n:=['_','_','n','e','l','_','_']) (o:=['y','a','r','r','a','e','t','y','b']) (by kernel_rfl) xr) ?_;kernel_rfl
theorem aa.anyS{ay:Type}{t:Sem ay}{Q:ay->cr->Loc->an->Prop}(ok:bz Θ.fs d ah)
  (x:∀A s,A.handled=ac->A.depth<990->A.units<9800->s.heap=h->s.gens= #[]->s.os=Θ.O->cG (c8 prog Θ.w) A t (λa aS=>(s.heap.objs.size<=aS.heap.objs.size->d4 Θ Z ρ h Q a aS.heap)/\aS.gens= #[]/\aS.os=Θ.O) (λ_ _=>False) s):aa Θ ah Z ρ t Q h:=by
 obtain⟨A,cS,a6,bA,bT⟩:=ok.room;exact af.sized (af.any cS λs e1 e2 aP=>wI (x A s a6 (Ga bA) (Ga bT) e1 e2 aP) (λa aS y=>⟨λz=>y.1 (G e1 z),y.2⟩) λ_ _ e=>e)
theorem xg{s:cn}{av:bq}(k:∀b o,s.heap.get? b=J o->av.get? b=J o)(z:s.heap.objs.size<=av.objs.size):gM s.heap av:=⟨k,z⟩
theorem ag7{l:List UInt8}(ok:bz Θ.fs (d+4) ah)(x:bD Θ Z ρ m H h)(aR:bg ρ (.new i) o')(hi:H[i]? =J (.ba l))(aq:bH l.length=ae):aa Θ ah Z ρ (PySem.call (.builtin "len") [o']) (dC m (.int l.length) H) h:=by
 obtain⟨p,hp,rfl⟩:=aR;obtain⟨gZ,iR,-,-,bj⟩:=x.rel.get hi;rw [hp] at iR;obtain rfl:=ci iR;have :=fE aq;refine aa.any ok λA s a6 bA bT e1 e2 aP=>?_
 subst e1;have gm:s.TypeIs (.ref p.1) "bytearray":=⟨_,bj,rfl⟩;refine Calls.call_function_entry kind_len plain_len entry_len (args_len1 _) (b4 (m:=oneArg "len" _) (cL ?_));refine b4 (m:=callSpecial? (.ref p.1) (oi "__len__")) (uK (name:=oi "__len__") gm Tj (qo Tj gm ac5 ?_ (Yg _)));refine b4 (m:=slotArgs _ _ _) (cL ?_);refine bN (λ_=>vX bj) (bN (λ_=>wpAny_mkInt) (cL ⟨_,rfl,?_⟩))
 refine b4 (rJ (cL ?_));refine bN (λ_=>wpAny_letGo) (G iA ?_)
 show cG _ _ (if((l.length:Nat):Int)<0 then _ else _) _ _ _
 refine jt (Int.not_ofNat_neg l.length) ?_;show cG _ _ (if((l.length:Nat):Int)>=2^63 then _ else _) _ _ _
 exact jt (by lia) (bN (λ_=>wpAny_mkInt) (cL ⟨_,rfl,.now x ⟨rfl,rfl,_,rfl⟩,e2,aP⟩))
theorem ag9{l:List L}(ok:bz Θ.fs (d+4) ah)(x:bD Θ Z ρ m H h)(aR:bg ρ (.new i) o')(hi:H[i]? =J (.list l))(aq:bH l.length=ae):aa Θ ah Z ρ (PySem.call (.builtin "len") [o']) (dC m (.int l.length) H) h:=by
 refine kA (AY x.rel (.inl hi) aR) λa vs aju bj r=>?_;obtain rfl:=aju
 have :=fE aq;have e:=r.length;refine aa.any ok λA s a6 bA bT e1 e2 aP=>?_
 subst e1;refine PyProof.Rows.len_list bj (by refine G iA ?_;lia) ⟨.now x ⟨rfl,rfl,s.toks+1,by(exact G iA (G e rfl))⟩,e2,aP⟩
theorem ahb{l:List L}(ok:bz Θ.fs (d+4) ah)(x:bD Θ Z ρ m H h)(aR:bg ρ (.new i) o')(hi:H[i]? =J (.set l))(aq:bH l.length=ae):aa Θ ah Z ρ (PySem.call (.builtin "len") [o']) (dC m (.int l.length) H) h:=by
 obtain⟨p,hp,rfl⟩:=aR;obtain⟨gZ,iR,-,o,aH,n,t,bj,aO,bA,ce,hz⟩:=x.rel.get hi;rw [hp] at iR;obtain rfl:=ci iR;have :=fE aq;refine aa.any ok λA s a6 pB bT e1 e2 aP=>?_
 subst e1;refine call_len_set bj aO bA ce (by lia) ⟨.now x ⟨rfl,rfl,s.toks+1,by(exact G hz rfl)⟩,e2,aP⟩
theorem ag8{l:List UInt8}(ok:bz Θ.fs (d+4) ah)(x:bD Θ Z ρ m H h)(aR:bg ρ (.bytes l) o')(aq:bH l.length=ae):aa Θ ah Z ρ (PySem.call (.builtin "len") [o']) (dC m (.int l.length) H) h:=by
 refine cm aR λt ajv=>?_;obtain rfl:=ajv
 have :=fE aq;refine aa.any ok λA s a6 pB bT e1 e2 aP=>?_
 subst e1;refine len_bytes (by refine G iA ?_;lia) ⟨.now x ⟨rfl,rfl,s.toks+1,by(exact G iA rfl)⟩,e2,aP⟩
theorem ahQ{b:Int}{u:Tok}(ok:bz Θ.fs (d+4) ah)(x:bD Θ Z ρ m H h):aa Θ ah Z ρ (PySem.call (.builtin "min") [.int a t,.int b u]) (dC m (.int (if b<a then b else a)) H) h:=by
 refine aa.anyS ok λA s a6 bA bT e1 e2 aP=>?_
 subst e1;refine PySem.min_two_ints a6 λav tk k=>⟨λz=>d4.grown x (xg k z) ⟨rfl,rfl,?_⟩,e2,aP⟩
 split<;>exact⟨_,rfl⟩
theorem ahM{b:Int}{u:Tok}(ok:bz Θ.fs (d+4) ah)(x:bD Θ Z ρ m H h):aa Θ ah Z ρ (PySem.call (.builtin "max") [.int a t,.int b u]) (dC m (.int (if a<b then b else a)) H) h:=by
 refine aa.anyS ok λA s a6 bA bT e1 e2 aP=>?_
 subst e1;refine PySem.max_two_ints a6 λav tk k=>⟨λz=>d4.grown x (xg k z) ⟨rfl,rfl,?_⟩,e2,aP⟩
 show bg ρ _ (if b>a then _ else _)
 by_cases q:a<b
 ·exact G (aY q) (G (aY q) (⟨_,rfl⟩))
 ·exact G (a8 q) (G (a8 q) (⟨_,rfl⟩))
theorem XU(ok:bz Θ.fs (d+4) ah)(x:bD Θ Z ρ m H h):aa Θ ah Z ρ (PySem.call (.builtin "abs") [.int a t]) (dC m (.int a.natAbs) H) h:=by
 refine aa.any ok λA s a6 bA bT e1 e2 aP=>?_
 subst e1;refine PyProof.Rows.call_abs_int λu tk=>⟨.now x ⟨rfl,rfl,u,?_⟩,e2,aP⟩
 congr 1
 split
 ·exact Xe ‹_›
 ·exact(U6 (B5.mp ‹_›)).symm
theorem afY(ok:bz Θ.fs (d+4) ah)(x:bD Θ Z ρ m H h):aa Θ ah Z ρ (PySem.call (.builtin "isinstance") [.int a t,.type "int"]) (dC m (.bool ae) H) h:=by
 refine aa.any ok λA s a6 bA bT e1 e2 aP=>?_
 subst e1;exact PySem.IsiPair.int_int ⟨.now x ⟨rfl,rfl,rfl⟩,e2,aP⟩
end
section
variable {Q:aG->cn->Prop}
theorem afR:jp (.type "int") "__bytes__"=bK ac:=by refine G (iM ..) (G (iL ..) ?_);kernel_rfl
theorem Zj:jp (.type "bytearray") "__bytes__"=bK ac:=by refine G (iM ..) (G (iL ..) ?_);kernel_rfl
theorem Zk:jp (.type "bytearray") "__index__"=bK ac:=by refine G (iM ..) (G (iL ..) ?_);kernel_rfl
theorem aaq:jp (.type "bytes") "__bytes__"=bK (J (.builtin "bytes.__bytes__")):=by refine G (iM ..) (G (iL ..) ?_);kernel_rfl
section
variable {prog:uG}
theorem HI{x:aG}(h:cG (c8 prog w) A.in1.in1 (Builtin.«bytes.__new__» ⟨[.type "bytes",x],[]⟩) (λcq aS=>∃b t,cq=.done (.ret (.bytes b t))/\Q (.bytes b t) aS) E s):
  cG (c8 prog w) A (call (.type "bytes") [x]) Q E s:=by
 refine callType_codes (Q₁:=λmv eo=>eo.TypeIs mv "bytes"/\Q mv eo) F.bm_called (F.bm_typeCall _) F.entry_object_init ?_ λmv eo h₁=>?_
 ·refine Gv (bN (λ_=>hG (F.bm_newCall _)) (cL ⟨zE F.bm_plain _,NM F.bm_entry ?_⟩))
  refine G (Gh F.bm_plain _) (wI h (λcq aS eH=>mF eH λb t e q=>?_) λ_ _ e=>e)
  subst e;exact⟨PySem.W.typeIs_bytes _ _ _,q⟩
 ·exact⟨h₁.1,F.args_object_init_2 mv _,object_init_meets F.bm_called.init.lookup F.bm_called.made (by decide) prog w A.in1 _ eo ⟨h₁.1,rfl,h₁.2⟩⟩
theorem aap{n:Int}{u:Tok}(bu:0<=n)(ai:n<=65536)(h:Q (.bytes (Array.replicate n.toNat 0) s.toks) {s with toks:=s.toks+1}):
  cG (c8 prog w) A (Builtin.«bytes.__new__» ⟨[.type "bytes",.int n u],[]⟩) (λcq aS=>∃b t,cq=.done (.ret (.bytes b t))/\Q (.bytes b t) aS) E s:=by
 refine bN (λ_=>hG (a:=ae) rfl) (pf rfl (bN (λ_=>hG F.bm_sub) (pf rfl (bN (λ_=>hG (F.bm_bind _)) (bN (λ_=>hG (a:=()) rfl) (bN (λ_=>hG (a:=()) rfl) (pf rfl (bN (λ_=>ie (wH s n u) afR) (bN (λ_=>hG (a:=aA) rfl) (pf rfl (bN (λ_=>ie (wH s n u) int_index) (pf rfl (b4 (zJ (hG (a:=n) rfl ?_)))))))))))))))
 refine jt (by simp [wx];lia) (jt (B5.mpr ‹_›) (jt (by lia) (jt (by simp [Gk,k9];lia) ?_)))
 refine bN (λ_=>rK) (b4 (GF ?_ (by simp [k9];lia)))
 exact Cx (by decide) (cL ⟨_,_,rfl,h⟩)
theorem aao{b:Array UInt8}{u:Tok}(h:Q (.bytes b u) s):
  cG (c8 prog w) A (Builtin.«bytes.__new__» ⟨[.type "bytes",.bytes b u],[]⟩) (λcq aS=>∃b t,cq=.done (.ret (.bytes b t))/\Q (.bytes b t) aS) E s:=by
 refine bN (λ_=>hG (a:=ae) rfl) (pf rfl (bN (λ_=>hG F.bm_sub) (pf rfl (bN (λ_=>hG (F.bm_bind _)) (bN (λ_=>hG (a:=()) rfl) (bN (λ_=>hG (a:=()) rfl) (pf rfl (bN (λ_=>ie (PySem.W.typeIs_bytes s b u) aaq) (bN (λ_=>rK) (b4 (tc (PySem.W.typeIs_bytes s b u) ?_)))))))))))
 exact Cx (by decide) (Cx (by decide) (cL ⟨_,_,rfl,h⟩))
theorem aan{a:a1}{l:List UInt8}(aR:s.heap.get? a=J (jW l))(aq:l.length<=65536)(h:Q (.bytes l.toArray s.toks) {s with toks:=s.toks+1}):
  cG (c8 prog w) A (Builtin.«bytes.__new__» ⟨[.type "bytes",.ref a],[]⟩) (λcq aS=>∃b t,cq=.done (.ret (.bytes b t))/\Q (.bytes b t) aS) E s:=by
 have gm:s.TypeIs (.ref a) "bytearray":=⟨_,aR,rfl⟩;refine bN (λ_=>hG (a:=ae) rfl) (pf rfl (bN (λ_=>hG F.bm_sub) (pf rfl (bN (λ_=>hG (F.bm_bind _)) (bN (λ_=>hG (a:=()) rfl) (bN (λ_=>hG (a:=()) rfl) (pf rfl (bN (λ_=>ie gm Zj) (b4 (b4 ?_))))))))))
 refine bN (λ_=>GC aR) (cL (cL ?_))
 refine pf rfl (bN (λ_=>ie gm Zk) (Cx rfl (bN (λ_=>aqW aR) ?_)))
 refine bN (λ_=>rK) (b4 (GF ?_ (by simp [k9];lia)))
 exact Cx (by decide) (cL ⟨_,_,rfl,h⟩)
end
end
variable {Q:aG->cn->Prop}
section
variable {prog:uG}
abbrev Gf(b:Array UInt8):Nat->aG->Prop:=λi v=>∃c u,b[i]? =J c/\v=.int (c.toNat:Int) u
theorem aqX{R:Result->cn->Prop}(a6:A.handled=ac)(x:Array UInt8)(t:Tok)(S:a1)(xy:aG)(ace:Nat)(pz:s.heap.get? S=J {cls:=.type "list",data:=.seq #[] ace})
  (tD:∀av tk lL c',(∀b o,b≠S->s.heap.get? b=J o->av.get? b=J o)->av.get? S=J {cls:=.type "list",dict:=ac,data:=.seq lL c',slots:= #[]}->
   ItemsOf (Gf x) lL x.size->R (.ok (.ret xy)) {s with heap:=av,toks:=tk}) (hn:x.size<=mh):
  cG (c8 prog w) A.in1 (NF (.ref S) (.bytes x t) xy)
   (λcq aS=>match cq with | .done f=>R (.ok f) aS| .again c'=>c'.quiet=ae/\codeAny (c8 prog w) A c' R aS) (λe aS=>R (.error e) aS) s:=by
 have aev:S≠s.heap.objs.size:=mf (gE pz);have aew:S∉ [s.heap.objs.size]:=λbc=>aev (jk.mp bc)
 refine b4 (tc (T:="bytes") (v:=.bytes x t) rfl ?_);have ai:Builtin.List.listSameRef (.ref S) (.bytes x t)=aA:=rfl;have ak:(Gp "bytes"==Gp "list")=aA:=by decide
 have aZ:(Gp "bytes"==Gp "tuple")=aA:=by decide
 refine bN (λ_=>KBw.pyIter_bytes) (b4 (rJ ?_))
 refine bN (λ_=>ie (T:="bytes") (v:=.bytes x t) rfl FB.slot_bytes_len.lookup) ?_
 wp_delta
 refine bN (λ_=>s9 (T:="bytes") (v:=.bytes x t) (b:=ae) rfl (by refine G (rH ..) ?_;kernel_rfl)) ?_
 show cG _ _ (typeOf (Value.bytes x t)>>=_) _ _ _
 refine bN (λ_=>tc (T:="bytes") (v:=.bytes x t) rfl) (cL (jt (by decide) (cL ⟨zE F.plain_extend_loop _,codeAny_extend_loopS (KBw.walks (A:=A.in1) a6 s.heap.objs.size x t).toS hn _ aew _ x.size 0 _ _ _ rfl (hf _) ⟨_,hU _ rfl,rfl,rfl⟩ (k6 _ pz) (ItemsOf.nil _) λaS lL c' bc Au Av=>?_⟩)))
 refine G (Moved.eq_with bc) (tD aS.heap aS.toks lL c' (λb m6 hb e=>bc.heap b m6 (λIU=>?_) (k6 _ e)) Au Av)
 rcases fw.mp IU with cU|IU
 ·exact hb cU
 ·exact absurd (gE e) (G (jk.mp IU) (jn _))
theorem aqY{R:Result->cn->Prop}(a6:A.handled=ac)(x:Array UInt8)(t:Tok)(S:a1)(pz:s.heap.get? S=J {cls:=.type "list",data:=.seq #[]})
  (tD:∀av tk lL c',(∀b o,b≠S->s.heap.get? b=J o->av.get? b=J o)->av.get? S=J {cls:=.type "list",dict:=ac,data:=.seq lL c',slots:= #[]}->
   ItemsOf (Gf x) lL x.size->R (.ok (.ret .none)) {s with heap:=av,toks:=tk}) (hn:x.size<=mh):
  cG (c8 prog w) A.in1 (Builtin.«list.__init__» ⟨[.ref S,.bytes x t],[]⟩)
   (λcq aS=>match cq with | .done f=>R (.ok f) aS| .again c'=>c'.quiet=ae/\codeAny (c8 prog w) A c' R aS) (λe aS=>R (.error e) aS) s:=by
 show cG _ _ (do let nJ <-Builtin.List.listItems (.ref S);Builtin.List.listUpdate (.ref S) (λ_=> #[]);letGo nJ.toList.reverse;NF (.ref S) (.bytes x t) .none) _ _ s
 refine b4 (bN (λ_=>GG pz rfl) (cL ?_))
 show cG _ _ (updateSeq S (λ_=> #[])>>=λ_=>letGo (#[]:Array aG).toList.reverse>>=λ_=>NF (.ref S) (.bytes x t) .none) _ _ s
 refine bN (λ_=>wpAny_updateSeq pz rfl) ?_
 have aex:=s0 (rB (λ_=>(#[]:Array aG))) pz rfl
 have ai7:∀b o,b≠S->s.heap.get? b=J o->(s.heap.update S (rB (λ_=>(#[]:Array aG)))).get? b=J o:=
  λb o hb e=>(uE _ _ (Cm hb)).trans e
 exact bN (λ_=>wpAny_letGo) (aqX (hn:=hn) a6 x t S .none _ aex λav tk lL c' hk Au Av=>tD av tk lL c' (λb o hb e=>hk b o hb (ai7 b o hb e)) Au Av)
theorem abD{Q:aG->cn->Prop}(a6:A.handled=ac)(x:Array UInt8)(t:Tok)
  (jG:∀av tk lL c',(∀b o,s.heap.get? b=J o->av.get? b=J o)->
   av.get? s.heap.objs.size=J {cls:=.type "list",dict:=ac,data:=.seq lL c',slots:= #[]}->ItemsOf (Gf x) lL x.size->Q (.ref s.heap.objs.size) {s with heap:=av,toks:=tk}) (hn:x.size<=mh):
  cG (c8 prog w) A (call (.type "list") [.bytes x t]) Q E s:=by
 refine callType_codes (Q₁:=λmv eo=>mv=.ref s.heap.objs.size/\eo= {s with heap:=s.heap.push {cls:=.type "list",data:=.seq #[]}}) F.called_list (F.typeCall_list_1 _) F.entry_list_init
  (code_list_new _ ⟨rfl,rfl⟩) λmv eo h₁=>?_
 refine cz h₁ λajw ajx=>?_;obtain rfl:=ajw;obtain rfl:=ajx
 have pz:(s.heap.push {cls:=.type "list",data:=.seq #[]}).get? s.heap.objs.size=J {cls:=.type "list",data:=.seq #[]}:=hU _ rfl;refine⟨⟨_,pz,rfl⟩,F.args_list_init_2 _ _,aqY (A:=A.in1) (hn:=hn) a6 x t _ pz λav tk lL c' hk Au Av=>?_⟩
 exact⟨rfl,jG av tk lL c' (λb o e=>hk b o (mf (gE e)) (k6 _ e)) Au Av⟩
end
section
variable {a:L}{aB:aG}
theorem All2.of_get{ay bF:Type}{R:ay->bF->Prop}:∀ {l:List ay} {m:List bF},l.length=m.length->(∀(i:Nat) a b,l[i]? =J a->m[i]? =J b->R a b)->All2 R l m:=by
 intro l;induction l with
 |nil=>
  intro m e k;rcases m with _|⟨b,m⟩
  ·exact .nil
  ·exact Nat.noConfusion e
 |cons a l ih=>
  intro m e k;rcases m with _|⟨b,m⟩
  ·exact Nat.noConfusion e
  ·exact .cons (k 0 a b rfl rfl) (ih (M3 e) λi a b ai ak=>k (i+1) a b ai ak)
theorem aai{n:Int}{t:Tok}(ok:bz Θ.fs (d+4) ah)(x:bD Θ Z ρ m H h)(bu:0<=n)(ai:n<=65536):aa Θ ah Z ρ (PySem.call (.type "bytes") [.int n t]) (dC m (.bytes (f9 n.toNat 0)) H) h:=by
 refine aa.any ok λA s a6 bA bT e1 e2 aP=>?_
 subst e1;refine HI (aap (Q:=λv aS=>d4 Θ Z ρ s.heap (dC m (.bytes (f9 n.toNat 0)) H) v aS.heap/\aS.gens= #[]/\aS.os=Θ.O) bu ai ?_)
 exact⟨.now x ⟨rfl,rfl,s.toks,by simp⟩,e2,aP⟩
theorem aah{l:List UInt8}(ok:bz Θ.fs (d+4) ah)(x:bD Θ Z ρ m H h)(aR:bg ρ (.bytes l) o'):aa Θ ah Z ρ (PySem.call (.type "bytes") [o']) (dC m (.bytes l) H) h:=by
 refine cm aR λt ajy=>?_;obtain rfl:=ajy
 refine aa.any ok λA s a6 bA bT e1 e2 aP=>?_
 subst e1;refine HI (aao (Q:=λv aS=>d4 Θ Z ρ s.heap (dC m (.bytes l) H) v aS.heap/\aS.gens= #[]/\aS.os=Θ.O) ?_)
 exact⟨.now x ⟨rfl,rfl,t,rfl⟩,e2,aP⟩
theorem aag{l:List UInt8}(ok:bz Θ.fs (d+4) ah)(x:bD Θ Z ρ m H h)(aR:bg ρ (.new i) o')(hi:H[i]? =J (.ba l))(aq:bH l.length=ae):aa Θ ah Z ρ (PySem.call (.type "bytes") [o']) (dC m (.bytes l) H) h:=by
 obtain⟨p,hp,rfl⟩:=aR;obtain⟨-,-,bj⟩:=x.rel.obj _ _ _ hp hi;refine aa.any ok λA s a6 bA bT e1 e2 aP=>?_
 subst e1;refine HI (aan (Q:=λv aS=>d4 Θ Z ρ s.heap (dC m (.bytes l) H) v aS.heap/\aS.gens= #[]/\aS.os=Θ.O) bj (fE aq) ?_)
 exact⟨.now x ⟨rfl,rfl,s.toks,rfl⟩,e2,aP⟩
theorem aiU{vs:List aG}(x:All2 (bg ρ) l vs):∀ {bs:List UInt8},bR l=J bs->∃ns,IntsAre vs ns/\(∀n∈ns,0<=n/\n<256)/\(ns.map λn=>n.toNat.toUInt8)=bs:=by
 induction x with
 |nil=>intro bs e;obtain rfl:=ci e;exact⟨[],.nil,(λ_ h=>absurd h jl),rfl⟩
 | @cons v aJ l vs r q ih=>
  intro bs e;have e:(match oL v,bR l with |J c,J r=>J (c::r)|_,_=>ac)=J bs:=e
  split at e
  ·rename_i c fR e1 e2;obtain rfl:=ci e;refine kT (ih e2) λns kM lQ vl=>?_
   induction v using Mine.Internal.L.casesOn with
   |int i=>
    have e1:(if 0<=i/\i<256 then J (hV i.toNat) else ac)=J c:=e1
    split at e1
    ·rename_i hi;obtain rfl:=ci e1;refine cm r λt ajz=>?_;obtain rfl:=ajz
     refine⟨i::ns,.cons i t kM,λn hn=>?_,by(exact G h9 (G vl rfl))⟩
     rcases fw.mp hn with rfl|hn
     ·exact hi
     ·exact lQ n hn
    ·exact br e1
   |_=>exact br e1
  ·exact br e
theorem aaj{bs:List UInt8}(ok:bz Θ.fs (d+4) ah)(x:bD Θ Z ρ m H h)(aR:bg ρ (.new i) o')(hi:H[i]? =J (.list l))(aq:bH l.length=ae)(e:bR l=J bs):
  aa Θ ah Z ρ (PySem.call (.type "bytes") [o']) (dC m (.bytes bs) H) h:=by
 refine kA (AY x.rel (.inl hi) aR) λa vs ajA bj r=>?_;obtain rfl:=ajA
 refine kT (aiU r e) λns kM lQ vl=>aa.anyS ok λA s a6 bA bT e1 e2 aP=>?_
 subst e1;refine call_bytes_ints bj kM lQ (cT r.length (oC aq)) a6 λav t fO k=>⟨λz=>d4.grown x (xg k z) ⟨rfl,rfl,t,?_⟩,e2,aP⟩
 unfold byteArr;(exact G vl rfl)
theorem ahc{l:List UInt8}(ok:bz Θ.fs (d+4) ah)(x:bD Θ Z ρ m H h)(aR:bg ρ (.bytes l) o')(aq:bH l.length=ae):aa Θ ah Z ρ (PySem.call (.type "list") [o']) (dC m (.new H.length) (H++[.list (l.map di)])) h:=by
 refine cm aR λt ajB=>?_;obtain rfl:=ajB
 refine aa.anyS ok λA s a6 bA bT e1 e2 aP=>?_
 subst e1;refine abD a6 l.toArray t (λav tk lL c' k aB it=>⟨λz=>?_,e2,aP⟩) (G iA (oC aq))
 refine d4.added x (xg k z) (p:=(s.heap.objs.size,s.heap.objs.size)) (cW _) (cW _) (o:=.list (l.map di)) ⟨rfl,lL.toList,c',by simpa using aB,.of_get ?_ λj a b ai ak=>?_⟩ ⟨rfl,rfl,bg.last x.len⟩
 ·have :=it.1;simpa using this.symm
 ·refine mF (it.2 j b (by simpa using ak)) λc u jD iO=>?_
  have jD:l[j]? =J c:=by simpa using jD
  rw [kZ,jD] at ai;obtain rfl:=ci ai;exact⟨u,iO⟩
theorem ahd(ok:bz Θ.fs (d+4) ah)(x:bD Θ Z ρ m H h)(aR:bg ρ (.new i) o')(hi:H[i]? =J (.list l))(aq:bH l.length=ae):aa Θ ah Z ρ (PySem.call (.type "list") [o']) (dC m (.new H.length) (H++[.list l])) h:=by
 obtain⟨p,hp,rfl⟩:=aR;obtain⟨-,vs,n,bj,r⟩:=x.rel.obj _ _ _ hp hi;refine aa.anyS ok λA s a6 bA bT e1 e2 aP=>?_
 subst e1;refine call_list_seq p.1 (.inl rfl) bj rfl rfl (λav c' k aB=>⟨λz=>?_,e2,aP⟩) (G iA (cT r.length (oC aq)))
 exact d4.added x (xg k z) (p:=(s.heap.objs.size,s.heap.objs.size)) (cW _) (cW _) (o:=.list l) ⟨rfl,vs,c',aB,r.mono λ_ _ r=>r.sub ⟨_,rfl⟩⟩ ⟨rfl,rfl,bg.last x.len⟩
theorem afS{vs:List aG}(x:All2 (bg ρ) l vs)(e:l.all isInt=ae):∃ns,IntsAre vs ns/\l=ns.map L.int:=by
 induction x with
 |nil=>exact⟨[],.nil,rfl⟩
 | @cons v aJ l vs r q ih=>
  rw [wk,he] at e;refine bU (ih e.2) λns kM lQ=>?_
  induction v using Mine.Internal.L.casesOn with
  |int i=>
   refine cm r λt ajC=>?_;obtain rfl:=ajC
   exact⟨i::ns,.cons i t kM,G lQ rfl⟩
  |_=>cases e.1
theorem PR:∀(ns acc:List Int),rW (ns.map L.int) (acc.map L.int)=(ns.foldl step_dedup acc).map L.int
 | [],acc=>rfl
 |n::ns,acc=>by
  refine G h9 ?_;rw [PP];refine G List.foldl_cons (cT (PR ns (step_dedup acc n)) ?_);congr 1
  unfold step_dedup;have :(acc.map L.int).contains (L.int n)=acc.any (· ==n):=by
   refine fB t6 ?_;simp [List.any_eq_true]
  refine G this ?_;split<;>simp_all
theorem range_getD(ns:List Int):(nn ns.length).map (λi=>ns.getD i 0)=ns:=by
 apply F0
 intro i;refine G kZ ?_;by_cases hi:i<ns.length
 ·refine G (B7 hi) ?_;simp [List.getD,iy hi]
 ·exact G (mP (by simp;exact wo hi)) (G (mP (wo hi)) rfl)
theorem aof(ok:bz Θ.fs (d+4) ah)(x:bD Θ Z ρ m H h)(aR:bg ρ (.new i) o')(hi:H[i]? =J (.list l))(aq:l.length<=4000)(ha:l.all isInt=ae):
  aa Θ ah Z ρ (PySem.call (.type "set") [o']) (dC m (.new H.length) (H++[.set (rW l [])])) h:=by
 refine kA (AY x.rel (.inl hi) aR) λa vs ajD bj r=>?_;obtain rfl:=ajD
 refine bU (afS r ha) λns kM lQ=>?_
 have ek:=r.length;have j0:=kM.length;refine aa.anyS ok λA s a6 bA bT e1 e2 aP=>?_
 subst e1;refine call_set_list a6 bj (ns:=ns) (by simpa using kM) (by simp [scanBound];lia) λav tk pz k=>⟨λz=>?_,e2,aP⟩
 refine asi pz λo aH ii t aB ex jZ _ _ _ qA adn=>?_
 have kt:∀b o,s.heap.get? b=J o->av.get? b=J o:=λb o e=>k b o (gE e) e
 refine d4.added x (xg kt z) (p:=(s.heap.objs.size,s.heap.objs.size)) (cW _) (cW _) (o:=.set (rW l [])) ⟨rfl,o,aH,ii,t,aB,ex,jZ,qA,?_⟩ ⟨rfl,rfl,bg.last x.len⟩;rw [adn,lQ];have :=PR ns [];rw [MS] at this;(rewrite [this];rw [d0]);unfold firstMet;(exact G iA (G j0 (G (range_getD ..) rfl)))
theorem ag6(ok:bz Θ.fs (d+4) ah)(x:bD Θ Z ρ m H h)(ra:bg ρ a db)(e:JC a H=J (v,bb)):aa Θ ah Z ρ (PySem.call (.builtin "len") [db]) (dC m v bb) h:=by
 rcases a<;>first |exact br e|skip
 ·exact dR e λaq e=>lX e λaM a7=>by subst aM a7;exact ag8 ok x ra aq
 ·refine gb e λo bX e=>?_
  rcases o<;>first |exact br e|exact dR e λaq e=>lX e λaM a7=>by subst aM a7;first |exact ag9 ok x ra bX aq|exact ahb ok x ra bX aq|exact ag7 ok x ra bX aq
theorem aam(ok:bz Θ.fs (d+4) ah)(x:bD Θ Z ρ m H h)(ra:bg ρ a db)(e:G9 a H=J (v,bb)):aa Θ ah Z ρ (PySem.call (.type "bytes") [db]) (dC m v bb) h:=by
 rcases a<;>first |exact br e|skip
 ·exact dR e λaD e=>lX e λaM a7=>by
   subst aM a7;refine cm ra λt q=>?_
   subst q;exact aai ok x aD.1 aD.2
 ·exact dR e λaq e=>lX e λaM a7=>by subst aM a7;exact aah ok x ra
 ·refine gb e λo bX e=>?_
  rcases o<;>first |exact br e|skip
  ·refine dR e λaq e=>bU (rz.mp e) λw iO z=>oN z λaM a7=>?_
   subst aM a7;exact aaj ok x ra bX aq iO
  ·exact dR e λaq e=>lX e λaM a7=>by subst aM a7;exact aag ok x ra bX aq
theorem Zg(ok:bz Θ.fs (d+4) ah)(x:bD Θ Z ρ m H h)(ra:bg ρ a db)(e:GZ a H=J (v,bb)):aa Θ ah Z ρ (PySem.call (.type "bytearray") [db]) (dC m v bb) h:=by
 induction a using Mine.Internal.L.casesOn with
 |int n=>
  have e:(if 0<=n/\n<=65536 then J (L.new H.length,H++[bt.ba (f9 n.toNat 0)]) else ac)=J (v,bb):=e
  split at e
  ·rename_i aD;refine lX e λajE ajF=>?_;obtain rfl:=ajE;obtain rfl:=ajF
   refine cm ra λt ajG=>?_;obtain rfl:=ajG
   exact G1 (src:=J (.int _ t)) ok x (by simp only [xF];(exact G (aY aD) rfl))
  ·exact br e
 |bytes l=>
  have e:(if bH l.length then J (L.new H.length,H++[bt.ba l]) else ac)=J (v,bb):=e
  split at e
  ·rename_i aD;refine lX e λajH ajI=>?_;obtain rfl:=ajH;obtain rfl:=ajI
   refine cm ra λt ajJ=>?_;obtain rfl:=ajJ
   have :=fE aD;exact G1 (src:=J (.bytes _ t)) ok x (by simp only [xF];(exact G (aY (by simpa using this)) rfl))
  ·exact br e
 |_=>exact br e
theorem aok(ok:bz Θ.fs (d+4) ah)(x:bD Θ Z ρ m H h)(ra:bg ρ a db)(e:K7 a H=J (v,bb)):aa Θ ah Z ρ (PySem.call (.type "set") [db]) (dC m v bb) h:=by
 induction a using Mine.Internal.L.casesOn with
 |new i=>
  refine gb e λl ek e=>?_
  split at e
  ·rename_i aD;refine lX e λajK ajL=>?_;obtain rfl:=ajK;obtain rfl:=ajL
   simp only [he,decide_eq_true_eq] at aD;exact aof ok x ra (xi ek) aD.1 aD.2
  ·exact br e
 |_=>exact br e
theorem ahe(ok:bz Θ.fs (d+4) ah)(x:bD Θ Z ρ m H h)(ra:bg ρ a db)(e:JE a H=J (v,bb)):aa Θ ah Z ρ (PySem.call (.type "list") [db]) (dC m v bb) h:=by
 induction a using Mine.Internal.L.casesOn with
 |bytes l=>
  have e:(if bH l.length then J (L.new H.length,H++[bt.list (l.map di)]) else ac)=J (v,bb):=e
  split at e
  ·refine lX e λajM ajN=>?_;obtain rfl:=ajM;obtain rfl:=ajN;exact ahc ok x ra ‹_›
  ·exact br e
 |new i=>
  refine gb e λl ek e=>?_
  split at e
  ·refine lX e λajO ajP=>?_;obtain rfl:=ajO;obtain rfl:=ajP;exact ahd ok x ra (xi ek) ‹_›
  ·exact br e
 |_=>exact br e
theorem ZW(ok:bz Θ.fs (d+4) ah)(x:bD Θ Z ρ m H h)(ra:bg ρ a db)(e:O4 aB a H=J (v,bb)):aa Θ ah Z ρ (PySem.call aB [db]) (dC m v bb) h:=by
 induction aB using PySem.Value.casesOn with
 |builtin s=>
  have e:(if s="len" then JC a H else if s="abs" then ON a H else ac)=J (v,bb):=e
  split at e
  ·rename_i q;subst q;exact ag6 ok x ra e
  ·split at e
   ·rename_i q;subst q;induction a using Mine.Internal.L.casesOn with
    |int n=>
     cases e;refine cm ra λt ajQ=>?_;obtain rfl:=ajQ
     exact XU ok x
    |_=>exact br e
   ·exact br e
 |type s=>
  have e:(if s="bytes" then G9 a H else if s="bytearray" then GZ a H else if s="set" then K7 a H else if s="list" then JE a H else ac)=J (v,bb):=e
  split at e
  ·rename_i q;subst q;exact aam ok x ra e
  ·split at e
   ·rename_i q;subst q;exact Zg ok x ra e
   ·split at e
    ·rename_i q;subst q;exact aok ok x ra e
    ·split at e
     ·rename_i q;subst q;exact ahe ok x ra e
     ·exact br e
 |_=>exact br e
theorem ZX{b:L}{ck:aG}(ok:bz Θ.fs (d+4) ah)(x:bD Θ Z ρ m H h)(ra:bg ρ a db)(rb:bg ρ b ck)(e:O5 aB a b H=J (v,bb)):aa Θ ah Z ρ (PySem.call aB [db,ck]) (dC m v bb) h:=by
 induction aB using PySem.Value.casesOn with
 |builtin s=>
  induction a using Mine.Internal.L.casesOn with
  |int n=>
   refine cm ra λt ajR=>?_;obtain rfl:=ajR
   by_cases q:s="isinstance"
   ·subst q;have e:(if Jg b then J (L.bool ae,H) else ac)=J (v,bb):=e
    split at e
    ·rename_i q;refine lX e λajS ajT=>?_;obtain rfl:=ajS;obtain rfl:=ajT
     induction b using Mine.Internal.L.casesOn with
     |st w=>
      induction w using PySem.Value.casesOn with
      |type s=>
       have q:(s=="int")=ae:=q;rw [beq_iff_eq] at q;subst q;cases rb;exact afY ok x
      |_=>exact b8 q
     |_=>exact b8 q
    ·exact br e
   ·have e:(if s="isinstance" then(if Jg b then J (L.bool ae,H) else ac) else RH s n b H)=J (v,bb):=e
    rw [a8 q] at e;induction b using Mine.Internal.L.casesOn with
    |int y=>
     refine cm rb λu ajU=>?_;obtain rfl:=ajU
     have e:(if s="min" then J (L.int (if y<n then y else n),H) else if s="max" then J (L.int (if n<y then y else n),H) else ac)=J (v,bb):=e
     split at e
     ·rename_i q;subst q;cases e;exact ahQ ok x
     ·split at e
      ·rename_i q;subst q;cases e;exact ahM ok x
      ·exact br e
    |_=>exact br e
  |_=>exact br e
 |_=>exact br e
theorem agS{vs:List L}{vs':List aG}(ok:bz Θ.fs (d+4) ah)(x:bD Θ Z ρ m H h)(hv:All2 (bg ρ) vs vs')(e:cI aB vs H=J (v,bb)):aa Θ ah Z ρ (PySem.call aB vs') (dC m v bb) h:=by
 induction hv using Mine.Internal.All2.casesOn with
 |nil=>
  induction aB using PySem.Value.casesOn with
  |type s=>
   have e:(if s="bytearray" then J (L.new H.length,H++[bt.ba []]) else ac)=J (v,bb):=e
   split at e
   ·rename_i q;subst q;cases e;exact G1 (src:=ac) ok x rfl
   ·exact br e
  |_=>exact br e
 |cons ra q=>induction q using Mine.Internal.All2.casesOn with
  |nil=>exact ZW ok x ra e
  |cons rb q=>induction q using Mine.Internal.All2.casesOn with
   |nil=>exact ZX ok x ra rb e
   |cons _ _=>exact br e
end
section
variable {c:l8}{f:a1}{n:Str}{o:L}
theorem agQ{j:Nat}{a b:List L}(ok:bz Θ.fs (d+4) ah)(x:bD Θ Z ρ m H h)(ha:bg ρ (.new i) db)(hb:bg ρ (.new j) ck)(hi:H[i]? =J (.list a))(cY:H[j]? =J (.list b))(aq:bH (a.length+b.length)=ae):
  aa Θ ah Z ρ (zB .Add db ck) (dC m (.new H.length) (H++[.list (a++b)])) h:=by
 obtain⟨p,hp,rfl⟩:=ha;obtain⟨q,cJ,rfl⟩:=hb;obtain⟨-,vs,n,ai,b9⟩:=x.rel.obj _ _ _ hp hi;obtain⟨iE,AL,-,gr,n2,ak,dG⟩:=x.rel.get cY;rw [cJ] at AL;obtain rfl:=ci AL;have hs:vs.length+gr.length<=65536:=by
  have :a.length+b.length<=65536:=by simpa [bH] using aq
  exact cT b9.length (cT dG.length this)
 refine aa.any ok λA s a6 bA bT e1 e2 aP=>?_
 subst e1;refine concat_meets ⟨_,ai,rfl⟩ ⟨_,ak,rfl⟩ noFill_list_add seq_list_add PySem.F.slot_list_add PySem.F.entry_list_add (PySem.F.args_list_add_2 _ _) (list_addW p.1 q.1 vs.toArray gr.toArray n n2 ac ac #[] #[] (by simp [k9];lia)) ⟨ai,ak,?_⟩
 refine⟨?_,e2,aP⟩;have sub:Sub ρ (ρ++[(s.heap.objs.size,s.heap.objs.size)]):=⟨_,rfl⟩;have jD:vs.toArray++gr.toArray=(vs++gr).toArray:=by simp
 refine G jD (d4.added x (.push _ _) (o:=.list (a++b)) (p:=(s.heap.objs.size,s.heap.objs.size)) (cW _) (cW _) ⟨rfl,vs++gr,0,hU _ rfl,(b9.append dG).mono λ_ _ r=>r.sub sub⟩ ⟨rfl,rfl,.last x.len⟩)
theorem agY{n:Int}{a:List L}(ok:bz Θ.fs (d+4) ah)(x:bD Θ Z ρ m H h)(ha:bg ρ (.new i) db)(hb:bg ρ (.int n) ck)(hi:H[i]? =J (.list a))(aq:bH (a.length*n.toNat)=ae)(hn:cH n=ae):
  aa Θ ah Z ρ (zB .Mult db ck) (dC m (.new H.length) (H++[.list (f9 n.toNat a).flatten])) h:=by
 obtain⟨p,hp,rfl⟩:=ha;refine cm hb λu akl=>?_;obtain rfl:=akl
 obtain⟨-,vs,k,ai,b9⟩:=x.rel.obj _ _ _ hp hi;have hs:vs.toArray.size*n.toNat<=65536:=by
  have :a.length*n.toNat<=65536:=by simpa [bH] using aq
  exact G iA (cT b9.length this)
 have lm:n.natAbs<2^62:=by simpa [cH] using hn
 have anU:∀c:Nat,All2 (bg ρ) (f9 c a).flatten (f9 c vs).flatten:=λc=>by
  induction c with
  |zero=>exact .nil
  |succ c ih=>(refine G Cc (G Cc (G MN (G MN ?_))));exact b9.append ih
 refine aa.any ok λA s a6 bA bT e1 e2 aP=>?_
 subst e1;refine wpAny_binaryOp_repeat_ref (T:="list") (U:="int") (by decide) ⟨_,ai,rfl⟩ (λaS=>wH aS n u) noFill_list_mul F.fills_int_mul F.slot_int_rmul repeat_list F.slot_int_index.lookup
  (call_meets F.slot_int_rmul (wH s n u) F.entry_int_rmul (F.args_int_rmul_2 _ _) (lm_int_rmul_list_any n u p.1 vs.toArray k ac #[])
   ⟨ai,rfl,⟨_,ai,rfl⟩,call_meets F.slot_list_mul ⟨_,ai,rfl⟩ F.entry_list_mul (F.args_list_mul_2 _ _)
    (lm_list_mul_any p.1 vs.toArray k ac #[] n u (by simp [VB];exact XC lm) (by lia) (by simp [Builtin.List.listTooLong,mh];simp at hs;lia))
    ⟨ai,?_⟩⟩)
 refine⟨?_,e2,aP⟩;have sub:Sub ρ (ρ++[(s.heap.objs.size,s.heap.objs.size)]):=⟨_,rfl⟩;refine G (listMul_foldl_if ..) (d4.added x (.push _ _) (o:=.list (f9 n.toNat a).flatten) (p:=(s.heap.objs.size,s.heap.objs.size)) (cW _) (cW _) ⟨rfl,(f9 n.toNat vs).flatten,0,hU _ rfl,(anU _).mono λ_ _ r=>r.sub sub⟩ ⟨rfl,rfl,.last x.len⟩)
theorem agR{bM:oh}{a b:L}(ok:bz Θ.fs (d+4) ah)(x:bD Θ Z ρ m H h)(ha:bg ρ a db)(hb:bg ρ b ck)(e:a5 bM a b H=J (v,bb)):
  aa Θ ah Z ρ (zB bM db ck) (dC m v bb) h:=by
 have aiC:∀ {i j:Int},a=.int i->b=.int j->aa Θ ah Z ρ (zB bM db ck) (dC m v bb) h:=λ{i j} aM a7=>by
  subst aM a7;refine cm ha λt akm=>?_;obtain rfl:=akm
  refine cm hb λu akn=>?_;obtain rfl:=akn
  exact(aoF (k:=λkb kB=>kb=v/\kB=bb) ok x e ⟨rfl,rfl⟩).mono λaJ bG dF bI eH=>Mn eH λaM kb a7 q3 iF=>⟨aM,iF,q3▸a7⟩
 induction a using Mine.Internal.L.casesOn with
 |int a=>induction b using Mine.Internal.L.casesOn with
  |int b=>exact aiC rfl rfl
  |_=>exact br e
 |bytes a=>induction b using Mine.Internal.L.casesOn with
  |bytes b=>induction bM using PySem.Operator.casesOn with
   |Add=>
    have e:(if bH (a.length+b.length) then J (L.bytes (a++b),H) else ac)=J (v,bb):=e
    refine dR e λaq e=>?_
    refine lX e λako akp=>?_;obtain rfl:=ako;obtain rfl:=akp;exact agP ok x ha hb aq
   |_=>exact br e
  |_=>exact br e
 |new i=>induction b using Mine.Internal.L.casesOn with
  |new j=>induction bM using PySem.Operator.casesOn with
   |Add=>
    refine gb e λa hi e=>gb e λb cY e=>dR e λaq e=>?_
    refine lX e λakq akr=>?_;obtain rfl:=akq;obtain rfl:=akr;exact agQ ok x ha hb (xi hi) (xi cY) aq
   |_=>exact br e
  |int n=>induction bM using PySem.Operator.casesOn with
   |Mult=>
    refine gb e λa hi e=>dR e λaq e=>?_
    rw [he] at aq;refine lX e λakt aku=>?_;obtain rfl:=akt;obtain rfl:=aku;exact agY ok x ha hb (xi hi) aq.1 aq.2
   |_=>exact br e
  |_=>exact br e
 |_=>exact br e
theorem Rq{bM:oh}{a b:Int}(hop:zT bM=ae)(ok:bz Θ.fs (d+4) ah)(x:bD Θ Z ρ m H h)(ha:bg ρ (.int a) db)(hb:bg ρ (.int b) ck)(e:a5 bM (.int a) (.int b) H=J (v,bb)):
  aa Θ ah Z ρ (inplaceOp bM db ck) (dC m v bb) h:=by
 refine cm ha λt akv=>?_;obtain rfl:=akv
 refine cm hb λu akw=>?_;obtain rfl:=akw
 refine aa.any ok λA s a6 bA bT e1 e2 aP=>?_
 subst e1;rcases bM<;>first |(cases hop;done)|skip
 ·cases e;exact P.iadd_int ⟨.now x ⟨rfl,rfl,_,rfl⟩,e2,aP⟩
 ·cases e;exact P.isub_int ⟨.now x ⟨rfl,rfl,_,rfl⟩,e2,aP⟩
def rQ:List Str:=[iY,mG,z "inodes",z "log",lA,jc,eP,z "indirect",z "log_start",BM,BL,v7,eB,bS,iZ,z "kind",z "major",z "minor",z "links",dH,eC,hl,fU,hO,z "table",gf,nc,dP,nZ,sD,z "hits",z "reads",eX,z "kept",z "latest",pY,pX,z "last",yP,z "is_dead",q8,z "each",e5,t0,mH,sE]
noncomputable def uZ:List a1:=[539,658,754,865,192,281,441]
def z7(P:cB)(c:a1):Bool:=hasDictIn (dk P) c&&plainOver (dk P) c&&nr (dk P) (.ref c) "__getattribute__"==J (J (.builtin "object.__getattribute__"))&&nr (dk P) (.ref c) "__getattr__"==J ac&&
 nr (dk P) (.ref c) "__setattr__"==J (J (.builtin "object.__setattr__"))&&rQ.all λn=>nr (dk P) (.ref c) n==J ac
theorem abS(P:cB):uZ.all (z7 P)=ae:=by kernel_rfl
theorem Qn{ρ:cr}{aN:List (Str×L)}{aH:List hT}(x:All2 (zS ρ) aN aH):match cy aN n with |J v=>∃aJ,getL n aH=J (J aJ)/\bg ρ v aJ|ac=>getL n aH=J ac:=by
 induction x with
 |nil=>rfl
 | @cons a e l aH h _ ih=>
  obtain⟨y,v⟩:=a;refine cz h λakx r=>?_;refine cm akx λt hk=>?_
  refine G (show cy ((y,v)::l) n=if y=n then J v else cy l n from rfl) ?_
  unfold getL at ih⊢;refine G List.find?_cons (G zl ?_);have da:e.refKey=aA:=by simp [NG,hk]
  have hs:e.key.isStr n=(y==n):=G hk rfl;by_cases q:y=n
  ·have :(y==n)=ae:=by simpa using q
   refine G (aY q) (G hs (G this ?_));exact⟨e.val,rfl,r⟩
  ·have :(y==n)=aA:=by simpa using q
   refine G (a8 q) (G hs (G this (G da ?_)));exact ih
theorem HT{P:cB}{c:a1}(h:z8 c=ae):z7 P c=ae:=i3.mp (abS P) c (by unfold z8 at h;unfold uZ;simpa using h)
set_option tactic.hygienic true in
theorem Yi{H:an}(e:aV o n H=J v):∃i c aN,o=.new i/\H[i]? =J (.inst c aN)/\cy aN n=J v/\∀r,v≠.st r:=by
 rcases o<;>first |exact br e|skip
 rename_i i;delta aV at e
 dsimp only at e;generalize bX:H[i]? =q at e;rcases q with _|q
 ·exact br e
 ·rcases q<;>first |exact br e|skip
  rename_i c aN;refine⟨i,c,aN,rfl,bX,?_⟩;dsimp only at e;generalize cy aN n=r at e⊢;rcases r with _|r
  ·exact br e
  ·rcases r<;>first |exact br e|exact⟨e,λr z=>by rw [z] at e;exact L.noConfusion (ci e)⟩
set_option tactic.hygienic true in
theorem aoh{H bb:an}(e:ft o n v H=J bb):∃i c aN,o=.new i/\H[i]? =J (.inst c aN)/\bH aN.length=ae/\i≠0/\bb=H.set i (.inst c (fA aN n v)):=by
 rcases o<;>first |exact br e|skip
 rename_i i;delta ft at e
 dsimp only at e;generalize bX:H[i]? =q at e;rcases q with _|q
 ·exact br e
 ·rcases q<;>first |exact br e|skip
  exact dR e λaq e=>xf e λh e=>⟨i,_,_,rfl,bX,aq,h,(ci e).symm⟩
theorem Ro(hn:rQ.contains n=ae)(ok:bz Θ.fs (d+4) ah)(x:bD Θ Z ρ m H h)(aR:bg ρ o o')(e:aV o n H=J v):aa Θ ah Z ρ (getAttr o' n ae) (dC m v H) h:=by
 refine tZ (Yi e) λi c aN aky bX q da=>?_;obtain rfl:=aky
 clear e;obtain⟨p,hp,rfl⟩:=aR;obtain⟨aD,gX,ai,aH,k,ak,aZ⟩:=x.rel.obj _ _ _ hp bX;have a9:=HT (P:=Θ.w.params) aD;unfold z7 at a9;simp only [he,beq_iff_eq] at a9;refine cz a9 λakz mq=>?_;refine cz akz λKp jF=>?_;obtain⟨⟨⟨ch,cd⟩,ee⟩,jE⟩:=Kp
 have tx:nr (dk Θ.w.params) (.ref c) n=J ac:=by
  have :=i3.mp mq n (by simpa using hn)
  simpa using this
 have aB:=Qn (n:=n) aZ;rw [q] at aB;refine bU aB λaJ d1 g2=>?_
 have a6:handedIn aJ=ae:=by
  rcases v<;>simp only [bg] at g2
  ·exact G g2 rfl
  ·exact G g2 rfl
  ·refine cm g2 λt akA=>?_;obtain rfl:=akA;rfl
  ·refine cm g2 λt akB=>?_;obtain rfl:=akB;rfl
  ·refine cm g2 λt akC=>?_;obtain rfl:=akC;rfl
  ·obtain⟨t,_,rfl⟩:=g2;rfl
  ·exact absurd rfl (da _)
 refine aa.any ok λA s xa bA bT e1 e2 aP=>?_
 subst e1;refine get_value (K:=dk Θ.w.params) (C:=c) (ox:=kj c p.2) (od:=J (qi aH k)) x.rel.base.k ⟨ai,rfl,rfl,ak⟩ ee (findObj_own ch tx rfl (G (lookIn_dict ..) d1)) a6 ⟨.now x ⟨rfl,rfl,g2⟩,e2,aP⟩
theorem ajo{ρ:cr}{hs:Int}{tk:Tok}(r:bg ρ v aJ){aN:List (Str×L)}{aH:List hT}(x:All2 (zS ρ) aN aH):All2 (zS ρ) (fA aN n v) (putL n hs (.str n tk) aJ aH):=by
 induction x with
 |nil=>exact .cons ⟨⟨tk,rfl⟩,r⟩ .nil
 | @cons a e l aH av h ih=>
  obtain⟨y,u⟩:=a;refine cz av λakE lu=>?_;clear av;refine cm akE λt hk=>?_
  have hj:e.key.isStr n=(y==n):=G hk rfl;refine G Kl ?_;unfold putL;by_cases q:y=n
  ·have :(y==n)=ae:=by simpa using q
   refine G (aY q) (G hj (G this ?_));exact .cons ⟨⟨t,cT q hk⟩,r⟩ h
  ·have :(y==n)=aA:=by simpa using q
   refine G (a8 q) (G hj (G this ?_));exact .cons ⟨⟨t,hk⟩,lu⟩ ih
theorem SP{bF:Type}(n:Str)(v:bF):∀l:List (Str×bF),(fA l n v).length<=l.length+1
 | []=>cW _
 |(y,u)::l=>by
  refine G Kl ?_;by_cases q:y=n
  ·exact G (aY q) (uB _)
  ·exact G (a8 q) (sV (SP n v l))
theorem ait{ρ:cr}{aN:List (Str×L)}{aH:List hT}(x:All2 (zS ρ) aN aH):aH.any (·.refKey)=aA:=by
 induction x with
 |nil=>rfl
 |cons h _ ih=>
  refine cz h λakF _=>?_;refine cm akF λt hk=>?_
  refine G zl (G ih ?_);simp [NG,hk]
theorem Rt(hn:rQ.contains n=ae)(ok:bz Θ.fs (d+4) ah)(x:bD Θ Z ρ m H h)(aR:bg ρ o o')(hv:bg ρ v aJ)(e:ft o n v H=J bb):aa Θ ah Z ρ (setAttr o' n aJ) (lc m bb) h:=by
 refine asc (aoh e) λi c aN akG bX aq hi akH=>?_;obtain rfl:=akG;obtain rfl:=akH
 clear e;obtain⟨p,hp,rfl⟩:=aR;obtain⟨aD,gX,ai,aH,k,ak,aZ⟩:=x.rel.obj _ _ _ hp bX;have a9:=HT (P:=Θ.w.params) aD;unfold z7 at a9;simp only [he,beq_iff_eq] at a9;refine cz a9 λakI mq=>?_;refine cz akI λKq jF=>?_;obtain⟨⟨⟨ch,cd⟩,ee⟩,jE⟩:=Kq
 have tx:nr (dk Θ.w.params) (.ref c) n=J ac:=by
  have :=i3.mp mq n (by simpa using hn)
  simpa using this
 have ce:takerIn (dk Θ.w.params) c n=J ac:=by unfold takerIn;exact G tx rfl
 refine bU (any_some ch) λi5 Az pB=>aa.any ok λA s xa bA bT e1 e2 aP=>?_
 subst e1;refine set_plain (K:=dk Θ.w.params) (C:=c) (ox:=kj c p.2) (od:=J (qi aH k)) x.rel.base.k ⟨ai,rfl,rfl,ak⟩ jF (osa_open (s:= {s with toks:=s.toks+1}) (K:=dk Θ.w.params) (ox:=kj c p.2) (od:=J (qi aH k)) x.rel.base.k ⟨ai,rfl,rfl,ak⟩ cd ce λb=>bN (λ_=>cL) (b4 (b4 (NY ai (b4 (Looks.here (s:= {s with toks:=s.toks+1}) (looks_clsIn x.rel.base.k Az) ?_))))))
 refine G pB (cL (a:=J p.2) (bN (λ_=>cL) (b4 ?_)))
 refine b4 (b4 (wpAny_askSetting (cL (b4 (wpAny_mkText (b4 (NY ak ?_)))))));have aiw:(!aH.toArray.any (·.key.isStr n)&&aH.toArray.any (·.refKey))=aA:=by
  have :=ait aZ;simp [this]
 dsimp only;refine G (aRefKeyMayBeTheName_at ..) (G (aiw ..) ?_);refine wpAny_updatePart ak ?_;have QQ:=ajo (n:=n) (hs:=wA Θ.w.params n) (tk:=s.toks+1) hv aZ;have g2:(s.heap.update p.2 (zA n (wA Θ.w.params n) (.str n (s.toks+1)) aJ)).get? p.2=J (qi (putL n (wA Θ.w.params n) (.str n (s.toks+1)) aJ aH) (putN n aH k)):=by
  exact cT (putName_dict ..) (s0 _ ak (by refine G (putName_dict ..) ?_;rfl))
 have qR:∀b,b≠p.2->(s.heap.update p.2 (zA n (wA Θ.w.params n) (.str n (s.toks+1)) aJ)).get? b=s.heap.get? b:=λb hb=>uE _ _ (λz=>hb z.symm)
 refine b4 (NZ g2 (pastItsLine_dict ?_) ?_)
 ·refine G iA (cT QQ.length (G k9 ?_));have :=SP n v aN;have :aN.length<=65536:=by simpa [bH] using aq
  lia
 ·refine cL ⟨?_,e2,aP⟩;refine d4.turned x hp hi (λb o ai ak e=>(qR b ak).trans e) (G (qg ..) (cW _)) (o:=.inst c (fA aN n v)) ⟨aD,gX,(qR _ gX).trans ai,_,_,g2,QQ⟩ ⟨rfl,rfl⟩
theorem Qo:jp (.type "list") "__getitem__"=bK (J (.builtin "list.__getitem__")):=by refine G (iM ..) (G (iL ..) ?_);kernel_rfl
theorem aek:jp (.type "tuple") "__getitem__"=bK (J (.builtin "tuple.__getitem__")):=by refine G (iM ..) (G (iL ..) ?_);kernel_rfl
theorem aej:jp (.type "dict") "__getitem__"=bK (J (.builtin "dict.__getitem__")):=by refine G (iM ..) (G (iL ..) ?_);kernel_rfl
theorem aeh:jp (.type "bytearray") "__getitem__"=bK (J (.builtin "bytearray.__getitem__")):=by refine G (iM ..) (G (iL ..) ?_);kernel_rfl
theorem aei:jp (.type "bytes") "__getitem__"=bK (J (.builtin "bytes.__getitem__")):=by refine G (iM ..) (G (iL ..) ?_);kernel_rfl
noncomputable def Ke(q:Option bt):Bool:=match q with
 |ac=>aA
 |J a=>match a with
  | .inst _ _=>aA
  | .set _=>aA
  | .list _=>ae
  | .tup _=>ae
  | .dict _=>ae
  | .ba _=>ae
  | .scr _=>ae
theorem af2{ix:nl}{H bb:an}(e:cj o ix H=J (v,bb)):∀i,o=.new i->Ke H[i]? =ae:=by
 refine Q3 (P:=λo ix v bb=>∀i,o=.new i->Ke H[i]? =ae) ?_ ?_ ?_ ?_ ?_ ?_ ?_ e
 ·exact λbX _ _ i q=>by obtain rfl:=L.new.inj q;exact G bX rfl
 ·exact λbX _ _ i q=>by obtain rfl:=L.new.inj q;exact G bX rfl
 ·exact λbX _ _ i q=>by obtain rfl:=L.new.inj q;exact G bX rfl
 ·exact λbX _ _ i q=>by obtain rfl:=L.new.inj q;exact G bX rfl
 ·exact λbX _ _ i q=>by obtain rfl:=L.new.inj q;rcases bX with bX|bX<;>(refine G bX ?_)<;>rfl
 ·exact λbX _ i q=>by obtain rfl:=L.new.inj q;exact G bX rfl
 ·exact λ_ _ i q=>L.noConfusion q
theorem agV(ok:bz Θ.fs (d+4) ah)(x:bD Θ Z ρ m H h)(aR:bg ρ o o'){ix:nl}(e:(cj o ix H).isSome=ae):aa Θ ah Z ρ (getitemInPython o') (Mv m aA H) h:=by
 have go:∀ {T id:String},(∀s:cn,s.heap=h->s.TypeIs o' T)->jp (.type T) "__getitem__"=bK (J (.builtin id))->aa Θ ah Z ρ (getitemInPython o') (Mv m aA H) h:=λ{T id} ce aQ=>by
  refine aa.any ok λA s a6 bA bT e1 e2 aP=>?_
  have gm:=ce s e1;subst e1;exact G (getitemInPython_of_ne gm.not_modules) (bN (λ_=>ie gm aQ) (cL ⟨.now x ⟨rfl,rfl,rfl⟩,e2,aP⟩))
 induction o using Mine.Internal.L.casesOn with
 |bytes l=>refine cm aR λt akJ=>?_;obtain rfl:=akJ;exact go (λs _=>rfl) aei
 |new i=>
  obtain⟨p,hp,rfl⟩:=aR;have K:Ke H[i]? =ae:=by refine cm (sW.mp e) λakK e=>?_;obtain⟨v,bb⟩:=akK;exact af2 e i rfl
  cases q:H[i]?with
  |none=>rw [q] at K;exact b8 K
  |some Yb=>
   refine bU (x.rel.get q) λgZ iR r=>?_
   rw [hp] at iR;obtain rfl:=ci iR;induction Yb using Mine.Internal.bt.casesOn with
   |inst c aN=>rw [q] at K;exact b8 K
   |set l=>rw [q] at K;exact b8 K
   |list l=>obtain⟨-,vs,k,bj,-⟩:=r;exact go (λs hs=>⟨_,hs▸bj,rfl⟩) Qo
   |scr l=>obtain⟨-,vs,⟨m6,bj,aD,-⟩,-⟩:=r;exact go (λs hs=>⟨_,hs▸bj,aD⟩) Qo
   |tup l=>obtain⟨-,vs,⟨m6,bj,aD,-⟩,-⟩:=r;exact go (λs hs=>⟨_,hs▸bj,aD⟩) aek
   |dict l=>obtain⟨-,aH,k,bj,-⟩:=r;exact go (λs hs=>⟨_,hs▸bj,rfl⟩) aej
   |ba l=>obtain⟨-,k,bj⟩:=r;exact go (λs hs=>⟨_,hs▸bj,rfl⟩) aeh
 |none=>exact b8 e
 |bool b=>exact b8 e
 |int b=>exact b8 e
 |str b=>exact b8 e
 |st b=>exact b8 e
theorem Rr(ok:bz Θ.fs (d+4) ah)(x:bD Θ Z ρ m H h):aa Θ ah Z ρ (runValue (.builtin "proto.let_go" {})) (lc m H) h:=by
 exact af.runValue λp=>DM rfl entry_let_go (af.ret ⟨.none,rfl,.now x ⟨rfl,rfl⟩⟩)
noncomputable def rU(P:cB)(ρ:cr):l8->aG×List aG->Prop
 | .fn f self,c=>c.1=.ref f/\All2 (bg ρ) self c.2/\wC (dk P) (.ref f)=ae
 | .cls a i,c=>c=(.ref a,[])/\wC (dk P) (.ref a)=ae/\makesIn (dk P) a=ae/\nr (dk P) (.ref a) "__init__"=J (J (.ref i))/\typeIn (dk P) (.ref i)=J (.type "function")/\z8 a=ae
 | .bi aB,c=>c=(aB,[])/\∀a,aB≠.ref a
 | .me o n,c=>∃o' id,bg ρ o o'/\c=(.builtin id,[o'])/\id=(if n=("append":Str) then "list.append" else if n=("remove":Str) then "list.remove" else if n=("get":Str) then "dict.get" else "bytearray.extend")/\(n=("append":Str)\/n=("remove":Str)\/n=("get":Str)\/n=("extend":Str))
theorem ajh:PlainAttrs "bytearray":=
 ⟨⟨"bytearray.__getattribute__",by refine G (iM ..) (G (iL ..) ?_);kernel_rfl,by decide+kernel⟩,by refine G (iM ..) (G (iL ..) ?_);kernel_rfl⟩
theorem aps:typeOf (.builtin "bytearray.extend")=bK (.type "method_descriptor"):=by show builtinType _=_;refine G builtinType_eq_fast ?_;kernel_rfl
def ahN(P:cB)(c:a1):Bool:=(qv c).all λp=>nr (dk P) (.ref c) p.1==J (J (.ref p.2))&&typeIn (dk P) (.ref p.2)==J (.type "function")&&wC (dk P) (.ref p.2)
theorem ahO(P:cB):uZ.all (ahN P)=ae:=by kernel_rfl
set_option tactic.hygienic true in
theorem abI{H:an}(e:bx o n H=J c):∃i,o=.new i/\((∃cl aN f,H[i]? =J (.inst cl aN)/\cy aN n=ac/\cy (qv cl) n=J f/\c=.fn f [.new i])\/
  (∃l,H[i]? =J (.list l)/\(n="append"\/n="remove")/\c=.me (.new i) n)\/(∃l,H[i]? =J (.dict l)/\n="get"/\c=.me (.new i) n)\/ ∃l,H[i]? =J (.ba l)/\n="extend"/\c=.me (.new i) n):=by
 rcases o<;>first |exact br e|skip
 rename_i i;refine⟨i,rfl,?_⟩;delta bx at e
 dsimp only at e;generalize bX:H[i]? =q at e;rcases q with _|q
 ·exact br e
 ·rcases q<;>first |exact br e|skip
  ·rename_i cl aN;dsimp only at e;generalize ek:cy aN n=r at e;rcases r with _|r
   ·exact bU (rz.mp e) λf lk ig=>.inl ⟨cl,aN,f,rfl,ek,lk,ig.symm⟩
   ·exact br e
  ·exact dR e λhn e=>.inr (.inl ⟨_,rfl,hn,(ci e).symm⟩)
  ·exact dR e λhn e=>.inr (.inr (.inl ⟨_,rfl,hn,(ci e).symm⟩))
  ·exact dR e λhn e=>.inr (.inr (.inr ⟨_,rfl,hn,(ci e).symm⟩))
theorem Rp{pl:Sem Bool}(ok:bz Θ.fs (d+4) ah)(x:bD Θ Z ρ m H h)(aR:bg ρ o o')(e:bx o n H=J c):aa Θ ah Z ρ (getMethod o' n pl) (λc' cb bV bb=>bV=m/\bb=H/\rU Θ.w.params cb c c') h:=by
 refine bU (abI e) λi akL w=>?_;obtain rfl:=akL
 clear e;obtain⟨p,hp,rfl⟩:=aR;rcases w with⟨cl,aN,f,bX,aQ,lk,rfl⟩|⟨l,bX,hn,rfl⟩|⟨l,bX,hn,rfl⟩|⟨l,bX,hn,rfl⟩
 ·obtain⟨aD,gX,ai,aH,k,ak,aZ⟩:=x.rel.obj _ _ _ hp bX;have a9:=HT (P:=Θ.w.params) aD;unfold z7 at a9;simp only [he,beq_iff_eq] at a9;refine cz a9 λakM mq=>?_;refine cz akM λKr jF=>?_;obtain⟨⟨⟨ch,cd⟩,ee⟩,jE⟩:=Kr
  have M:=i3.mp (ahO Θ.w.params) cl (by unfold z8 at aD;unfold uZ;simpa using aD)
  have M:=i3.mp M _ (RB lk);simp only [he,beq_iff_eq] at M;have aB:=Qn (n:=n) aZ;rw [aQ] at aB;refine aa.any ok λA s xa bA bT e1 e2 aP=>?_
  subst e1;exact method_fn (K:=dk Θ.w.params) (C:=cl) (ox:=kj cl p.2) (od:=J (qi aH k)) x.rel.base.k ⟨ai,rfl,rfl,ak⟩ ee jE M.1.1 M.1.2 (by show(lookIn n (qi aH k)).map _=_;exact G (lookIn_dict ..) (G (aB ..) rfl))
   ⟨.now x ⟨rfl,rfl,rfl,.cons ⟨p,hp,rfl⟩ .nil,M.2⟩,e2,aP⟩
 ·obtain⟨-,vs,k,bj,-⟩:=x.rel.obj _ _ _ hp bX;refine aa.any ok λA s xa bA bT e1 e2 aP=>?_
  subst e1;rcases hn with rfl|rfl
  ·exact Gw (T:="list") ⟨_,bj,rfl⟩ PySem.F.plainAttrs_list PySem.F.slot_list_append PySem.F.type_list_append (λa q=>by obtain rfl:=PySem.Value.ref.inj q;exact⟨_,bj,rfl⟩) ⟨.now x ⟨rfl,rfl,_,_,⟨p,hp,rfl⟩,rfl,by(exact G (aY rfl) rfl),.inl rfl⟩,e2,aP⟩
  ·exact Gw (T:="list") ⟨_,bj,rfl⟩ PySem.F.plainAttrs_list PySem.F.slot_list_remove PySem.F.type_list_remove (λa q=>by obtain rfl:=PySem.Value.ref.inj q;exact⟨_,bj,rfl⟩) ⟨.now x ⟨rfl,rfl,_,_,⟨p,hp,rfl⟩,rfl,by(exact G (a8 (by decide)) (G (aY rfl) rfl)),.inr (.inl rfl)⟩,e2,aP⟩
 ·obtain⟨-,aH,k,bj,-⟩:=x.rel.obj _ _ _ hp bX;refine aa.any ok λA s xa bA bT e1 e2 aP=>?_
  subst e1;subst hn;exact Gw (T:="dict") ⟨_,bj,rfl⟩ PySem.F.plainAttrs_dict PySem.F.slot_dict_get PySem.F.type_dict_get (λa q=>by obtain rfl:=PySem.Value.ref.inj q;exact⟨_,bj,rfl⟩) ⟨.now x ⟨rfl,rfl,_,_,⟨p,hp,rfl⟩,rfl,by(exact G (a8 (by decide)) (G (a8 (by decide)) (G (aY rfl) rfl))),.inr (.inr (.inl rfl))⟩,e2,aP⟩
 ·obtain⟨-,k,bj⟩:=x.rel.obj _ _ _ hp bX;refine aa.any ok λA s xa bA bT e1 e2 aP=>?_
  subst e1;subst hn;exact Gw (T:="bytearray") ⟨_,bj,rfl⟩ ajh Th aps (λa q=>by obtain rfl:=PySem.Value.ref.inj q;exact⟨_,bj,rfl⟩) ⟨.now x ⟨rfl,rfl,_,_,⟨p,hp,rfl⟩,rfl,by(exact G (a8 (by decide)) (G (a8 (by decide)) (G (a8 (by decide)) rfl))),.inr (.inr (.inr rfl))⟩,e2,aP⟩
noncomputable def PC(P:cB)(c:a1):Bool:=wC (dk P) (.ref c)&&makesIn (dk P) c&&match cy (qv c) "__init__" with
 |J i=>nr (dk P) (.ref c) "__init__"==J (J (.ref i))&&typeIn (dk P) (.ref i)==J (.type "function")
 |ac=>aA
theorem abR(P:cB):uZ.all (PC P)=ae:=by kernel_rfl
noncomputable def Ij:List a1:=[36,104,111,118,125,132,147,154,161,168,175,182,189,210,222,229,250,257,264,271,299,306,320,335,363,370,377,384,398,419,426,433,459,466,473,501,508,557,564,571,578,585,592,599,606,613,620,627,634,676,683,690,697,704,718,763,778,785,792,799,806,813,820,827,834,841,848,874,881,886,891,898,903,910,917,922,927]
theorem Qg(P:cB):Ij.all (λf=>wC (dk P) (.ref f))=ae:=by kernel_rfl
theorem As{bF:Type}{x:bF}:∀ {l:List (a1×bF)},l.lookup f=J x->(f,x)∈l:=by
 intro l;induction l with
 |nil=>exact λe=>br e
 |cons p l ih=>
  intro e;obtain⟨aB,y⟩:=p;rw [sP] at e;cases h:f==aB
  ·rw [h] at e;exact f8 _ (ih e)
  ·rw [h] at e;obtain rfl:=ci e;exact G (beq_iff_eq.mp h) fK
theorem adY:Ar.all (λp=>Ij.contains p.1)=ae:=by kernel_rfl
theorem adZ{x}(e:r3 f=J x):Ij.contains f=ae:=i3.mp adY _ (As e)
theorem ab6:HX.all (λp=>uZ.contains p.1)=ae:=by kernel_rfl
theorem ab7{c:a1}(e:cy (qv c) n=J f):uZ.contains c=ae:=by
 unfold qv at e;rcases aB:HX.lookup c with _|x
 ·rw [aB] at e;exact br e
 ·exact i3.mp ab6 _ (As aB)
theorem aoO{f:L}{v:aG}(e:Tw f=J v):f=.st v:=by
 rcases f<;>first |exact br e|exact congrArg L.st (ci e)
theorem anR{v:aG}{a:a1}(e:refOf v=J a):v=.ref a:=by
 rcases v<;>first |exact br e|exact congrArg lK (ci e)
theorem abG{P:cB}{f:L}{f':aG}(aq:bg ρ f f')(e:HJ f=J c):rU P ρ c (f',[]):=by
 refine gb e λv e1 e2=>?_
 have e1:=aoO e1;subst e1;have aq:f'=v:=aq;subst aq;rcases ao:refOf f' with _|a
 ·rw [ao] at e2;obtain rfl:=ci e2;exact⟨rfl,λa z=>br (ao.symm.trans (congrArg refOf z))⟩
 ·rw [ao] at e2;have ao:=anR ao;subst ao;have e2:(oa (motive:=λ_=>Option l8) (cy (qv a) "__init__") (if a=917 then J (.fn a []) else(r3 a).bind λ_=>J (.fn a [])) λi=>J (.cls a i))=J c:=e2
  rcases dw:cy (qv a) "__init__" with _|i
  ·have e:(if a=917 then J (l8.fn a []) else(r3 a).bind λ_=>J (.fn a []))=J c:=by
    rw [dw] at e2;exact e2
   by_cases q:a=917
   ·rw [aY q] at e;obtain rfl:=ci e;subst q;exact⟨rfl,.nil,i3.mp (Qg P) 917 (by decide)⟩
   ·rw [a8 q] at e;refine gb e λx ex e=>?_
    obtain rfl:=ci e;have bc:=adZ ex;have a9:=i3.mp (Qg P) a (by simpa using bc)
    exact⟨rfl,.nil,a9⟩
  ·have e:J (l8.cls a i)=J c:=by
    rw [dw] at e2;exact e2
   obtain rfl:=ci e;have bc:=ab7 dw;have a9:=i3.mp (abR P) a (by simpa using bc)
   unfold PC at a9;rw [dw] at a9;simp only [he,beq_iff_eq] at a9;exact⟨rfl,a9.1.1,a9.1.2,a9.2.1,a9.2.2,bc⟩
theorem arK{H bb:an}{o:bt}(e:wr H i o=J bb):i≠0/\H.set i o=bb:=xf e λh e=>⟨h,ci e⟩
set_option tactic.hygienic true in
theorem ahP{H:an}{P:L->Str->List L->L->an->Prop}
  (k1:∀ {i l v},H[i]? =J (.list l)->i≠0->bH l.length=ae->P (.new i) "append" [v] .none (H.set i (.list (l++[v]))))
  (k2:∀ {i l j k},H[i]? =J (.list l)->i≠0->bH l.length=ae->l.all (oE H)=ae->tz (.new j) l=J k->P (.new i) "remove" [.new j] .none (H.set i (.list (l.eraseIdx k))))
  (k3:∀ {i l k},H[i]? =J (.dict l)->fX k=ae->P (.new i) "get" [k] ((dV l k).getD .none) H)
  (oI:∀ {i l k d},H[i]? =J (.dict l)->fX k=ae->P (.new i) "get" [k,d] ((dV l k).getD d) H)
  (k5:∀ {i l x},H[i]? =J (.ba l)->i≠0->bH (l.length+x.length)=ae->P (.new i) "extend" [.bytes x] .none (H.set i (.ba (l++x)))):
  ∀ {o n vs v bb},lT o n vs H=J (v,bb)->P o n vs v bb:=λ{o n vs v bb} e=>by
 have ku:∀ {i:Nat} {x:bt} {Q:L->an->Prop},(wr H i x).map (L.none,·)=J (v,bb)->(i≠0->Q .none (H.set i x))->Q v bb:=λ{i x Q} e k=>by
  refine bU (rz.mp e) λw e1 e2=>?_
  refine oN e2 λakN akP=>?_;obtain rfl:=akN;obtain rfl:=akP
  refine cz (arK e1) λh akQ=>?_;obtain rfl:=akQ
  exact k h
 have RK:∀ {x:L} {Q:L->an->Prop},J (x,H)=J (v,bb)->Q x H->Q v bb:=λ{x Q} e k=>by
  refine lX e λakR akS=>?_;obtain rfl:=akR;obtain rfl:=akS
  exact k
 rcases o<;>first |exact br e|skip
 rename_i i;delta lT at e
 dsimp only at e;generalize bX:H[i]? =q at e;rcases q with _|q
 ·exact br e
 ·rcases q<;>first |exact br e|skip
  ·dsimp only at e;rcases Decidable.em (n="append") with rfl|hn
   ·rw [aY rfl] at e;rcases vs with _|⟨v,_|⟨u,r⟩⟩
    ·exact br e
    ·exact dR e λaq e=>ku (Q:=P _ _ _) e λh=>k1 bX h aq
    ·exact br e
   ·rw [a8 hn] at e;refine dR e λhn cU=>?_
    clear e;subst hn;rcases vs with _|⟨v,_|⟨u,r⟩⟩
    ·exact br cU
    ·rcases v<;>first |exact br cU|skip
     exact dR cU λaq e=>by
      exact gb e λk rX e=>ku (Q:=P _ _ _) e λh=>k2 bX h (eZ aq) (eK aq) rX
    ·rcases v<;>exact br cU
  ·refine dR e λhn cU=>?_
   clear e;subst hn;rcases vs with _|⟨v,_|⟨u,_|⟨w,r⟩⟩⟩
   ·exact br cU
   ·exact dR cU λaq e=>RK (Q:=P _ _ _) e (k3 bX aq)
   ·exact dR cU λaq e=>RK (Q:=P _ _ _) e (oI bX aq)
   ·exact br cU
  ·refine dR e λhn cU=>?_
   clear e;subst hn;rcases vs with _|⟨v,_|⟨u,r⟩⟩
   ·exact br cU
   ·rcases v<;>first |exact br cU|skip
    exact dR cU λaq e=>ku (Q:=P _ _ _) e λh=>k5 bX h aq
   ·rcases v<;>exact br cU
theorem agX{vs:List L}{vs':List aG}{c:aG×List aG}(ok:bz Θ.fs (d+4) ah)(x:bD Θ Z ρ m H h)(hv:All2 (bg ρ) vs vs')(aD:rU Θ.w.params ρ (.me o n) c)
  (e:lT o n vs H=J (v,bb)):aa Θ ah Z ρ (PySem.call c.1 (c.2++vs')) (dC m v bb) h:=by
 refine tY aD λo' id aR akT lO hn=>?_;obtain rfl:=akT
 show aa Θ ah Z ρ (PySem.call (.builtin id) (o'::vs')) (dC m v bb) h
 clear hn;refine ahP (P:=λo n vs v bb=>∀o' vs',id=(if n=("append":Str) then "list.append" else if n=("remove":Str) then "list.remove" else if n=("get":Str) then "dict.get" else "bytearray.extend")->bg ρ o o'->All2 (bg ρ) vs vs'->aa Θ ah Z ρ (PySem.call (.builtin id) (o'::vs')) (dC m v bb) h) ?_ ?_ ?_ ?_ ?_ e o' vs' lO aR hv
 ·intro i l v bX bu aq o' vs' lO aR hv;rw [aY rfl] at lO;subst lO;cases hv with |cons ra q=>cases q with |nil=>exact list_append ok x aR ra bX bu aq
 ·intro i l j k bX bu aq hb rX o' vs' lO aR hv;rw [a8 (by decide),aY rfl] at lO
  subst lO;cases hv with |cons ra q=>cases q with |nil=>exact ahh ok x aR ra bX bu aq hb rX
 ·intro i l k bX hk o' vs' lO aR hv;rw [a8 (by decide),a8 (by decide),aY rfl] at lO
  subst lO;cases hv with |cons ra q=>cases q with |nil=>exact acq ok x aR bX hk ra
 ·intro i l k d bX hk o' vs' lO aR hv;rw [a8 (by decide),a8 (by decide),aY rfl] at lO
  subst lO;cases hv with |cons ra q=>cases q with |cons rb q=>cases q with |nil=>exact acr ok x aR bX hk ra rb
 ·intro i l E1 bX bu aq o' vs' lO aR hv;rw [a8 (by decide),a8 (by decide),a8 (by decide)] at lO
  subst lO;cases hv with |cons ra q=>cases q with |nil=>exact Zi ok x aR ra bX bu aq
theorem Jz{j:Nat}{l:List L}(ok:bz Θ.fs (d+4) ah)(x:bD Θ Z ρ m H h)(hv:bg ρ (.new j) aJ)(e:H[j]? =J (.tup l)):aa Θ ah Z ρ (CF aJ l.length ac) (λitems cb bV bb=>bV=m/\bb=H/\All2 (bg cb) l items) h:=by
 obtain⟨p,hp,rfl⟩:=hv;obtain⟨-,vs,ce,r⟩:=x.rel.obj _ _ _ hp e;have ek:l.length=vs.toArray.size:=by refine G r.length ?_;simp
 refine G ek (aa.any ok λA s a6 bA bT e1 e2 aP=>?_)
 subst e1;exact unpack_tuple a6 ce λav k hs=>⟨d4.grown x ⟨k,hs⟩ ⟨rfl,rfl,r⟩,e2,aP⟩
theorem ag3{a:a1}{u v:aG}(ok:bz Θ.fs (d+4) ah)(x:h.IsTuple a #[u,v]):af Θ.w Θ.O ah (CF (.ref a) 2 ac) (λitems av=>items=[u,v]/\gM h av) h:=by
 obtain⟨A,cS,a6,-,-⟩:=ok.room;refine af.any cS λs e1 e2 aP=>?_
 subst e1;exact unpack_tuple (items:= #[u,v]) a6 x λav k hs=>⟨⟨rfl,k,hs⟩,e2,aP⟩
end
variable {c:l8}
section
variable {a b:aG}{o:aU}
noncomputable def EV:L->aG->Bool
 | .int i,.int j _=>i==j
 | .st c,v=>c==v
 |_,_=>aA
theorem TW{ρ:cr}{aJ:aG}(h:EV v aJ=ae):bg ρ v aJ:=by
 induction v using Mine.Internal.L.casesOn with
 |int i=>induction aJ using PySem.Value.casesOn with
  |int j t=>
   have h:(i==j)=ae:=h;rw [beq_iff_eq] at h;exact⟨t,by(exact G h rfl)⟩
  |_=>exact b8 h
 |st c=>
  have h:(c==aJ)=ae:=h;rw [beq_iff_eq] at h;exact h.symm
 |_=>exact b8 h
noncomputable def Iv(P:cB)(p:Str×L):Bool:=match nsIn (dk P) k8 p.1 with
 |J (J aJ)=>EV p.2 aJ
 |J ac=>p.1 !=("__name__":Str)&&(zC p.1).any (EV p.2)
 |ac=>aA
theorem ael(P:cB):Iw.all (Iv P)=ae:=by kernel_rfl
theorem aem{P:cB}{x:Str}(e:cy Iw x=J v):Iv P (x,v)=ae:=i3.mp (ael P) _ (RB e)
def BS(Θ:fa)(d:Nat)(f:a1)(vs:List L)(H:an)(k:L->an->Prop):Prop:=∀ah ρ h vs',bz Θ.fs d ah->fW Θ ρ H h->All2 (bg ρ) vs vs'->
 af Θ.w Θ.O ah (PySem.call (.ref f) vs') (λaJ av=>∃cb bb v,fW Θ cb bb av/\d3 [] ρ h cb av/\bg cb v aJ/\k v bb) h
abbrev mL:=a1->List L->an->(L->an->Prop)->Prop
def n0(Θ:fa)(d:Nat)(C:mL):Prop:=∀f vs H k,C f vs H k->BS Θ d f vs H k
section
variable {C:mL}
def cE(Θ:fa)(C:mL)(d:Nat)(e:aU):Prop:=∀ {ah Z ρ m H h} {k:L->an->Prop},bz Θ.fs (d+4) ah->bD Θ Z ρ m H h->bO False C e Z.scope.names m H k->aa Θ ah Z ρ (eval e Z) (mT m k) h
def kl(Θ:fa)(C:mL)(d:Nat)(aH:List aU):Prop:=∀ {ah Z ρ m H h} {k:List L->an->Prop} {pos:Pos},bz Θ.fs (d+4) ah->bD Θ Z ρ m H h->ju False C aH Z.scope.names m H k->
 aa Θ ah Z ρ (spliced (jB pos (ic aH Z))) (λvs' cb bV bb=>bV=m/\∃vs,All2 (bg cb) vs vs'/\k vs bb) h
def ST(Θ:fa)(C:mL)(d:Nat)(e:aU):Prop:=∀ {ah Z ρ m H h} {k:Bool->an->Prop},bz Θ.fs (d+4) ah->bD Θ Z ρ m H h->ge False C e (λH k=>bO False C e Z.scope.names m H k) Z.scope.names m H k->
 aa Θ ah Z ρ (isTrue e Z (eval e Z)) (λb _ bV bb=>bV=m/\k b bb) h
set_option tactic.hygienic true in
theorem Bm{x:Str}(ok:bz Θ.fs d ah)(a:bD Θ Z ρ m H h)(e:oK Z.scope.names m x=J v):aa Θ ah Z ρ (loadName Z x) (dC m v H) h:=by
 have hk:=a.fr.kind;have j5:Z.kindOf x=cy Z.scope.names x:=(pG x _).symm;unfold oK at e;refine aa.any ok λA s a6 bA bT e1 e2 aP=>?_
 subst e1;cases q:cy Z.scope.names x with
 |none=>rw [q] at e;exact br e
 |some r7=>
  rw [q] at e j5;induction r7 using PySem.NameKind.casesOn with
  |«local»=>
   exact bU a.fr.ns λnm hn r=>bU (r x v j5 e) λaJ p1 p2=>wpAny_loadName_local hk j5 hn p1 ⟨.now a ⟨rfl,rfl,p2⟩,e2,aP⟩
  |cell=>
   refine cm (sW.mp (a.fr.has x (.inl j5))) λc aD=>bU (a.fr.cell x c aD) λkb Dy r=>?_
   refine bU (r v (by refine G j5 ?_;simp) e) λaJ p1 p2=>?_
   subst p1;exact wpAny_loadName_cell hk j5 aD Dy ⟨.now a ⟨rfl,rfl,p2⟩,e2,aP⟩
  |free=>exact br e
  |globalExplicit=>exact br e
  |globalImplicit=>
   have aB:=aem (P:=Θ.w.params) e;have B:=a.rel.base;unfold Iv at aB;unfold loadName;simp only [Go,hk,j5,NK,E7,ng,if_false];unfold loadGlobal;refine G a.fr.glob ?_;split at aB
   ·rename_i aJ iE;refine b4 ((Gq B.k iE).here (cL ?_));exact⟨.now a ⟨rfl,rfl,TW aB⟩,e2,aP⟩
   ·rename_i iE;rw [he] at aB;obtain⟨aJ,d1,g2⟩:∃aJ,zC x=J aJ/\EV v aJ=ae:=by
     cases z:zC x with
     |none=>rw [z] at aB;exact absurd aB.2 (by simp)
     |some aJ=>rw [z] at aB;exact⟨aJ,rfl,by simpa using aB.2⟩
    refine b4 ((Gq B.k iE).here ?_);refine bU B.b λxj hb bc=>G a.fr.blt (bN (λ_=>wpAny_nsGet hb) (G (bc x (by simpa using aB.1)) (G d1 ?_)))
    exact cL ⟨.now a ⟨rfl,rfl,TW g2⟩,e2,aP⟩
   ·exact b8 aB
theorem Tp{c:Const}(a:bD Θ Z ρ m H h)(e:HU c=J v):aa Θ ah Z ρ (constValue Z c) (dC m v H) h:=by
 rcases c<;>cases e<;>unfold constValue
 ·exact .pure a ⟨rfl,rfl,rfl⟩
 ·exact .pure a ⟨rfl,rfl,rfl⟩
 ·exact af.mkInt λt=>.now a ⟨rfl,rfl,t,rfl⟩
 ·exact af.mkText λt=>.now a ⟨rfl,rfl,t,rfl⟩
 ·exact af.mkTextBytes λt=>.now a ⟨rfl,rfl,t,rfl⟩
theorem cE.const{c k pos}:cE Θ C d (.Constant c k pos):=λok a w=>by
 rw [ara] at w;set_option smartUnfolding false in refine jM w λv e w=>?_
 exact(Tp a e).toV w
theorem cE.name{x pos}(aO:(x==("__debug__":Str))=aA):cE Θ C d (.Name x pos):=λok a w=>by
 rw [ard] at w;refine G (eval_Name _ _ _ aO) ?_;set_option smartUnfolding false in refine jM w λv e w=>?_
 exact .stand ((Bm ok a e).toV w)
theorem cE.bin{l bM r pos}(aQ:cE Θ C d l)(da:cE Θ C d r):cE Θ C d (.BinOp l bM r pos):=λok a w=>by
 rw [aq7] at w;refine G (eval_BinOp ..) (.bindV (aQ ok a w) λdb gK bG bI ai bL cP b9 bE=>.bindV (.holding (da ok bL bE)) λck oW du cN ak cX d6 dG ea=>.stand (.operate ?_))
 try dsimp only at ea
 set_option smartUnfolding false in refine Kf ea λv cg e ea=>?_
 exact(agR ok cX (b9.sub d6) dG e).toV ea
noncomputable def TJ:aU:=.Tuple [] 0 jQ
theorem apa:uJ o a b=bK ()\/uJ o a b=uJ TJ a b:=by
 rcases o<;>first |exact .inl (rfl:_=bK ())|exact .inr (by kernel_rfl)
theorem apb:uJ o a b=bK ()\/uJ o a b=(do let _ <-gO [b] (runValue (.builtin "proto.let_go" {}))):=by
 rcases apa (o:=o) (a:=a) (b:=b) with e|e
 ·exact .inl e
 ·refine G e ?_;rcases a<;>first |exact .inl (rfl:_=bK ())|exact .inr rfl
theorem Ts(ok:bz Θ.fs (d+4) ah)(aN:bD Θ Z ρ m H h):aa Θ ah Z ρ (uJ o a b) (lc m H) h:=by
 rcases apb (o:=o) (a:=a) (b:=b) with e|e<;>(refine G e ?_)
 ·exact .pure aN ⟨rfl,rfl⟩
 ·exact .bind (.holding (Rr ok aN)) λ_ kf A2 cg aZ fx hN q=>.pure fx q
theorem cE.attr{o n pos}(aR:cE Θ C d o)(hn:rQ.contains n=ae)(hb:∀Z g0,Cw o n Z g0=g0):cE Θ C d (.Attribute o n pos):=λok a w=>by
 rw [aq6] at w;have dh:∀Z,eval (.Attribute o n pos) Z=(do
  let o' <-Cw o n Z (eval o Z)
  gw pos.atName
  let r <-gO [o'] (getAttr o' n ae)
  uJ o o' r
  bK r):=λ_=>rfl
 (refine G (dh ..) ?_;rw [hb])
 refine .bindV (aR ok a w) λdb gK bG bI ai bL cP b9 bE=>.stand ?_
 try dsimp only at bE
 set_option smartUnfolding false in refine jM bE λv e bE=>?_
 exact .bindR (.holding (Ro hn ok bL b9 e)) λaJ du ak cX d6 q3=>.bindU (Ts ok cX) λ_ kf aZ fx hN=>.pure fx ⟨rfl,v,q3.sub hN,bE⟩
theorem cE.ifexp{t a b pos}(ce:ST Θ C d t)(ha:cE Θ C d a)(hb:cE Θ C d b):cE Θ C d (.IfExp t a b pos):=λok gk w=>by
 rw [arb] at w;have dh:∀Z,eval (.IfExp t a b pos) Z=(do if <-isTrue t Z (eval t Z) then eval a Z else eval b Z):=λ_=>rfl
 refine G (dh ..) (.bindB (ce ok gk w) λc bG bI ai bL cP bE=>?_)
 induction c using t5 with
 |true=>exact ha ok bL bE
 |false=>exact hb ok bL bE
theorem kl.nil:kl Θ C d []:=λok a w=>by
 rw [Ua] at w;exact aa.pure a ⟨rfl,[],.nil,w⟩
theorem kl.cons{e aH}(bl:cE Θ C d e)(hs:kl Θ C d aH)(QS:∀Z,ic (e::aH) Z=(aA,eval e Z)::ic aH Z):kl Θ C d (e::aH):=λ{ah Z ρ m H h k pos} ok a w=>by
 rw [ari] at w;have dh:spliced (jB pos (ic (e::aH) Z))=(eval e Z>>=λv=>bK [v]>>=λQA=>gO QA (spliced (jB pos (ic aH Z)))>>=λr=>bK (QA++r)):=
  G (QS ..) rfl
 refine G dh (.bindV (bl ok a w) λaJ v bG bI ai bL cP b9 bE=>.bind (.pure bL (Q:=λx cb bV bb=>x=[aJ]/\cb=bG/\bV=m/\bb=bI) ⟨rfl,rfl,rfl,rfl⟩) λ_ du m cN ak cX d6 cV=>?_)
 refine v5 cV λaM a7 q3 iF=>?_
 subst aM a7 q3 iF;exact .bindV (.holding (hs ok cX bE)) λvs' vs kf cg aZ fx hN dG ea=>.pure fx ⟨rfl,v::vs,.cons (b9.sub hN) dG,ea⟩
end
end
variable {C:mL}
theorem aa.bindF{t:Sem ay}{f:ay->Sem bF}{Q1:ay->cr->Loc->an->Prop}{Q:bF->cr->Loc->an->Prop}(x:aa Θ ah Z ρ t Q1 h)
  (k:∀a bG dF bI ai,bD Θ Z bG dF bI ai->d3 (own Z) ρ h bG ai->Q1 a bG dF bI->aa Θ ah Z bG (f a) Q ai):aa Θ ah Z ρ (t>>=f) Q h:=
 af.bind (af.mono x λa ai ⟨bG,dF,bI,y,z,q⟩=>af.mono (k a bG dF bI ai y z q) λb ak r=>r.go (f:=z))
theorem aa.grow{t:Sem ay}{f:ay->Sem bF}{R:ay->bq->Prop}{Q:bF->cr->Loc->an->Prop}(x:af Θ.w Θ.O ah t (λa ai=>gM h ai/\R a ai) h)
  (k:∀a ai,gM h ai->R a ai->aa Θ ah Z ρ (f a) Q ai):aa Θ ah Z ρ (t>>=f) Q h:=
 af.bind (af.mono x λa ai eH=>cz eH λe r=>af.mono (k a ai e r) λb ak r=>r.go (f:=.ext e))
theorem agZ{l:List L}(ok:bz Θ.fs (d+4) ah)(x:bD Θ Z ρ m H h)(hv:All2 (bg ρ) l vs)(aq:bH l.length=ae):aa Θ ah Z ρ (newList vs) (dC m (.new H.length) (H++[.list l])) h:=by
 refine aa.any ok λA s a6 bA bT e1 e2 aP=>?_
 subst e1;refine wpAny_newList ⟨?_,e2,aP⟩ (cT hv.length (oC aq));have sub:Sub ρ (ρ++[(s.heap.objs.size,s.heap.objs.size)]):=⟨_,rfl⟩;refine d4.added x (.push _ _) (o:=.list l) (p:=(s.heap.objs.size,s.heap.objs.size)) (cW _) (cW _) ⟨rfl,vs,0,hU _ rfl,hv.mono λ_ _ r=>r.sub sub⟩ ⟨rfl,rfl,.last x.len⟩
theorem ag0{l:List L}(ok:bz Θ.fs (d+4) ah)(x:bD Θ Z ρ m H h)(hv:All2 (bg ρ) l vs)(aq:bH l.length=ae):aa Θ ah Z ρ (newTuple vs) (dC m (.new H.length) (H++[.tup l])) h:=by
 refine aa.any ok λA s a6 bA bT e1 e2 aP=>?_
 subst e1;refine wpAny_newTuple ⟨?_,e2,aP⟩ (cT hv.length (oC aq));have sub:Sub ρ (ρ++[(s.heap.objs.size,s.heap.objs.size)]):=⟨_,rfl⟩;refine d4.added x (.push _ _) (o:=.tup l) (p:=(s.heap.objs.size,s.heap.objs.size)) (cW _) (cW _) ⟨rfl,vs,⟨_,hU _ rfl,rfl,_,rfl⟩,hv.mono λ_ _ r=>r.sub sub⟩ ⟨rfl,rfl,.last x.len⟩
theorem cE.list{aH pos}(bl:kl Θ C d aH):cE Θ C d (.List aH pos):=λ{ah Z ρ m H h k} ok a w=>by
 rw [arc] at w;have dh:eval (.List aH pos) Z=(do gw pos;newList (<-spliced (jB pos (ic aH Z)))):=rfl
 refine G dh (.stand (.bindV (bl ok a w) λvs' vs bG bI ai bL cP b9 bE=>?_))
 exact qI bE λaq bE=>(agZ ok bL b9 aq).toV bE
theorem cE.tuple{aH n pos}(bl:kl Θ C d aH):cE Θ C d (.Tuple aH n pos):=λ{ah Z ρ m H h k} ok a w=>by
 rw [arf] at w;have dh:eval (.Tuple aH n pos) Z=(do gw pos;newTuple (<-spliced (jB pos (ic aH Z)))):=rfl
 refine G dh (.stand (.bindV (bl ok a w) λvs' vs bG bI ai bL cP b9 bE=>?_))
 exact qI bE λaq bE=>(ag0 ok bL b9 aq).toV bE
theorem oF.frm{ρ cb:cr}{h av:bq}{ix:nl}{v:aG}(x:oF (Z:=Z) ρ h ix v)(f:d3 (own Z) ρ h cb av):oF (Z:=Z) cb av ix v:=by
 induction ix using Mine.Internal.nl.casesOn with
 |at_ u=>exact bg.sub f.sub x
 |sl a b=>
  refine BK x λs ajV u w bT j7 ef ja b9 dG hs fh xm=>?_;obtain rfl:=ajV
  refine⟨s,rfl,u,w,bT,j7,ef,ja,b9.sub f.sub,dG.sub f.sub,(f.keep _ _ hs (λz=>fh (ty z)) xm).exact (by simp),λeH=>mF eH λi p e z=>?_,xm⟩
  by_cases aQ:ρ.length<=i
  ·have q:=f.new i p e aQ;have ck:h.objs.size>s:=gE hs;rcases z with z|z<;>rw [z] at ck<;>lia
  ·obtain⟨q,cJ⟩:∃q,ρ[i]? =J q:=⟨_,iy (wq aQ)⟩;have :=f.sub.get cJ;rw [e] at this;obtain rfl:=ci this;exact fh ⟨i,p,cJ,z⟩
def oo(Θ:fa)(C:mL)(d:Nat)(e:aU):Prop:=∀ {ah Z ρ m H h} {k:nl->an->Prop} {bF:Type} {f:aG->Sem bF} {Q:bF->cr->Loc->an->Prop},bz Θ.fs (d+4) ah->bD Θ Z ρ m H h->
 v0 False C e (λH k=>bO False C e Z.scope.names m H k) Z.scope.names m H k->
 (∀ix aJ bG bI ai,bD Θ Z bG m bI ai->Sub ρ bG->oF (Z:=Z) bG ai ix aJ->k ix bI->aa Θ ah Z bG (f aJ) Q ai)->aa Θ ah Z ρ (eval e Z>>=f) Q h
theorem arl{e:aU}{W:an->(L->an->Prop)->Prop}{ax:ds}{m:Loc}{H:an}{k:nl->an->Prop}:A8 e=ae->v0 False C e W ax m H k=W H λv H=>k (.at_ v) H:=by
 rcases e<;>first |exact λ_=>(rfl:_=(W H λv H=>k (.at_ v) H))|exact λh=>b8 h
theorem oo.plain{e:aU}(bl:cE Θ C d e)(hn:A8 e=ae):oo Θ C d e:=λ{ah Z ρ m H h k bF f Q} ok a w aB=>by
 exact .bindV (bl ok a ((arl hn).mp w)) λaJ v bG bI ai bL cP b9 bE=>aB (.at_ v) _ _ _ _ bL cP b9 bE
def rL(Θ:fa)(C:mL)(d:Nat)(e:Option aU):Prop:=∀ {ah Z ρ m H h} {k:L->an->Prop},bz Θ.fs (d+4) ah->bD Θ Z ρ m H h->v1 False C e Z.scope.names m H k->aa Θ ah Z ρ (valueOrNone (evalOpt e Z)) (mT m k) h
theorem rL.none:rL Θ C d ac:=λok a w=>by rw [aro] at w;exact aa.pure a ⟨rfl,.none,rfl,w⟩
theorem rL.some{e}(bl:cE Θ C d e):rL Θ C d (J e):=λok a w=>by rw [arp] at w;exact bl ok a w
set_option tactic.hygienic true in
theorem oo.slice{a b pos}(ha:rL Θ C d a)(hb:rL Θ C d b):oo Θ C d (.Slice a b ac pos):=λ{ah Z ρ m H h k bF f Q} ok gk w aB=>by
 rw [ark] at w;have dh:eval (.Slice a b ac pos) Z=(do
  let l <-valueOrNone (evalOpt a Z)
  let u <-gO [l] (valueOrNone (evalOpt b Z))
  let s <-gO [l,u] (bK .none)
  newFields "slice" [l,u,s]):=rfl
 refine G dh ?_;simp only [uv];refine .bindV (ha ok gk w) λef u bG bI ai bL cP b9 bE=>.bindV (.holding (hb ok bL bE)) λaJ v du cN ak cX d6 dG ea=>?_
 try dsimp only at ea
 split at ea
 ·rename_i hu fy e1 e2;refine .bind (.holding (.pure cX (Q:=λx cb bV bb=>x=.none/\cb=du/\bV=m/\bb=cN) ⟨rfl,rfl,rfl,rfl⟩)) λx kf m cg aZ fx hN cV=>?_
  refine v5 cV λaM a7 q3 iF=>?_
  subst aM a7 q3 iF;obtain⟨A,cS,-,-⟩:=ok.room;refine .grow (R:=λx ai=>x=.ref aZ.objs.size/\ai.get? aZ.objs.size=J {cls:=.type "slice",data:=.fields #[ef,aJ,.none]}) ?_ λx cC jD eH=>cz eH λaM a7=>?_
  ·refine af.any cS λs e1 e2 aP=>?_
   subst e1;exact qp (data:=.fields #[ef,aJ,.none]) ⟨⟨.push _ _,rfl,hU _ rfl⟩,e2,aP⟩ (by show 3<=mh+2;exact G k9 (F9 3 16777215))
  ·subst aM;have lt:∀ {b:a1},aZ.objs.size>b->aZ.objs.size≠b:=λz q=>by rw [<-q] at z;exact jn _ z
   refine aB (.sl hu fy) _ _ _ _ (fx.ext jD) (cP.trans (d6.trans hN)) ⟨_,rfl,u,v,e1,e2,ef,aJ,b9.sub (d6.trans hN),dG.sub hN,a7,λeH=>mF eH λi p e z=>?_,λz=>lt (fx.out _ z).2.2 rfl⟩ ea
   have :=fx.rel.lt e;rcases z with z|z
   ·exact lt this.1 z
   ·exact lt this.2 z
 ·exact ea.elim
theorem af.holdBind{w:eJ}{bp:gv}{t:Sem ay}{f:ay->Sem bF}{Q:bF->bq->Prop}(x:af w bp ah (t>>=f) Q h):af w bp ah (PySem.holding vs t>>=f) Q h:=λs p e1 e2 aP=>by
 have :=x s p e1 e2 aP;rw [wB] at this⊢;exact G (Sem.wp_holding ..) this
theorem aoY{i:aU}(h:∀a b c p,i=.Slice a b c p->c=ac)(o' eM:aG):∃vs,subscripted i aA o' eM=operate vs (oj o' eM):=by
 revert h
 rcases i with _|_|_|_|_|_|_|_|_|_|_|_|_|_|_|_|_|_|_|_|_|_|_|_|_|_|⟨a,b,c,p⟩<;>first |exact λ_=>⟨[o',eM],rfl⟩|skip
 intro h;obtain rfl:=h _ _ _ _ rfl;exact⟨[eM,o'],rfl⟩
set_option tactic.hygienic true in
theorem cE.subscript{o i pos}(aR:cE Θ C d o)(hi:oo Θ C d i)(afk:∀a b c p,i=.Slice a b c p->c=ac):cE Θ C d (.Subscript o i pos):=λ{ah Z ρ m H h k} ok a w=>by
 rw [are] at w;refine G (eval_Subscript ..) (.bindV (aR ok a w) λo' gK bG bI ai bL cP b9 bE=>af.holdBind (hi ok bL bE λix eM du cN ak cX d6 dG ea=>.stand ?_))
 split at ea
 ·rename_i v cg e;refine .bindF (agV ok cX (b9.sub d6) (ix:=ix) (G e rfl)) λb kf m eD aZ fx ee cV=>?_
  refine dS cV λaM a7 q3=>?_
  subst aM a7 q3;have cq:aa Θ ah Z kf (oj o' eM>>=λr=>uJ o o' r>>=λ_=>bK r) (mT m k) aZ:=by
   exact .bindR (agW ok fx (b9.sub (d6.trans ee.sub)) (dG.frm ee) e) λr rc cC ko xB q3=>.bindU (Ts ok ko) λ_ pZ gl pm Td=>.pure pm ⟨rfl,v,q3.sub Td,ea⟩
  have ai2:∀ {vs:List aG} {f:aG->Sem aG} {Q:aG->bq->Prop},af Θ.w Θ.O ah (oj o' eM>>=f) Q aZ->af Θ.w Θ.O ah (operate vs (oj o' eM)>>=f) Q aZ:=λx s p e1 e2 aP=>by
   have :=x s p e1 e2 aP;rw [wB] at this⊢;exact G (Sem.wp_operate ..) this
  exact cm (aoY afk o' eM) λvs e=>G e (ai2 cq)
 ·exact ea.elim
section
variable {e:aU}
set_option tactic.hygienic true in
theorem Ps{pos:Pos}:∀ {rs:List aU},(∀e∈rs,cE Θ C d e)->∀ {dX:List CmpOp} {a:L} {db:aG} {ah Z ρ m H h} {k:Bool->an->Prop},dX.length=rs.length->bz Θ.fs (d+4) ah->bD Θ Z ρ m H h->bg ρ a db->
  sv False C rs dX a Z.scope.names m H k->aa Θ ah Z ρ (testChain pos db dX (qm rs Z)) (λb _ bV bb=>bV=m/\k b bb) h/\
   aa Θ ah Z ρ (compareChain pos db dX (qm rs Z)) (λck _ bV bb=>bV=m/\∃b,ck=.bool b/\k b bb) h:=by
 intro rs;induction rs with
 |nil=>exact @λ_ dX a db ah Z ρ m H h k aQ ok gk ra w=>(aq4.mp w).elim
 |cons r rs ih=>
  intro da dX a db ah Z ρ m H h k aQ ok gk ra w;rcases dX with _|⟨bM,dX⟩
  ·rw [T8] at w;exact w.elim
  rw [T8] at w;try dsimp only at w
  have step:=(da r fK) ok gk w;induction rs using mO with
  |nil=>
   induction dX using mO with
   |nil=>
    constructor
    ·show aa Θ ah Z ρ (gO [db] (eval r Z)>>=λf0=>gw pos>>=λ_=>operate [db,f0] (s7 bM db f0)>>=λc=>gO [c] (truthy c)) _ h
     refine .bindV (.holding step) λck b bG bI ai bL cP b9 bE=>.stand ?_
     try dsimp only at bE
     set_option smartUnfolding false in refine jM bE λc e bE=>?_
     refine .bindR (.operate (DS ok bL (ra.sub cP) b9 e)) λc' du ak cX d6 q3=>?_
     cases q3;exact .holding (.pure cX ⟨rfl,bE⟩)
    ·show aa Θ ah Z ρ (gO [db] (eval r Z)>>=λf0=>gw pos>>=λ_=>operate [db,f0] (s7 bM db f0)) _ h
     refine .bindV (.holding step) λck b bG bI ai bL cP b9 bE=>.stand ?_
     try dsimp only at bE
     set_option smartUnfolding false in refine jM bE λc e bE=>?_
     exact(aa.operate (DS ok bL (ra.sub cP) b9 e)).mono λc' du m cN eH=>dS eH λaM a7 q3=>⟨aM,c,q3,a7▸bE⟩
   |cons en dX=>simp at aQ
  |cons dG rs=>
   induction dX using mO with
   |nil=>simp at aQ
   |cons en dX=>
    have xc:(en::dX).length=(dG::rs).length:=by simpa using aQ
    constructor
    ·show aa Θ ah Z ρ (gO [db] (eval r Z)>>=λf0=>gw pos>>=λ_=>gO [db,f0] (s7 bM db f0)>>=λc=>zF [db,f0] [c]>>=λ_=>gO [c,f0] (truthy c)>>=λt=>if t=ae then testChain pos f0 (en::dX) (qm (dG::rs) Z) else bK aA) _ h
     refine .bindV (.holding step) λck b bG bI ai bL cP b9 bE=>.stand ?_
     try dsimp only at bE
     set_option smartUnfolding false in refine jM bE λc e bE=>?_
     refine .bindR (.holding (DS ok bL (ra.sub cP) b9 e)) λc' du ak cX d6 q3=>?_
     cases q3;refine .release (.bindB (.holding (.pure cX (Q:=λt _ bV bb=>bV=m/\(t=c/\bb=bI)) ⟨rfl,rfl,rfl⟩)) λt kf cg aZ fx hN q=>?_)
     refine cz q λajW ajX=>?_;obtain rfl:=ajW;obtain rfl:=ajX
     induction t using t5 with
     |true=>exact(ih (λe bl=>da e (f8 _ bl)) xc ok fx (b9.sub (d6.trans hN)) bE).1
     |false=>exact .pure fx ⟨rfl,bE⟩
    ·show aa Θ ah Z ρ (gO [db] (eval r Z)>>=λf0=>gw pos>>=λ_=>gO [db,f0] (s7 bM db f0)>>=λc=>zF [db,f0] [c]>>=λ_=>gO [c,f0] (truthy c)>>=λt=>if t=ae then compareChain pos f0 (en::dX) (qm (dG::rs) Z) else bK c) _ h
     refine .bindV (.holding step) λck b bG bI ai bL cP b9 bE=>.stand ?_
     try dsimp only at bE
     set_option smartUnfolding false in refine jM bE λc e bE=>?_
     refine .bindR (.holding (DS ok bL (ra.sub cP) b9 e)) λc' du ak cX d6 q3=>?_
     cases q3;refine .release (.bindB (.holding (.pure cX (Q:=λt _ bV bb=>bV=m/\(t=c/\bb=bI)) ⟨rfl,rfl,rfl⟩)) λt kf cg aZ fx hN q=>?_)
     refine cz q λajY ajZ=>?_;obtain rfl:=ajY;obtain rfl:=ajZ
     induction t using t5 with
     |true=>exact(ih (λe bl=>da e (f8 _ bl)) xc ok fx (b9.sub (d6.trans hN)) bE).2
     |false=>exact .pure fx ⟨rfl,aA,rfl,bE⟩
theorem cE.compare{l dX rs pos}(aQ:cE Θ C d l)(da:∀e∈rs,cE Θ C d e)(bc:lastMarks dX rs=aA):cE Θ C d (.Compare l dX rs pos):=λ{ah Z ρ m H h k} ok a w=>by
 rw [aq9] at w;refine qI w λmZ w=>?_
 have dh:eval (.Compare l dX rs pos) Z=(eval l Z>>=λx=>compareChain pos x dX (markedEach dX rs (qm rs Z))):=rfl
 refine G dh (G (markedEach_of_false _ _ _ bc) ?_);exact .bindV (aQ ok a w) λdb v bG bI ai bL cP b9 bE=>(Ps da mZ ok bL b9 bE).2.mono λck du m cN eH=>Mm eH λaM b a7 q3=>⟨aM,.bool b,a7,q3⟩
theorem ST.compare{l dX rs pos}(aQ:cE Θ C d l)(da:∀e∈rs,cE Θ C d e)(bc:lastMarks dX rs=aA):ST Θ C d (.Compare l dX rs pos):=λ{ah Z ρ m H h k} ok a w=>by
 rw [arF] at w;refine qI w λmZ w=>?_
 have dh:isTrue (.Compare l dX rs pos) Z (eval (.Compare l dX rs pos) Z)=(eval l Z>>=λx=>testChain pos x dX (markedEach dX rs (qm rs Z))):=rfl
 refine G dh (G (markedEach_of_false _ _ _ bc) ?_);exact .bindV (aQ ok a w) λdb v bG bI ai bL cP b9 bE=>(Ps da mZ ok bL b9 bE).1
theorem TP{v:L}{aJ:aG}{b:Bool}(r:bg ρ v aJ)(e:ky v=J b):aJ=.bool b:=by
 rcases v<;>cases e;exact r
theorem arH{W:an->(L->an->Prop)->Prop}{ax:ds}{m:Loc}{H:an}{k:Bool->an->Prop}:xs e=ae->ge False C e W ax m H k=W H (qZ False k):=by
 rcases e<;>first |exact λ_=>(rfl:_=W H (qZ False k))|exact λh=>b8 h
noncomputable def TM(p:Pos)(v:aG):Sem Bool:=gw p>>=λ_=>gO [v] (truthy v)
theorem isTrue_plain{Z:Env}{x:Sem aG}:xs e=ae->isTrue e Z x=(x>>=TM e.pos):=by
 rcases e<;>first |exact λ_=>(rfl:_=(x>>=TM _))|exact λh=>b8 h
set_option tactic.hygienic true in
theorem ST.plain(bl:cE Θ C d e)(hp:xs e=ae):ST Θ C d e:=λ{ah Z ρ m H h k} ok a w=>by
 rw [arH hp] at w;refine G (isTrue_plain hp) (.bindV (bl ok a w) λaJ v bG bI ai bL cP b9 bE=>.stand (.holding ?_))
 unfold qZ at bE;set_option smartUnfolding false in refine jM bE λb e bE=>?_
 cases TP b9 e;exact .pure bL ⟨rfl,bE⟩
theorem ST.not{x pos}(aO:ST Θ C d x):ST Θ C d (.UnaryOp .Not x pos):=λ{ah Z ρ m H h k} ok a w=>by
 rw [arG] at w;show aa Θ ah Z ρ (isTrue x Z (eval x Z)>>=λb=>bK (!b)) _ h
 exact .bindB (aO ok a w) λb bG bI ai bL cP bE=>.pure bL ⟨rfl,bE⟩
theorem OR{bM:ww}:∀ {aH:List aU},(∀e∈aH,ST Θ C d e)->∀ {ah Z ρ m H h} {k:Bool->an->Prop},bz Θ.fs (d+4) ah->bD Θ Z ρ m H h->vW False C aH bM Z.scope.names m H k->
  aa Θ ah Z ρ (allTrue bM aH Z) (λb _ bV bb=>bV=m/\k b bb) h
 | []=> @λ_ ah Z ρ m H h k ok a w=>by
  exact aa.pure a ⟨rfl,aqV.mp w⟩
 |e::aH=> @λbl ah Z ρ m H h k ok a w=>by
  rw [aqU] at w;have dh:allTrue bM (e::aH) Z=(isTrue e Z (eval e Z)>>=λb=>match bM,b with
   | .And,aA=>bK aA
   | .Or,ae=>bK ae
   |_,_=>allTrue bM aH Z):=rfl
  refine G dh (.bindB (bl e fK ok a w) λb bG bI ai bL cP bE=>?_)
  rcases bM<;>rcases b<;>first |exact .pure bL ⟨rfl,bE⟩|exact OR (λe h=>bl e (f8 _ h)) ok bL bE
theorem ST.bool{bM vs pos}(hv:∀e∈vs,ST Θ C d e):ST Θ C d (.BoolOp bM vs pos):=λ{ah Z ρ m H h k} ok a w=>by
 rw [arE] at w;exact OR hv ok a w
theorem aac{bM:ww}{pos:Pos}:∀ {aH:List aU},(∀e∈aH,cE Θ C d e)->∀ {ah Z ρ m H h} {k:L->an->Prop},bz Θ.fs (d+4) ah->bD Θ Z ρ m H h->vZ False C aH bM Z.scope.names m H k->
  aa Θ ah Z ρ (boolOp pos bM (qm aH Z)) (mT m k) h:=by
 intro aH;induction aH with
 |nil=>exact @λ_ ah Z ρ m H h k ok a w=>(aq3.mp w).elim
 |cons e aH ih=>
  intro bl ah Z ρ m H h k ok a w;rcases aH with _|⟨e2,aH⟩
  ·exact bl e fK ok a (T7.mp w)
  rw [T7] at w;have dh:boolOp pos bM (qm (e::e2::aH) Z)=(eval e Z>>=λv=>gw pos>>=λ_=>gO [v] (truthy v)>>=λt=>match bM,t with
   | .And,aA| .Or,ae=>bK v
   |_,_=>boolOp pos bM (qm (e2::aH) Z)):=rfl
  refine G dh (.bindV (bl e fK ok a w) λaJ v bG bI ai bL cP b9 bE=>.stand ?_)
  cases q:ky v with
  |none=>rw [q] at bE;rcases bM<;>exact bE.elim
  |some b=>
   rw [q] at bE;cases TP b9 q;refine .bind (.holding (.pure bL (Q:=λt cb bV bb=>t=b/\bV=m/\bb=bI/\cb=bG) ⟨rfl,rfl,rfl,rfl⟩)) λt kf m cg aZ fx hN cV=>?_
   refine v5 cV λaM a7 q3 iF=>?_
   subst aM a7 q3 iF;rcases bM<;>rcases t<;>first |exact .pure fx ⟨rfl,v,b9,bE⟩|exact ih (λe h=>bl e (f8 _ h)) ok fx bE
theorem cE.bool{bM vs pos}(hv:∀e∈vs,cE Θ C d e):cE Θ C d (.BoolOp bM vs pos):=λ{ah Z ρ m H h k} ok a w=>by
 rw [aq8] at w;exact aac hv ok a w
end
variable {e:aU}
section
variable {c':aG×List aG}{aH:List aU}{f:aU}{k:L->an->Prop}
theorem Lf{e:aU}(hn:gA (e::aH)=ae)(Z:Env):ic (e::aH) Z=(aA,eval e Z)::ic aH Z:=by
 have hn:=(eZ hn);revert hn
 rcases e<;>first |exact λ_=>(rfl:_=((aA,eval _ Z)::ic aH Z))|exact λh=>b8 h
theorem Ek{pos:Pos}:∀ {aH:List aU} (_:gA aH=ae) (Z:Env),(jB pos (ic aH Z)).any (·.1)=aA/\(jB pos (ic aH Z)).all (!·.1)=ae/\(jB pos (ic aH Z)).length=aH.length
 | [],_,Z=>⟨rfl,rfl,rfl⟩
 |e::aH,hn,Z=>by
  have lm:gA aH=ae:=by unfold gA at hn⊢;rw [wk,he] at hn;exact hn.2
  refine dS (Ek (pos:=pos) lm Z) λa b c=>G (Lf hn ..) ?_
  exact⟨by show(aA||(jB pos (ic aH Z)).any (·.1))=aA;exact G (a ..) rfl,by show(ae&&(jB pos (ic aH Z)).all (!·.1))=ae;exact G b rfl,by show(jB pos (ic aH Z)).length+1=_;exact G c rfl⟩
theorem Eg{f':aG}{pos:Pos}(hs:kl Θ C d aH)(hn:gA aH=ae){k:List L->an->Prop}(ok:bz Θ.fs (d+4) ah)(a:bD Θ Z ρ m H h)(w:ju False C aH Z.scope.names m H k):
  aa Θ ah Z ρ (evalArgs f' ae (jB pos (ic aH Z)) []) (λa cb bV bb=>bV=m/\a.kw=[]/\∃vs,All2 (bg cb) vs a.pos/\k vs bb) h:=by
 have a6:=hs (pos:=pos) ok a w;have cq:∀ {vs':List aG} {bG dF bI ai},bD Θ Z bG dF bI ai->dF=m->(∃vs,All2 (bg bG) vs vs'/\k vs bI)->aa Θ ah Z bG (gO (vs'++(ac:Option aG).toList) (evalAll []>>=λff=>(bK vs':Sem (List aG))>>=λl=>(bK ⟨l,List.zip [] ff⟩:Sem Args))) (λa cb bV bb=>bV=m/\a.kw=[]/\∃vs,All2 (bg cb) vs a.pos/\k vs bb) ai:=
  λbL aM eH=>bU eH λvs b9 bE=>.holding (.pure bL ⟨aM,rfl,vs,b9,bE⟩)
 induction aH using mO with
 |nil=>
  refine af.bind (af.mono a6 λvs' ai ⟨bG,dF,bI,bL,ch,aM,a7⟩=>af.bind (af.pure ?_))
  exact af.mono (cq (vs':=vs') bL aM a7) λ_ _ r=>r.go (f:=ch)
 |cons e aH=>
  rw [Lf hn] at a6⊢;refine af.bind (af.mono a6 λvs' ai ⟨bG,dF,bI,bL,ch,aM,a7⟩=>af.bind (af.pure ?_))
  exact af.mono (cq (vs':=vs') bL aM a7) λ_ _ r=>r.go (f:=ch)
theorem aoH{f:a1}{vs:List L}{vs':List aG}(ok:bz Θ.fs d ah)(a:bD Θ Z ρ m H h)(hv:All2 (bg ρ) vs vs')(w:BS Θ d f vs H k):
  aa Θ ah Z ρ (PySem.call (.ref f) vs') (mT m k) h:=
 af.mono (w ah ρ h vs' ok a.rel hv) λaJ ai eH=>tZ eH λbG bI v b9 ch aM a7=>⟨bG,m,bI,a.call b9 ch,ch.wide,rfl,v,aM,a7⟩
set_option tactic.hygienic true in
theorem aoG{vs:List L}{vs':List aG}(dD:n0 Θ d C)(ok:bz Θ.fs (d+4) ah)(a:bD Θ Z ρ m H h)(aD:rU Θ.w.params ρ c c')(hv:All2 (bg ρ) vs vs')
  (w:bB False C c vs H k):aa Θ ah Z ρ (PySem.call c'.1 (c'.2++vs')) (mT m k) h:=by
 obtain⟨f',An⟩:=c';induction c using Mine.Internal.l8.casesOn with
 |fn f self=>
  refine dS aD λaj0 hs _=>?_;obtain rfl:=aj0
  exact aoH (ok.mono (k4 d 4)) a (hs.append hv) (dD _ _ _ _ w)
 |cls c i=>
  refine Ud aD λe _ bc hi aq ll=>?_
  refine oN e λaj1 aj2=>?_;obtain rfl:=aj1;obtain rfl:=aj2
  obtain⟨A,cS,-,-⟩:=ok.room;have ext:gM h ((h.push rC).push (kj c h.objs.size)):=(gM.push _ _).trans (.push _ _);have d1:((h.push rC).push (kj c h.objs.size)).get? (h.objs.size+1)=J (kj c h.objs.size):=by
   have :=hU (h.push rC) (o:=kj c h.objs.size) rfl;rwa [ib] at this
  have g2:((h.push rC).push (kj c h.objs.size)).get? h.objs.size=J (qi [] 0):=k6 _ (hU _ rfl);have bL:d4 Θ Z ρ h (λ(_:Unit) cb bV bb=>cb=ρ++[(h.objs.size+1,h.objs.size)]/\bV=m/\bb=H++[.inst c []]) () ((h.push rC).push (kj c h.objs.size)):=
   .added a ext (p:=(h.objs.size+1,h.objs.size)) (o:=.inst c []) (uB _) (cW _) ⟨ll,Nat.succ_ne_self _,d1,[],0,g2,.nil⟩ ⟨rfl,rfl,rfl⟩
  obtain⟨bG,m,bI,bL,ch,aM,a7,q3⟩:=bL;subst aM a7 q3;refine af8 (n:=d) (ok.mono (uB (d+3))) a.rel.base.k bc hi aq λgU hM=>?_
  have aQ:bg (ρ++[(h.objs.size+1,h.objs.size)]) (.new H.length) (.ref (h.objs.size+1)):=.last (p:=(h.objs.size+1,h.objs.size)) a.len;refine af.mono (dD _ _ _ _ w gU _ _ _ (hM.mono (k4 d 1)) bL.rel (.cons aQ (hv.mono λ_ _ r=>r.sub ⟨_,rfl⟩))) λaJ ai cV=>?_
  refine tZ cV λdu cN v dG cd aM a7=>?_
  rcases v<;>first |exact a7.elim|skip
  exact⟨aM,du,_,cN,bL.call dG cd,ch.trans cd.wide,rfl,_,aQ.sub cd.sub,a7⟩
 |bi aB=>
  refine cz aD λe _=>?_
  refine oN e λaj3 aj4=>?_;obtain rfl:=aj3;obtain rfl:=aj4
  set_option smartUnfolding false in exact Kf w λv bI e w=>(agS ok a hv e).toV w
 |me o n=>
  set_option smartUnfolding false in exact Kf w λv bI e w=>(agX (c:=(f',An)) ok a hv aD e).toV w
theorem rU.sub{P:cB}{ρ cb:cr}(s:Sub ρ cb):∀ {c:l8} {c':aG×List aG},rU P ρ c c'->rU P cb c c':=λ{c c'}=>by
 rcases c with⟨f,self⟩|⟨c,i⟩|aB|⟨o,n⟩
 ·exact λx=>dS x λa b q=>⟨a,b.mono λ_ _ r=>r.sub s,q⟩
 ·exact λx=>x
 ·exact λx=>x
 ·exact λx=>kA x λo' id a b q=>⟨o',id,a.sub s,b,q⟩
set_option tactic.hygienic true in
theorem Tq(ok:bz Θ.fs (d+4) ah)(a:bD Θ Z ρ m H h)(aD:rU Θ.w.params ρ c c'):
  aa Θ ah Z ρ (CD c'.1) (λk cb bV bb=>bV=m/\bb=H/\(k=.frame\/k=.machine)) h:=by
 have TU:wC (dk Θ.w.params) c'.1=ae->aa Θ ah Z ρ (CD c'.1) (λk cb bV bb=>bV=m/\bb=H/\(k=.frame\/k=.machine)) h:=λhk=>by
  exact bU (looks_keep (M:=c8 prog Θ.w) hk a.rel.base.k) λk ai ak=>af.looks ok ak (.now a ⟨rfl,rfl,ai⟩)
 have TV:(∀a,c'.1≠.ref a)->aa Θ ah Z ρ (CD c'.1) (λk cb bV bb=>bV=m/\bb=H/\(k=.frame\/k=.machine)) h:=λhk=>by
  have :CD c'.1=bK .machine:=by
   unfold CD;split
   ·rename_i x q;exact absurd q (hk _)
   ·rfl
  exact G this (.pure a ⟨rfl,rfl,.inr rfl⟩)
 obtain⟨f',An⟩:=c';induction c using Mine.Internal.l8.casesOn with
 |fn f self=>refine dS aD λaj5 _ hk=>?_;obtain rfl:=aj5;exact TU hk
 |cls c i=>refine dS aD λe hk _=>?_;refine oN e λaj7 aj8=>?_;obtain rfl:=aj7;obtain rfl:=aj8;exact TU hk
 |bi aB=>refine cz aD λe hk=>?_;refine oN e λaj9 aka=>?_;obtain rfl:=aj9;obtain rfl:=aka;exact TV hk
 |me o n=>refine kA aD λo' id _ e _=>?_;refine oN e λakb akc=>?_;obtain rfl:=akb;obtain rfl:=akc;exact TV λa q=>by cases q
theorem af.ite_{w:eJ}{bp:gv}{c:Prop}{_:Decidable c}{a b:Sem ay}{Q:ay->bq->Prop}(k1:af w bp ah a Q h)(k2:af w bp ah b Q h):af w bp ah (if c then a else b) Q h:=af.ite (λ_=>k1) λ_=>k2
theorem Tn{pos:Pos}(dD:n0 Θ d C)(hs:kl Θ C d aH)(hn:gA aH=ae)(aQ:aH.length<30)(ok:bz Θ.fs (d+4) ah)(a:bD Θ Z ρ m H h)
  (aD:rU Θ.w.params ρ c c') (w:ju False C aH Z.scope.names m H λvs H=>bB False C c vs H k):aa Θ ah Z ρ (Cy pos c'.1 c'.2 (jB pos (ic aH Z)) []) (mT m k) h:=by
 refine dS (Ek (pos:=pos) hn Z) λn1 n2 A4=>.bind (.holding (Eg hs hn ok a w)) λzR bG m bI ai bL cP cV=>.stand ?_
 refine tX cV λaM a7 vs b9 bE=>?_
 subst aM;obtain⟨vs',iT⟩:=zR;dsimp only at a7 b9;subst a7;refine G n1 (.bindR (Tq ok bL (aD.sub cP)) λqO du ak cX d6 q3=>?_)
 have vN:∀ {t:Sem aG},aa Θ ah Z du t (mT m k) ak->aa Θ ah Z du (t>>=λr=>gO [r] point>>=λ_=>bK r) (mT m k) ak:=λce=>
  .bind ce λr kf m cg aZ fx hN q=>af.bind (af.holding (af.point (aa.pure fx q)))
 have vw:=aoG dD ok cX (aD.sub (cP.trans d6)) (b9.mono λ_ _ r=>r.sub d6) bE
 rcases q3 with rfl|rfl
 ·exact af.ite_ (vN vw) (vN (af.keep vw))
 ·exact vN vw
noncomputable def Po{cs:Type}(aK:cs)(C:a1->List L->an->(L->an->cs)->cs)(aH:List aU)(ax:ds)(m:Loc)(k:L->an->cs)(ad1:L)(H:an):cs:=match HJ ad1 with
 |J c=>ju aK C aH ax m H λvs H=>bB aK C c vs H k
 |ac=>aK
theorem arh{pos:Pos}{ax:ds}{m:Loc}{H:an}:A7 f=ae->bO False C (.Call f aH [] pos) ax m H k=bO False C f ax m H (Po False C aH ax m k):=by
 rcases f<;>first |exact λ_=>(rfl:_=bO False C _ ax m H (Po False C aH ax m k))|exact λh=>b8 h
noncomputable def Pp(aH:List aU)(pos:Pos)(Z:Env)(f:aG):Sem aG:=Cy pos f [] (jB pos (ic aH Z)) []
theorem adl{pos:Pos}{Z:Env}:A7 f=ae->eval (.Call f aH [] pos) Z=(eval f Z>>=Pp aH pos Z):=by
 rcases f<;>first |exact λ_=>(rfl:_=(eval _ Z>>=Pp aH pos Z))|exact λh=>b8 h
set_option tactic.hygienic true in
theorem cE.call{pos:Pos}(dD:n0 Θ d C)(aq:cE Θ C d f)(hs:kl Θ C d aH)(hn:gA aH=ae)(aQ:aH.length<30)(QK:A7 f=ae):cE Θ C d (.Call f aH [] pos):=λ{ah Z ρ m H h k} ok a w=>by
 rw [arh QK] at w;refine G (adl QK) (.bindV (aq ok a w) λf' v bG bI ai bL cP b9 bE=>?_)
 set_option smartUnfolding false in exact jM bE λc e bE=>Tn (c':=(f',[])) dD hs hn aQ ok bL (abG b9 e) bE
set_option tactic.hygienic true in
theorem cE.meth{o:aU}{n:Str}{uP pos:Pos}(dD:n0 Θ d C)(aR:cE Θ C d o)(hs:kl Θ C d aH)(hn:gA aH=ae)(aQ:aH.length<30)(hb:∀Z g0,Cw o n Z g0=g0)
  (hp:(uP.endLine==pos.line)=ae):cE Θ C d (.Call (.Attribute o n uP) aH [] pos):=λ{ah Z ρ m H h k} ok a w=>by
 have ja:bO False C o Z.scope.names m H λeN H=>match bx eN n H with
  |J c=>ju False C aH Z.scope.names m H λvs H=>bB False C c vs H k
  |ac=>False:=w
 have dh:eval (.Call (.Attribute o n uP) aH [] pos) Z=(Cw o n Z (eval o Z)>>=λeN=>gw uP.atName>>=λ_=>Gy o n uP pos Z eN (aH.length+0) (jB pos (ic aH Z)) []):=rfl
 refine G dh (G (hb ..) ?_);refine .bindV (aR ok a ja) λo' v bG bI ai bL cP b9 bE=>.stand ?_
 split at bE
 ·rename_i c e;unfold Gy;have Ie:NR (aH.length+0) (jB pos (ic aH Z)) []=ae:=by
   unfold NR;refine G ((Ek (pos:=pos) hn Z).2.1) ?_;simp;exact Nat.lt_of_succ_le aQ
  refine G Ie (.bindR (.holding (Rp ok bL b9 e)) λc' du ak cX d6 q3=>?_)
  unfold methodCallPos;exact G hp (Tn dD hs hn aQ ok cX q3 bE)
 ·exact bE.elim
end
section
variable {c:lH}{x:Str}
section
variable {bp:gv}
def kh(w:eJ)(bp:gv)(ah:Ctx)(R:nq->bq->Prop)(h:bq):Prop:=
 ∀s p,s.heap=h->s.gens= #[]->s.os=bp->wpCode (c8 prog w) ah (λr aS=>∃f,r=.ok f/\R f aS.heap/\aS.gens= #[]/\aS.os=bp) p s
theorem kh.tree{R:nq->bq->Prop}(aD:ah.code=c)(x:af w bp ah ((c8 prog w).den c) (λcq av=>match cq with | .done f=>R f av| .again c'=>c'.quiet=ae/\kh w bp (ah.goto c') R av) h):kh w bp ah R h:=λs p e1 e2 aP=>by
 (refine fB (N1 ..) ?_;rw [aD])
 refine lJ _ _ _ (λcq gZ aS y=>?_) (λ_ _ _ y=>y.elim) _ _ (x s p e1 e2 aP)
 refine dS y λcA de fi=>?_
 induction cq using PySem.Fin.casesOn with
 |done f=>exact⟨f,rfl,cA,de,fi⟩
 |again c'=>exact⟨cA.1,cA.2 aS gZ rfl de fi⟩
theorem af.run{Q:nq->bq->Prop}(x:∀p,kh w bp (ah.enter c ac p) Q h):af w bp ah (PySem.run c ac) Q h:=λs p e1 e2 aP=>by
 refine G (Sem.wp_run ..) (GK (λr aS y=>?_) (x p s p e1 e2 aP))
 refine kT y λf akd a b=>?_;obtain rfl:=akd
 exact⟨a,b⟩
theorem af.runOwn{Z:Env}{Q:nq->bq->Prop}(x:∀p,kh w bp (ah.enter c ac p) Q h):af w bp ah (PySem.runOwn c Z ac) Q h:=
 af.onRaise (af.run x)
end
theorem T0{M:qh}{A:kI}{E:aG->cn->Prop}{s:cn}{a:a1}{m}{name:Str}{v:aG}{Q:Unit->cn->Prop}(hn:s.heap.Ns a m)
  (q:∀av,av.Ns a (λx=>if x=name then J v else m x)->zz a s.heap av->(∀o,s.heap.get? a=J o->∃o',av.get? a=J o'/\o'.cls=o.cls)->Q () {s with heap:=av,toks:=s.toks+1}):
  cG M A (nsSet a name v) Q E s:=by
 refine tZ (id hn) λo aH ii aR bA hk bc=>?_
 have key:∀ol:Unit->cn->Prop,∀ah p,ah.In A->(gN M ah (nsSet a name v) (λu _ aS=>ol u aS) (λe _ aS=>E e aS) p s↔ol () {s with heap:=s.heap.update a (zA name (if name.cps.isEmpty then 0 else reduceHash (M.w.params.strHash name.cps)) (.str name s.toks) v),toks:=s.toks+1}):=λol ah p _=>by
  simp only [nsSet,strHash,wB,Sem.wp_cmd_ask,Sem.wp_pure',Sem.wp_cmd_mkText];refine G (Sem.wp_loadPart_of M ah _ p {s with toks:=s.toks+1} (o:=o) _ aR ..) ?_
  have aeD:aH.any (·.refKey)=aA:=by
   refine fB Array.any_eq_false' ?_;intro e bl;refine oY (hk e bl) λn t h=>?_;simp [NG,h]
  simp only [bA,aRefKeyMayBeTheName_eq,aRefKeyMayBeTheNameByArray,aeD,Bool.and_false,ng,if_false,Sem.wp_cmd_updatePart];exact⟨λz=>z.2,λz=>⟨G aR rfl,z⟩⟩
 intro ah p I8;refine fB (key Q ah p I8) ?_;have k2:=(key (λ_ aS=>aS.heap.Ns a (λx=>if x=name then J v else m x)/\zz a s.heap aS.heap) ah p I8).mp (wpAny_nsSet hn (λav x y=>⟨x,y⟩) ah p I8)
 refine q _ k2.1 k2.2 λo' e=>?_
 rw [aR] at e;obtain rfl:=ci e;obtain⟨c,d,dt,sl⟩:=o;subst bA;have kt:∀(z:Int) (y:aG),(zA name z y v ⟨c,d,.dict aH ii,sl⟩).isFreed=aA/\(zA name z y v ⟨c,d,.dict aH ii,sl⟩).cls=c:=λz y=>by
  unfold zA;dsimp only;split<;>exact⟨rfl,rfl⟩
 exact⟨_,s0 _ aR (kt _ _).1,(kt _ _).2⟩
theorem fW.apart(x:fW Θ ρ H h){X:List a1}(f4:∀b∈X,¬gQ ρ b/\Θ.h₀.get? b=ac)(k:∀b o,b∉X->h.get? b=J o->av.get? b=J o)
  (Jq:∀b o aH n,b∈X->h.get? b=J o->o.data=.dict aH n->∃o' aH n,av.get? b=J o'/\o'.cls=o.cls/\o'.data=.dict aH n):fW Θ ρ H av:=by
 refine⟨x.len,λb o e=>k b o (λz=>?_) (x.old b o e),x.low,x.sep,λi p o e1 e2=>(x.obj i p o e1 e2).keeps (λo e=>k _ o (λz=>(f4 _ z).1 ⟨i,p,e1,.inl rfl⟩) e) λo e=>k _ o (λz=>(f4 _ z).1 ⟨i,p,e1,.inr rfl⟩) e,λb hb=>?_⟩
 ·have :=(f4 b z).2;rw [e] at this;exact br this.symm
 ·refine dS (x.frm b hb) λch ake cd=>?_;obtain⟨o,e,c,aH,n,dd⟩:=ake
  refine⟨ch,?_,cd⟩;by_cases bc:b∈X
  ·exact E3 (Jq b o aH n bc e dd) λo' adh JL cU c' acf=>⟨o',cU,c'.trans c,adh,JL,acf⟩
  ·exact⟨o,k b o bc e,c,aH,n,dd⟩
theorem afU(e:hZ Z.scope.names x=ae):Z.kindOf x=J .local \/Z.kindOf x=J .cell:=by
 have j5:Z.kindOf x=cy Z.scope.names x:=(pG x _).symm;exact G j5 (((t8 _ _).mp e).imp eq_of_beq eq_of_beq)
theorem aoI{v:L}{aJ:aG}(ok:bz Θ.fs d ah)(a:bD Θ Z ρ m H h)(aO:hZ Z.scope.names x=ae)(r:bg ρ v aJ):
  aa Θ ah Z ρ (storeName Z x aJ) (λ_ cb bV bb=>cb=ρ/\bV=fA m x v/\bb=H) h:=by
 refine aa.any ok λA s a6 bA bT e1 e2 aP=>?_
 subst e1;have cq:∀ {av:bq},(∀b o,b∉own Z->s.heap.get? b=J o->av.get? b=J o)->(∀b o aH n,b∈own Z->s.heap.get? b=J o->o.data=.dict aH n->∃o' aH n,av.get? b=J o'/\o'.cls=o.cls/\o'.data=.dict aH n)->s.heap.objs.size=av.objs.size->zj Z ρ (fA m x v) av->
   d4 Θ Z ρ s.heap (λ(_:Unit) cb bV bb=>cb=ρ/\bV=fA m x v/\bb=H) () av:=λk Jq hs f=>
  ⟨ρ,_,H,⟨a.rel.apart (λb hb=>⟨(a.out b hb).1,(a.out b hb).2.1⟩) k Jq,f,λb hb=>⟨(a.out b hb).1,(a.out b hb).2.1,hs▸(a.out b hb).2.2⟩⟩,
   ⟨.refl _,λi p e hi=>absurd e (by refine G (mP hi) ?_;simp),λb o e _ hb=>.of (k b o hb e),iB hs⟩,rfl,rfl,rfl⟩
 rcases afU aO with hk|hk
 ·refine bU a.fr.ns λnm hn lu=>?_
  refine G (storeName_local hk (by rw [a.fr.kind];rfl) ..) ?_
  refine T0 hn (λav lm hj jH=>⟨cq (λb o hb e=>(hj.2 b λz=>hb (z▸fK)).trans e) (λb o aH n hb e dd=>?_) hj.1.symm ⟨a.fr.kind,a.fr.glob,a.fr.blt,⟨_,lm,λy u hy bT=>?_⟩,λy c aD=>?_,a.fr.has,a.fr.apart,a.fr.napart⟩,e2,aP⟩)
  ·by_cases z:b=Z.locals
   ·subst z;refine bU (jH o e) λo' d1 g2=>E3 (id lm) λen adi ac9 hx u9 _=>?_
    rw [d1] at hx;obtain rfl:=ci hx;exact⟨o',adi,ac9,d1,g2,u9⟩
   ·exact⟨o,aH,n,(hj.2 b z).trans e,rfl,dd⟩
  ·rw [qP] at bT;by_cases q:y=x
   ·rw [aY q] at bT⊢;obtain rfl:=ci bT;exact⟨_,rfl,r⟩
   ·rw [a8 q] at bT⊢;exact lu y u hy bT
  ·refine bU (a.fr.cell y c aD) λkb hv sh=>⟨kb,hv.sameBut hj (a.fr.napart _ (mem_of_lookup aD)),λu xb bT=>?_⟩
   rw [qP] at bT;by_cases q:y=x
   ·rw [q] at xb;exact absurd hk xb
   ·rw [a8 q] at bT;exact sh u xb bT
 ·refine cm (sW.mp (a.fr.has x (.inl hk))) λc aD=>bU (a.fr.cell x c aD) λkb Dy lu=>?_
  have bc:=mem_of_lookup aD;refine wpAny_storeName_cell a.fr.kind hk aD Dy λav jH hj=>⟨cq (λb o hb e=>(hj.2 b λz=>hb (z▸f8 _ (rt (f:=(·.2)) bc))).trans e) (λb o aH n hb e dd=>⟨o,aH,n,(hj.2 b λz=>?_).trans e,rfl,dd⟩) hj.1.symm ⟨a.fr.kind,a.fr.glob,a.fr.blt,?_,λy c' hy=>?_,a.fr.has,a.fr.apart,a.fr.napart⟩,e2,aP⟩
  ·refine bU Dy λen d1 g2=>?_
   subst z;rw [e] at d1;obtain rfl:=ci d1;rw [dd] at g2;cases g2
  ·refine bU a.fr.ns λnm hn b9=>⟨nm,hn.sameBut hj (λz=>a.fr.napart _ bc z.symm),λy u hy bT=>b9 y u hy ?_⟩
   rw [qP] at bT;by_cases q:y=x
   ·rw [q,hk] at hy;cases hy
   ·rwa [a8 q] at bT
  ·by_cases q:y=x
   ·subst q;rw [aD] at hy;obtain rfl:=ci hy;refine⟨_,jH,λu xb bT=>?_⟩
    rw [qP,aY rfl] at bT;obtain rfl:=ci bT;exact⟨_,rfl,r⟩
   ·refine bU (a.fr.cell y c' hy) λgK afr b9=>⟨gK,afr.sameBut hj (λz=>q (Gz a.fr.apart (mem_of_lookup hy) (z▸bc))),λu xb bT=>?_⟩
    rw [qP,a8 q] at bT;exact b9 u xb bT
theorem vJ{v:L}{aJ:aG}(ok:bz Θ.fs d ah)(a:bD Θ Z ρ m H h)(aO:hZ Z.scope.names x=ae)(r:bg ρ v aJ):
  aa Θ ah Z ρ (wD Z x aJ) (λ_ cb bV bb=>cb=ρ/\bV=fA m x v/\bb=H) h:=
 af.bind (af.holding (af.point (af.bind (af.mono (aoI ok a aO r) λ_ ai q=>af.point q))))
def iN(Θ:fa)(C:mL)(d:Nat)(t:aU):Prop:=∀ {ah Z ρ m H h} {v:L} {aJ:aG} {k:Loc->an->Prop},bz Θ.fs (d+4) ah->bD Θ Z ρ m H h->bg ρ v aJ->su False C t v Z.scope.names m H k->aa Θ ah Z ρ (assign t Z aJ) (λ_ _ bV bb=>k bV bb) h
theorem iN.name{x pos}:iN Θ C d (.Name x pos):=λ{ah Z ρ m H h v aJ k} ok a r w=>by
 rw [L0] at w;exact qI w λaO w=>G (PySem.assign_Name ..) (.stand ((vJ ok a aO r).mono λ_ bG dF bI eH=>dS eH λaM a7 q3=>a7▸q3▸w))
theorem iN.attr{o n pos}(aR:cE Θ C d o)(hn:rQ.contains n=ae):iN Θ C d (.Attribute o n pos):=λ{ah Z ρ m H h v aJ k} ok a r w=>by
 rw [aq1] at w;have dh:assign (.Attribute o n pos) Z aJ=(gO [aJ] (eval o Z)>>=λeN=>gw pos.atName>>=λ_=>gO [aJ,eN] (setAttr eN n aJ)>>=λ_=>zF [aJ,eN] []):=rfl
 refine G dh (.bindV (.holding (aR ok a w)) λo' eN bG bI ai bL cP b9 bE=>.stand ?_)
 set_option smartUnfolding false in refine jM bE λcN e bE=>?_
 exact .bindU (.holding (Rt hn ok bL b9 (r.sub cP) e)) λ_ du ak cX d6=>af.release (.now cX bE)
theorem iN.subscript{o i pos}(aR:cE Θ C d o)(hi:oo Θ C d i):iN Θ C d (.Subscript o i pos):=λ{ah Z ρ m H h v aJ k} ok a r w=>by
 rw [aq2] at w;refine G (PySem.assign_Subscript ..) (.bindV (.holding (aR ok a w)) λo' eN bG bI ai bL cP b9 bE=>af.holdBind (hi ok bL bE λix eM du cN ak cX d6 dG ea=>.stand ?_))
 set_option smartUnfolding false in refine jM ea λcg e ea=>?_
 exact .bindU (.holding (ag2 ok cX (b9.sub d6) dG (r.sub (cP.trans d6)) e)) λ_ kf aZ fx hN=>af.release (.now fx ea)
theorem OW:∀ {aH:List aU},(∀e∈aH,iN Θ C d e)->gA aH=ae->∀ {ah Z ρ m H h} {vs:List L} {vs':List aG} {k:Loc->an->Prop},bz Θ.fs (d+4) ah->bD Θ Z ρ m H h->All2 (bg ρ) vs vs'->
  vY False C aH vs Z.scope.names m H k->vs.length=aH.length->aa Θ ah Z ρ (uH ((qk aH Z).map (·.2)) vs') (λ_ _ bV bb=>k bV bb) h
 | []=> @λ_ _ ah Z ρ m H h vs vs' k ok a r w aQ=>by
  rw [T6] at w;induction r using Mine.Internal.All2.casesOn with
  |nil=>exact aa.pure a w
  |cons _ _=>simp at aQ
 |e::aH=> @λbl hn ah Z ρ m H h vs vs' k ok a r w aQ=>by
  rw [L1] at w;induction r using Mine.Internal.All2.casesOn with
  |nil=>exact w.elim
  | @cons v aJ vs vs' lu r=>
   have lm:gA aH=ae:=by unfold gA at hn⊢;rw [wk,he] at hn;exact hn.2
   have dh:uH ((qk (e::aH) Z).map (·.2)) (aJ::vs')=(gO vs' (assign e Z aJ)>>=λ_=>uH ((qk aH Z).map (·.2)) vs'):=by
    rcases e<;>first |rfl|(unfold gA at hn;rw [wk,he] at hn;cases hn.1)
   exact G dh (.bind (.holding (bl e fK ok a lu w)) λ_ bG dF bI ai bL cP bE=>OW (λe h=>bl e (f8 _ h)) lm ok bL (r.mono λ_ _ r=>r.sub cP) bE (by simpa using aQ))
theorem H4:∀ {aH:List aU} {Z:Env},gA aH=ae->(qk aH Z).length=aH.length/\(qk aH Z).findIdx? (·.1)=ac
 | [],_,_=>⟨rfl,rfl⟩
 |e::aH,Z,hn=>by
  have lm:gA aH=ae:=by unfold gA at hn⊢;rw [wk,he] at hn;exact hn.2
  refine cz (H4 (Z:=Z) lm) λa b=>?_
  have dh:qk (e::aH) Z=(aA,assign e Z)::qk aH Z:=by
   rcases e<;>first |rfl|(unfold gA at hn;rw [wk,he] at hn;cases hn.1)
  refine G dh (⟨by(exact G sO (G a (G sO rfl))),G List.findIdx?_cons (G b rfl)⟩)
set_option tactic.hygienic true in
theorem iN.tuple{aH n pos}(bl:∀e∈aH,iN Θ C d e)(hn:gA aH=ae):iN Θ C d (.Tuple aH n pos):=λ{ah Z ρ m H h v aJ k} ok a r w=>by
 rw [T5] at w;split at w
 ·rename_i v j;split at w
  ·rename_i l e;split at w
   ·rename_i aQ;show aa Θ ah Z ρ (gw pos>>=λ_=>unpack aJ (qk aH Z)) _ h
    unfold unpack;refine G ((H4 hn).1) (G ((H4 hn).2) (cT aQ ?_));refine .stand (.bindR (.holding (Jz ok a r e)) λitems bG ai bL cP q3=>?_)
    exact OW bl hn ok bL q3 w aQ
   ·exact w.elim
  ·exact w.elim
 ·exact w.elim
end
variable {x:Str}
theorem bD.congr{bV:Loc}(a:bD Θ Z ρ m H h)(e:∀x,cy bV x=cy m x):bD Θ Z ρ bV H h:=by
 refine⟨a.rel,⟨a.fr.kind,a.fr.glob,a.fr.blt,?_,λx c aD=>?_,a.fr.has,a.fr.apart,a.fr.napart⟩,a.out⟩
 ·exact bU a.fr.ns λnm hn r=>⟨nm,hn,λx v hk aQ=>r x v hk (e x▸aQ)⟩
 ·exact bU (a.fr.cell x c aD) λkb hv r=>⟨kb,hv,λv hk aQ=>r v hk (e x▸aQ)⟩
noncomputable def adI(ρ:cr):jw->nq->Prop
 | .next,f=>f=.next
 | .brk,f=>f=.brk
 | .cont,f=>f=.cont
 | .ret v,f=>∃aJ,f=.ret aJ/\bg ρ v aJ
abbrev BU(k:jw->Loc->an->Prop):nq->cr->Loc->an->Prop:=λf' cb bV bb=>∃f,adI cb f f'/\k f bV bb
def ec(Θ:fa)(C:mL)(d:Nat)(s:cD):Prop:=∀ {ah Z ρ m H h} {k:jw->Loc->an->Prop},bz Θ.fs (d+4) ah->bD Θ Z ρ m H h->wpS False C s Z.scope.names m H k->aa Θ ah Z ρ (exec s Z) (BU k) h
def km(Θ:fa)(C:mL)(d:Nat)(ss:List cD):Prop:=∀ {ah Z ρ m H h} {k:jw->Loc->an->Prop},bz Θ.fs (d+4) ah->bD Θ Z ρ m H h->b1 False C ss Z.scope.names m H k->aa Θ ah Z ρ (execs ss Z) (BU k) h
theorem km.nil:km Θ C d []:=λok a w=>by rw [arD] at w;exact aa.pure a ⟨.next,rfl,w⟩
theorem km.cons{s ss}(hs:ec Θ C d s)(da:km Θ C d ss):km Θ C d (s::ss):=λ{ah Z ρ m H h k} ok a w=>by
 rw [Uc] at w;refine G (CB ..) (.bind (hs ok a w) λf' bG dF bI ai bL cP cV=>?_)
 refine bU cV λf r bE=>?_
 induction f using Mine.Internal.jw.casesOn with
 |next=>cases r;exact da ok bL bE
 |brk=>cases r;exact .pure bL ⟨.brk,rfl,bE⟩
 |cont=>cases r;exact .pure bL ⟨.cont,rfl,bE⟩
 |ret v=>obtain⟨aJ,e,r⟩:=r;cases e;exact .pure bL ⟨.ret v,⟨aJ,rfl,r⟩,bE⟩
theorem ec.pass{pos}:ec Θ C d (.Pass pos):=λ{ah Z ρ m H h k} ok a w=>by
 rw [arz] at w;exact aa.stand (f:=λ_=>(bK sZ:Sem nq)) (.pure a ⟨.next,rfl,w⟩)
theorem ec.brk{pos}:ec Θ C d (.Break pos):=λ{ah Z ρ m H h k} ok a w=>by
 rw [aru] at w;exact aa.stand (f:=λ_=>(bK Flow.brk:Sem nq)) (.pure a ⟨.brk,rfl,w⟩)
theorem ec.ret0{pos}:ec Θ C d (.Return ac pos):=λ{ah Z ρ m H h k} ok a w=>by
 rw [arA] at w;exact aa.stand (f:=λ_=>(bK (Flow.ret .none):Sem nq)) (.pure a ⟨.ret .none,⟨.none,rfl,rfl⟩,w⟩)
theorem ec.ret{e pos}(bl:cE Θ C d e):ec Θ C d (.Return (J e) pos):=λ{ah Z ρ m H h k} ok a w=>by
 rw [arB] at w;refine G (exec_Return_some ..) (.stand (.bindV (bl ok a w) λaJ v bG bI ai bL cP b9 bE=>?_))
 exact .pure bL ⟨.ret v,⟨aJ,rfl,b9⟩,bE⟩
theorem RT(a:bD Θ Z ρ m H h):interactive Z=aA:=by unfold interactive;exact G a.fr.kind rfl
noncomputable def C8(pos:Pos):Sem nq:=do gw pos;let _ <-runValue (.builtin "proto.let_go" {});bK .next
theorem acA{e:aU}{pos:Pos}{v:aG}:Cz e pos v=bK .next\/Cz e pos v=Cz TJ pos v:=by
 rcases e<;>first |exact .inl (rfl:_=bK sZ)|exact .inr (by kernel_rfl)
theorem acB{e:aU}{pos:Pos}{v:aG}:Cz e pos v=bK .next\/Cz e pos v=C8 pos:=by
 rcases acA (e:=e) (pos:=pos) (v:=v) with e|e
 ·exact .inl e
 ·refine G e ?_;rcases v<;>first |exact .inl (rfl:_=bK sZ)|exact .inr rfl
theorem ec.expr{e pos}(bl:cE Θ C d e)(I3:∀Z,s8 e ac pos.line Z=bK aA):ec Θ C d (.Expr e pos):=λ{ah Z ρ m H h k} ok a w=>by
 rw [arw] at w;refine G (PySem.exec_Expr Z e pos (RT a) (I3 Z)) (.stand (.bindV (bl ok a w) λaJ v bG bI ai bL cP b9 bE=>?_))
 rcases acB (e:=e) (pos:=pos) (v:=aJ) with e|e<;>(refine G e ?_)
 ·exact .pure bL ⟨.next,rfl,bE⟩
 ·refine .stand (.bindU (Rr ok bL) λ_ du ak cX d6=>?_)
  exact .pure cX ⟨.next,rfl,bE⟩
theorem ec.ite{t a b pos}(ce:ST Θ C d t)(ha:km Θ C d a)(hb:km Θ C d b):ec Θ C d (.If t a b pos):=λ{ah Z ρ m H h k} ok gk w=>by
 rw [ary] at w;refine G (exec_If ..) (.stand (.bindB (ce ok gk w) λc bG bI ai bL cP bE=>?_))
 induction c using t5 with
 |true=>exact ha ok bL bE
 |false=>exact hb ok bL bE
theorem ec.tri{a hs pos}(ha:km Θ C d a):ec Θ C d (.Try a hs [] [] pos):=λ{ah Z ρ m H h k} ok gk w=>by
 rw [arC] at w;show aa Θ ah Z ρ (gw pos>>=λ_=>tryStmt aA (execs a Z) hs (execs [] Z) [] Z) _ h
 refine .stand (af.bind (af.attempt (af.mono (ha ok gk w) λf' ai cV=>?_)))
 obtain⟨bG,dF,bI,bL,ch,f,r,bE⟩:=cV;induction f using Mine.Internal.jw.casesOn with
 |next=>cases r;exact af.pure ⟨bG,dF,bI,bL,ch,.next,rfl,bE⟩
 |brk=>cases r;exact af.pure ⟨bG,dF,bI,bL,ch,.brk,rfl,bE⟩
 |cont=>cases r;exact af.pure ⟨bG,dF,bI,bL,ch,.cont,rfl,bE⟩
 |ret v=>obtain⟨aJ,e,r⟩:=r;cases e;exact af.pure ⟨bG,dF,bI,bL,ch,.ret v,⟨aJ,rfl,r⟩,bE⟩
theorem acT{t:aU}{Z:Env}:gA [t]=ae->qk [t] Z=[(aA,PySem.assign t Z)]:=by
 rcases t<;>first |exact λ_=>(rfl:_=[(aA,PySem.assign _ Z)])|exact λh=>b8 h
theorem ec.assign{t e pos}(bl:cE Θ C d e)(ce:iN Θ C d t)(hn:gA [t]=ae)(I3:∀Z,s8 e (J t) pos.line Z=bK aA)(afm:∀Z,wG [t] e Z=bK ac):ec Θ C d (.Assign [t] e pos):=λ{ah Z ρ m H h k} ok a w=>by
 rw [L4] at w;have dh:exec (.Assign [t] e pos) Z=(gw pos>>=λ_=>s8 e (J t) pos.line Z>>=λb=>if b then(evalThenUse e Z λv=>assignAll v ((qk [t] Z).map (·.2)))>>=λ_=>bK .next else
  eval e Z>>=λv=>wG [t] e Z>>=λvL=>Gr Z v vL ((qk [t] Z).map (·.2))):=rfl
 refine G (dh ..) (G (I3 ..) (G (afm ..) (G (acT hn) ?_)));simp only [zk,ng,if_false];refine .stand (.bindV (bl ok a w) λaJ v bG bI ai bL cP b9 bE=>?_)
 show aa Θ ah Z bG (PySem.assign t Z aJ>>=λ_=>bK sZ) _ ai
 exact .bind (ce ok bL b9 bE) λ_ du m cN ak cX d6 ea=>.pure cX ⟨.next,rfl,ea⟩
set_option tactic.hygienic true in
theorem ec.del{o i pos SN}(aR:cE Θ C d o)(hi:cE Θ C d i):ec Θ C d (.Delete [.Subscript o i SN] pos):=λ{ah Z ρ m H h k} ok a w=>by
 rw [arv,aq5] at w;show aa Θ ah Z ρ (gw pos>>=λ_=>((eval o Z>>=λeN=>gO [eN] (eval i Z)>>=λtM=>gw SN>>=λ_=>gO [eN,tM] (zD eN tM)>>=λ_=>zF [eN,tM] [])>>=λ_=>bK ())>>=λ_=>bK sZ) _ h
 simp only [uv];refine .stand (.bindV (aR ok a w) λo' eN bG bI ai bL cP b9 bE=>?_)
 refine .bindV (.holding (hi ok bL bE)) λeM tM du cN ak cX d6 dG ea=>.stand ?_
 set_option smartUnfolding false in refine jM ea λcg e ea=>?_
 exact .bindU (.holding (agT ok cX (b9.sub d6) dG e)) λ_ kf aZ fx hN=>.release (.pure fx ⟨.next,rfl,ea⟩)
theorem SC{ay bF:Type}{o:Option (ay×bF)}{P:ay×bF->Prop}{aa:Prop}(w:oa (motive:=λ_=>Prop) o False P)(k:∀a b,o=J (a,b)->P (a,b)->aa):aa:=jM w λc e w=>k c.1 c.2 e w
set_option tactic.hygienic true in
theorem ec.augName{x aiv bM e pos}(bl:cE Θ C d e):ec Θ C d (.AugAssign (.Name x aiv) bM e pos):=λ{ah Z ρ m H h k} ok a w=>by
 rw [ars] at w;refine G (exec_AugAssign_Name ..) ?_;set_option smartUnfolding false in refine jM w λaqv mV w=>?_
 refine .stand (.bindR (Bm ok a mV) λdb bG ai bL cP q3=>?_)
 refine .bindV (.holding (bl ok bL w)) λck aqw du cN ak cX d6 dG ea=>.stand ?_
 set_option smartUnfolding false in refine SC ea λv cg fc ea=>?_
 refine qI ea λhi pS=>cz (fm hi) λvf vg=>DC vf λafH Mq=>DC vg λafI Mr=>?_
 subst Mq Mr
 ·refine qI pS λaO ea=>cz (fm aO) λhop aO=>.bindR (.operate (Rq hop ok cX (q3.sub d6) dG fc)) λaJ kf aZ fx hN iF=>.stand (.bind (vJ ok fx aO iF) λ_ rc m eQ cC ko xB cV=>?_)
  refine dS cV λaM a7 vC=>?_
  subst aM a7 vC;exact .pure ko ⟨.next,rfl,ea⟩
set_option tactic.hygienic true in
theorem ec.augAttr{o n En bM e pos}(aR:cE Θ C d o)(hn:rQ.contains n=ae)(bl:cE Θ C d e):ec Θ C d (.AugAssign (.Attribute o n En) bM e pos):=λ{ah Z ρ m H h k} ok a w=>by
 rw [art] at w;have dh:exec (.AugAssign (.Attribute o n En) bM e pos) Z=(gw pos>>=λ_=>eval o Z>>=λeN=>gO [eN] (gw En.atName>>=λ_=>getAttr eN n ae>>=λnJ=>gO [nJ] (eval e Z)>>=λv=>gw pos>>=λ_=>operate [nJ,v] (inplaceOp bM nJ v))>>=λnew=>
  gw En.atName>>=λ_=>gO [new,eN] (setAttr eN n new)>>=λ_=>zF [new,eN] []>>=λ_=>bK .next):=rfl
 refine G dh (.stand (.bindV (aR ok a w) λo' eN bG bI ai bL cP b9 bE=>af.holdBind ?_))
 simp only [uv];refine aa.stand ?_;set_option smartUnfolding false in refine jM bE λaqv mV bE=>?_
 refine aa.bindR (Ro hn ok bL b9 mV) λdb du ak cX d6 q3=>.bindV (.holding (bl ok cX bE)) λck aqw kf cg aZ fx hN gJ js=>.stand ?_
 set_option smartUnfolding false in refine SC js λv eD fc js=>?_
 refine qI js λhi pS=>cz (fm hi) λvf vg=>DC vf λafH Mq=>DC vg λafI Mr=>?_
 subst Mq Mr
 ·refine qI pS λhop js=>?_
  set_option smartUnfolding false in refine jM js λeQ aH js=>?_
  refine .bindR (.operate (Rq hop ok fx (q3.sub hN) gJ fc)) λaJ rc cC ko xB iF=>.stand (.bind (.holding (Rt hn ok ko (b9.sub (d6.trans (hN.trans xB))) iF aH)) λ_ pZ m dr gl pm Td cV=>?_)
  refine cz cV λaM a7=>?_
  subst aM a7;exact .release (.pure pm ⟨.next,rfl,js⟩)
section
variable {hi lo:Nat}{t:aU}
theorem bz.zero{a9:List a1}(ok:bz a9 n ah)(c c':lH)(p:Pos)(aD:qQ c'=ae)(j7:c'.weight=0)(bT:c'.cUnits=0)(aq:c'.isFrame=aA:=by rfl):bz a9 n ((ah.enter c ac p).goto c'):=by
 obtain⟨⟨A,a,q,b,k⟩,d,e,aB⟩:=ok;refine⟨⟨(A.mark ac).under c',((a.enter c ac p (by intro x;exact br x)).goto c').in,?_,?_,?_⟩,aD,λx aO=>?_,λZ aO=>?_⟩
 ·exact q
 ·show A.depth+c'.weight+2*n<990;exact lt_of_eq_of_lt (congrFun (congrArg FT (congrArg (FT A.depth) j7)) (2*n)) b
 ·show A.units+c'.cUnits+40*n<9800;exact lt_of_eq_of_lt (congrFun (congrArg FT (congrArg (FT A.units) bT)) (40*n)) k
 ·rcases fw.mp aO with rfl|aO
  ·exact d
  ·exact e x aO
 ·rcases md.mp aO with aO|aO
  ·have aO:Z∈c'.envs:=aO;unfold Code.envs at aO;rw [aq] at aO;rcases aO
  ·exact aB Z (by(rw [<-envsOf_cons]);exact aO)
theorem kh.mono{w:eJ}{bp:gv}{R N2:nq->bq->Prop}(x:kh w bp ah R h)(k:∀f av,R f av->N2 f av):kh w bp ah N2 h:=λs p e1 e2 aP=>
 GK (λr aS eH=>kT eH λf a b c=>⟨f,a,k _ _ b,c⟩) (x s p e1 e2 aP)
theorem aqS{a:List cD}{c0:lH}{p0:Pos}(ce:ST Θ C d t)(ha:km Θ C d a)(ok:bz Θ.fs (d+4) ah){k:jw->Loc->an->Prop}(n:Nat):∀ {ρ m H h},bD Θ Z ρ m H h->
  l3 False (λm H q=>ge False C t (λH k=>bO False C t Z.scope.names m H k) Z.scope.names m H q) (λm H q=>b1 False C a Z.scope.names m H q) n m H k->
  kh Θ.w Θ.O ((ah.enter c0 ac p0).goto (.whileLoop t a [] Z)) (d4 Θ Z ρ h (BU k)) h:=by
 induction n with
 |zero=>
  intro ρ m H h a0 w;exact MD w
 |succ n ih=>
  intro ρ m H h a0 w;have hM:bz Θ.fs (d+4) ((ah.enter c0 ac p0).goto (.whileLoop t a [] Z)):=ok.zero _ _ _ rfl rfl rfl;refine kh.tree rfl (af.onRaise (af.bind (af.mono (ce hM a0 w) λb ai cV=>?_)))
  obtain⟨bG,dF,bI,bL,ch,aM,bE⟩:=cV;subst aM;induction b using t5 with
  |false=>exact af.bv (λ_=>af.pure) (af.pure ⟨bG,dF,bI,bL,ch,.next,rfl,bE⟩)
  |true=>
   refine af.bind (af.mono (ha hM bL bE) λf' ak cV=>?_)
   obtain⟨du,jK,cN,cX,cd,f,r,ea⟩:=cV;induction f using Mine.Internal.jw.casesOn with
   |next=>cases r;exact af.again ⟨rfl,(ih cX ea).mono λ_ _ x=>x.go (f:=ch.trans cd)⟩
   |cont=>cases r;exact af.again ⟨rfl,(ih cX ea).mono λ_ _ x=>x.go (f:=ch.trans cd)⟩
   |brk=>cases r;exact af.pure ⟨du,jK,cN,cX,ch.trans cd,.next,rfl,ea⟩
   |ret v=>obtain⟨aJ,e,r⟩:=r;cases e;exact af.pure ⟨du,jK,cN,cX,ch.trans cd,.ret v,⟨aJ,rfl,r⟩,ea⟩
theorem ec.loop{t a pos}(ce:ST Θ C d t)(ha:km Θ C d a):ec Θ C d (.While t a [] pos):=λ{ah Z ρ m H h k} ok a0 w=>by
 rw [Ub] at w;exact G (exec_While ..) (.stand (af.runOwn λp=>aqS (c0:=.whileLoop t a [] Z) ce ha ok _ a0 w))
def qq(Θ:fa)(Z:Env)(ρ:cr)(lo hi:Nat)(h av:bq):Prop:=(∀b o,(b<lo\/hi<=b\/gQ ρ b\/b∈own Z\/(Θ.h₀.get? b).isSome=ae\/b∈Θ.fs)->h.get? b=J o->av.get? b=J o)/\h.objs.size<=av.objs.size
theorem bD.steps(a:bD Θ Z ρ m H h)(s:qq Θ Z ρ lo hi h av):bD Θ Z ρ m H av:=by
 refine⟨⟨a.rel.len,λb o e=>s.1 b o (.inr (.inr (.inr (.inr (.inl (G e rfl)))))) (a.rel.old b o e),a.rel.low,a.rel.sep,λi p o e1 e2=>(a.rel.obj i p o e1 e2).keeps (λo e=>s.1 _ o (.inr (.inr (.inl ⟨i,p,e1,.inl rfl⟩))) e) λo e=>s.1 _ o (.inr (.inr (.inl ⟨i,p,e1,.inr rfl⟩))) e,λb hb=>?_⟩,
  a.fr.move (.refl _) λb hb o e=>.of (s.1 b o (.inr (.inr (.inr (.inl hb)))) e),λb hb=>⟨(a.out b hb).1,(a.out b hb).2.1,eE (a.out b hb).2.2 s.2⟩⟩
 refine dS (a.rel.frm b hb) λch akf cd=>?_;refine bU akf λo e c=>?_
 exact⟨ch,⟨o,s.1 b o (.inr (.inr (.inr (.inr (.inr hb))))) e,c⟩,cd⟩
theorem d3.steps{X:List a1}{iu:cr}{bu:bq}(f:d3 X iu bu ρ h)(s:qq Θ Z ρ lo hi h av)(j6:bu.objs.size<=lo):d3 X iu bu ρ av:=
 ⟨f.sub,f.new,λb o e ai ak=>(f.keep b o e ai ak).trans λo' cU=>.of (s.1 b o' (.inl (eE (gE e) j6)) cU),cQ f.size s.2⟩
noncomputable def itR(ρ:cr)(h:bq):n4->aG->Prop
 | .one v,aJ=>bg ρ v aJ
 | .pair u v,aJ=>∃a ef ja,aJ=.ref a/\h.IsTuple a #[ef,ja]/\bg ρ u ef/\bg ρ v ja
structure wj(Θ:fa)(d:Nat)(Z:Env)(s:kJ)(it:aG)(lo hi:Nat)(am:Nat->cr->bq->Prop)(U:Nat->aG->cr->bq->Prop):Prop where
 stable:∀ {k ρ m H h cb av X},bD Θ Z ρ m H h->am k ρ h->d3 X ρ h cb av->(∀b∈X,b∈own Z\/hi<=b)->am k cb av
 self:∀ {ah k ρ m H h},bz Θ.fs (d+4) ah->bD Θ Z ρ m H h->am k ρ h->af Θ.w Θ.O ah (pyIter it) (λDG av=>DG=it/\av=h) h
 step:∀ {ah k ρ m H h r},bz Θ.fs (d+4) ah->bD Θ Z ρ m H h->am k ρ h->itemAt s k H=J r->
  af Θ.w Θ.O ah (pyNext it) (λx av=>qq Θ Z ρ lo hi h av/\match r with |ac=>x=ac|J jI=>∃aJ,x=J aJ/\U (k+1) aJ ρ av/\itR ρ av jI aJ) h
 letgo:∀ {ah k ρ m H h jI aJ t ax bV},bz Θ.fs (d+4) ah->bD Θ Z ρ m H h->U (k+1) aJ ρ h->itemAt s k H=J (J jI)->itR ρ h jI aJ->eu ax t jI m H=J bV->
  af Θ.w Θ.O ah (NQ t it aJ) (λ_ av=>qq Θ Z ρ lo hi h av/\am (k+1) ρ av/\itR ρ av jI aJ) h
theorem Tt{x y:Str}{ls xt:Pos}{u v:L}{ef aJ:aG}(ok:bz Θ.fs (d+4) ah)(a:bD Θ Z ρ m H h)(aO:hZ Z.scope.names x=ae)(hy:hZ Z.scope.names y=ae)(jO:bg ρ u ef)(f0:bg ρ v aJ):
  aa Θ ah Z ρ (uH [PySem.assign (.Name x ls) Z,PySem.assign (.Name y xt) Z] [ef,aJ]) (λ_ _ dF bI=>dF=fA (fA m x u) y v/\bI=H) h:=by
 have dh:uH [PySem.assign (.Name x ls) Z,PySem.assign (.Name y xt) Z] [ef,aJ]=(gO [aJ] (PySem.assign (.Name x ls) Z ef)>>=λ_=>gO [] (PySem.assign (.Name y xt) Z aJ)>>=λ_=>bK ()):=rfl
 refine G dh (G (PySem.assign_Name ..) (G (PySem.assign_Name ..) ?_));refine aa.bind (aa.holding (aa.stand (vJ ok a aO jO))) λ_ du jK cN ak cX d6 q=>?_
 refine dS q λaM a7 q3=>?_
 subst aM a7 q3;refine aa.bind (aa.holding (aa.stand (vJ ok cX hy f0))) λ_ kf A2 cg aZ fx hN q=>?_
 refine dS q λaM a7 q3=>?_
 subst aM a7 q3;exact aa.pure fx ⟨rfl,rfl⟩
set_option tactic.hygienic true in
theorem RR{x:Str}:D2 t=J x->∃p,t=.Name x p:=by
 refine @mW (λt=>D2 t=J x->∃p,t=.Name x p) ?_ ?_ ?_ ?_ ?_ ?_ ?_ ?_ ?_ ?_ ?_ ?_ ?_ ?_ ?_ ?_ t<;>first |(intros;rename_i h;exact br h)|skip
 ·intro y p e;obtain rfl:=ci e;exact⟨p,rfl⟩
 ·exact λ_ q h=>br (q.symm.trans h)
theorem ail{l:List aU}{n:Str×Str}(e:JP l=J n):∃p q,l=[.Name n.1 p,.Name n.2 q]:=by
 rcases l with - |⟨a,- |⟨b,- |⟨c,l⟩⟩⟩
 ·exact br e
 ·exact br e
 ·refine gb e λx e1 e=>bU (rz.mp e) λy e2 e=>?_
  refine cm (RR e1) λp akg=>?_;obtain rfl:=akg
  refine cm (RR e2) λq aki=>?_;obtain rfl:=aki
  obtain rfl:=ci e;exact⟨p,q,rfl⟩
 ·exact br e
theorem aqz{l:List L}{w:L×L}(e:LR l=J w):l=[w.1,w.2]:=by
 rcases l with - |⟨a,- |⟨b,- |⟨c,l⟩⟩⟩
 ·exact br e
 ·exact br e
 ·obtain rfl:=ci e;rfl
 ·exact br e
theorem af0{it:n4}{w:L×L}(e:DH it H=J w):it=.pair w.1 w.2\/ ∃j,it=.one (.new j)/\H[j]? =J (.tup [w.1,w.2]):=by
 induction it using Mine.Internal.n4.casesOn with
 |pair u v=>obtain rfl:=ci e;exact .inl rfl
 |one v=>
  refine gb e λj e1 e=>?_
  induction v using Mine.Internal.L.casesOn with
  |new i=>
   cases e1;refine .inr ⟨j,rfl,?_⟩;have e:Lk H[j]? =J w:=e;generalize H[j]? =o at e⊢;induction o using oa with
   |none=>exact br e
   |some o=>induction o using Mine.Internal.bt.casesOn with
    |tup l=>(exact G (aqz (show LR l=J w from e)) rfl)
    |_=>exact br e
  |_=>exact br e1
set_option tactic.hygienic true in
theorem G3{ax:ds}{it:n4}{bV:Loc}:eu ax t it m H=J bV->((∃x p v,t=.Name x p/\it=.one v/\hZ ax x=ae/\bV=fA m x v)\/ ∃(n:Str×Str) (p q:Pos) (m4:Nat) (sb:Pos) (w:L×L),t=.Tuple [.Name n.1 p,.Name n.2 q] m4 sb/\DH it H=J w/\(hZ ax n.1=ae/\hZ ax n.2=ae)/\bV=fA (fA m n.1 w.1) n.2 w.2):=by
 refine @mW (λt=>eu ax t it m H=J bV->((∃x p v,t=.Name x p/\it=.one v/\hZ ax x=ae/\bV=fA m x v)\/ ∃(n:Str×Str) (p q:Pos) (m4:Nat) (sb:Pos) (w:L×L),t=.Tuple [.Name n.1 p,.Name n.2 q] m4 sb/\DH it H=J w/\(hZ ax n.1=ae/\hZ ax n.2=ae)/\bV=fA (fA m n.1 w.1) n.2 w.2)) ?_ ?_ ?_ ?_ ?_ ?_ ?_ ?_ ?_ ?_ ?_ ?_ ?_ ?_ ?_ ?_ t<;>first |(intros;rename_i h;exact br h)|skip
 ·intro x p e;refine gb e λv e1 e=>?_
  rcases it with aJ|⟨_,_⟩
  ·obtain rfl:=ci e1;have e:(if hZ ax x then J (fA m x aJ) else ac)=J bV:=e
   exact dR e λaeA e=>.inl ⟨x,p,aJ,rfl,rfl,aeA,(ci e).symm⟩
  ·exact br e1
 ·intro l m4 sb e;refine gb e λn e1 aP=>gb aP λw e2 jD=>?_
  refine oY (ail e1) λp q akj=>?_;obtain rfl:=akj
  have e:(if hZ ax n.1&&hZ ax n.2 then J (fA (fA m n.1 w.1) n.2 w.2) else ac)=J bV:=jD
  exact dR e λaO e=>.inr ⟨n,p,q,m4,sb,w,rfl,e2,fm aO,(ci e).symm⟩
 ·exact λ_ q h=>br (q.symm.trans h)
theorem Tm{jI:n4}{aJ:aG}{bV:Loc}(ok:bz Θ.fs (d+4) ah)(a:bD Θ Z ρ m H h)(r:itR ρ h jI aJ)(e:eu Z.scope.names t jI m H=J bV):
  aa Θ ah Z ρ (PySem.assign t Z aJ) (λ_ _ dF bI=>dF=bV/\bI=H) h:=by
 rcases G3 e with⟨x,p,v,rfl,rfl,aO,rfl⟩|⟨n,ls,xt,m4,sb,w,rfl,e2,aO,rfl⟩
 ·exact G (PySem.assign_Name ..) (aa.stand ((vJ ok a aO r).mono λ_ bG dF bI eH=>dS eH λaM a7 q3=>⟨a7,q3⟩))
 ·have dh:PySem.assign (.Tuple [.Name n.1 ls,.Name n.2 xt] m4 sb) Z aJ=(gw sb>>=λ_=>gO [aJ] (CF aJ 2 ac)>>=λitems=>uH [PySem.assign (.Name n.1 ls) Z,PySem.assign (.Name n.2 xt) Z] items):=rfl
  refine G (dh ..) ?_;rcases af0 e2 with rfl|⟨j,rfl,ej⟩
  ·refine tZ r λb ef ja akk ce jO nO=>?_;obtain rfl:=akk
   refine aa.stand (af.holdBind (aa.grow (R:=λitems _=>items=[ef,ja]) (af.mono (ag3 ok ce) λitems ai q=>⟨q.2,q.1⟩) λitems ai ex e1=>?_))
   subst e1;exact Tt ok (a.ext ex) aO.1 aO.2 jO nO
  ·have a2:=Jz (d:=d) (Z:=Z) (m:=m) ok a (show bg ρ (.new j) aJ from r) ej
   have ek:[w.1,w.2].length=2:=rfl;rw [ek] at a2;refine aa.stand (aa.bind (aa.holding a2) λitems bG dF bI ai bL cP q=>?_)
   refine dS q λaM a7 q3=>?_
   subst aM a7;refine kA q3.two λef ja iF jO nO=>?_
   subst iF;exact Tt ok bL aO.1 aO.2 jO nO
set_option tactic.hygienic true in
theorem adN{it:aG}{a:List cD}{c0:lH}{p0:Pos}{s:kJ}{am:Nat->cr->bq->Prop}{U:Nat->aG->cr->bq->Prop}(X:wj Θ d Z s it lo hi am U)(ha:km Θ C d a)(ok:bz Θ.fs (d+4) ah){k:jw->Loc->an->Prop}:∀(n i:Nat) {ρ m H h} {iu:cr} {bu:bq},bD Θ Z ρ m H h->am i ρ h->
   d3 (own Z) iu bu ρ h->bu.objs.size<=lo->gR False Z.scope.names t (λm H q=>b1 False C a Z.scope.names m H q) s n i m H k->
   kh Θ.w Θ.O ((ah.enter c0 ac p0).goto (.forLoop t it a [] Z)) (d4 Θ Z iu bu (BU k)) h:=by
 intro n;induction n with
 |zero=>
  exact @λi ρ m H h iu bu a0 hi bY j6 w=>by
   exact MD w
 |succ n ih=>
  exact @λi ρ m H h iu bu a0 hi bY j6 w=>by
   rw [adM] at w;have hM:bz Θ.fs (d+4) ((ah.enter c0 ac p0).goto (.forLoop t it a [] Z)):=ok.zero _ _ _ rfl rfl rfl;refine kh.tree rfl (af.onRaise ?_);unfold forTurn;refine af.bv (λ_=>af.standAt) (af.bind (af.onRaise ?_))
   split at w
   ·exact w.elim
   ·rename_i e;refine af.mono (X.step hM a0 hi e) λx ai cV=>?_
    refine cz cV λst q=>?_
    subst q;refine af.again ⟨rfl,?_⟩;have Sz:bz Θ.fs (d+4) ((ah.enter c0 ac p0).goto (.block [] Z)):=ok.zero _ _ _ rfl rfl rfl;exact kh.tree rfl (af.bind (af.onRaise (af.pure (af.pure ⟨ρ,m,H,a0.steps st,bY.steps st j6,.next,rfl,w⟩))))
   ·rename_i jI e;refine af.mono (X.step hM a0 hi e) λx ai cV=>?_
    refine Mn cV λst aJ q vf sg=>?_
    subst q;have bL:=a0.steps st;have ch:=bY.steps st j6;set_option smartUnfolding false in refine jM w λbV fc w=>?_
    refine af.bind (af.mono (X.letgo hM bL vf e sg fc) λ_ ak cV=>?_)
    refine dS cV λEj vg K0=>?_
    have cX:=bL.steps Ej;have cd:=ch.steps Ej j6;refine af.bind (af.mono (Tm hM cX K0 fc) λ_ aZ cV=>?_)
    obtain⟨kf,A2,cg,fx,ee,aM,a7⟩:=cV;subst aM a7;refine af.bind (af.mono (ha hM fx w) λf' cC cV=>?_)
    obtain⟨rc,A3,eD,ko,jE,f,r,pS⟩:=cV;have jF:=ee.trans jE;have Tv:=X.stable cX vg jF (λb hb=>.inl hb)
    induction f using Mine.Internal.jw.casesOn with
    |next=>cases r;exact af.again ⟨rfl,ih (i+1) ko Tv (cd.trans jF) j6 pS⟩
    |cont=>cases r;exact af.again ⟨rfl,ih (i+1) ko Tv (cd.trans jF) j6 pS⟩
    |brk=>cases r;exact af.pure ⟨rc,A3,eD,ko,cd.trans jF,.next,rfl,pS⟩
    |ret v=>obtain⟨aJ,e,r⟩:=r;cases e;exact af.pure ⟨rc,A3,eD,ko,cd.trans jF,.ret v,⟨aJ,rfl,r⟩,pS⟩
end
variable {hi lo:Nat}
section
variable {b c:Int}
def JH(Θ:fa)(Z:Env)(ρ:cr)(lo:Nat)(a:a1):Prop:=lo<=a/\ ¬gQ ρ a/\a∉own Z/\Θ.h₀.get? a=ac/\a∉Θ.fs
noncomputable def Ei(Θ:fa)(Z:Env)(ρ:cr)(H:an)(h:bq)(lo:Nat):kJ->aG->Prop
 | .lst i,x=>bg ρ (.new i) x/\∃l,H[i]? =J (.list l)
 | .items l,x=>∃(a b c:Int) (t u v:Tok) (r:a1),x=.ref r/\l=qU a b c/\0<c/\cH a=ae/\cH b=ae/\c<1000000/\bH (b - a).toNat=ae/\JH Θ Z ρ lo r/\IsRange h r a b c t u v
 | .enum i,x=>∃r it p,x=.ref r/\JH Θ Z ρ lo r/\JH Θ Z ρ lo it/\r≠it/\(∃l,H[i]? =J (.list l))/\ρ[i]? =J p/\IsEnum h r it 0 .none/\h.IsListIter it p.1 0
theorem Qh{X:List a1}{cb:cr}{b:a1}{o:Obj}(f:d3 X ρ h cb av)(e:h.get? b=J o)(fh:¬gQ ρ b):¬gQ cb b:=λeH=>mF eH λi p cU z=>by
 have lt:h.objs.size>b:=gE e;by_cases aQ:ρ.length<=i
 ·have q:=f.new i p cU aQ;rcases z with z|z<;>rw [z] at lt<;>lia
 ·obtain⟨q,cJ⟩:∃q,ρ[i]? =J q:=⟨_,iy (wq aQ)⟩;have :=f.sub.get cJ;rw [cU] at this;obtain rfl:=ci this;exact fh ⟨i,p,cJ,z⟩
theorem bD.fresh(a:bD Θ Z ρ m H h){b:a1}(hb:h.objs.size<=b):¬gQ ρ b/\b∉own Z/\Θ.h₀.get? b=ac/\b∉Θ.fs:=by
 refine⟨λeH=>mF eH λi p e z=>?_,λz=>?_,?_,λz=>?_⟩
 ·have :=a.rel.lt e;rcases z with z|z<;>rw [z] at hb<;>lia
 ·have :=(a.out b z).2.2;lia
 ·cases z:Θ.h₀.get? b with
  |none=>rfl
  |some o=>
   have hu:h.objs.size>b:=gE (a.rel.old _ _ z);lia
 ·refine dS (a.rel.frm b z) λ_ akU _=>?_;refine bU akU λo e _=>?_
  have hu:h.objs.size>b:=gE e;lia
theorem anN{a:Int}(aD:0<c):((b - a+c - 1).fdiv c).toNat=(og a b c).toNat:=by
 refine G (MI _ (zf aD)) ?_;unfold og;refine G (aY aD) ?_;have e:b - a+c - 1=(b - a - 1)+c*1:=by lia
 refine G e (G (Int.add_mul_ediv_left _ _ (Cm (Int.ne_of_lt aD))) ?_);split
 ·rfl
 ·have :(b - a - 1)/c<0:=Int.ediv_neg_of_neg_of_pos (by lia) aD
  exact XO this
theorem anM{a:Int}(aD:0<c){k:Nat}:(qU a b c)[k]? =if(k:Int)<og a b c then J (.int (a+c*k)) else ac:=by
 unfold qU;refine G (anN aD) (G kZ ?_);by_cases h:(k:Int)<og a b c
 ·exact G (aY h) (G (B7 (Int.lt_toNat.mpr h)) rfl)
 ·exact G (a8 h) (G (mP (by simp;exact B5.mp h)) rfl)
theorem anP{a:Int}(aD:0<c)(jH:c<1000000)(ha:cH a=ae)(hb:cH b=ae):VD a b c=ae:=by
 have Qv:a.natAbs<2^62:=by simpa [cH] using ha
 have tE:b.natAbs<2^62:=by simpa [cH] using hb
 have hs:0<=og a b c/\og a b c<2^63:=by
  unfold og;refine G (aY aD) ?_;split
  ·have ai:0<=(b - a - 1)/c:=Int.ediv_nonneg (by lia) (by lia)
   have ak:(b - a - 1)/c<=b - a - 1:=Int.ediv_le_self _ (by lia)
   exact XI Qv tE ai ak
  ·exact by decide
 unfold VD;simp only [Builtin.Range.rangeFitsLong,he,t8,decide_eq_true_eq,beq_iff_eq];refine G (aY aD) ?_;simp only [he,decide_eq_true_eq];refine⟨⟨⟨⟨?_,?_⟩,?_⟩,?_⟩,.inr ?_⟩<;>first |exact CM Qv|exact CM tE|exact⟨zg (by decide) hs.1,hs.2⟩|exact XM aD jH tE|lia
section iters
variable {df:Env}
structure ob(Θ:fa)(df:Env)(lo hi:Nat)(a:a1):Prop where
 lo:lo<=a
 hi:a<hi
 out:a∉own df
 old:Θ.h₀.get? a=ac/\a∉Θ.fs
theorem ob.ne(x:ob Θ df lo hi a)(fh:¬gQ ρ a){b:a1}(z:b<lo\/hi<=b\/gQ ρ b\/b∈own df\/(Θ.h₀.get? b).isSome=ae\/b∈Θ.fs):b≠a:=by
 rintro rfl
 rcases z with z|z|z|z|z|z
 ·exact jn _ (eE z x.lo)
 ·exact jn _ (eE x.hi z)
 ·exact fh z
 ·exact x.out z
 ·rw [x.old.1] at z;exact b8 z
 ·exact x.old.2 z
theorem ob.notX(x:ob Θ df lo hi a){X:List a1}(f4:∀b∈X,b∈own df\/hi<=b):a∉X:=λz=>by
 rcases f4 a z with z|z
 ·exact x.out z
 ·exact jn _ (eE x.hi z)
theorem ob.keep(x:ob Θ df lo hi a){X:List a1}(f4:∀b∈X,b∈own df\/hi<=b){cb:cr}(f:d3 X ρ h cb av)(fh:¬gQ ρ a){o:Obj}(e:h.get? a=J o)(aD:o.cls≠.type "frame"):av.get? a=J o/\ ¬gQ cb a:=
 ⟨(f.keep a o e (λz=>fh (ty z)) (x.notX f4)).exact aD,Qh f e fh⟩
theorem ob.ext(x:ob Θ df lo hi a)(fh:¬gQ ρ a)(s:zy a h av)(hz:h.objs.size<=av.objs.size):qq Θ df ρ lo hi h av:=⟨λb o z e=>s b o (x.ne fh z) e,hz⟩
theorem Ry{w:eJ}{bp:gv}{t:aU}{v:aG}{o:Obj}{T:String}{vs:Array aG}{Q:Unit->bq->Prop}(e:h.get? a=J o)(aD:o.cls=.type T)(bA:o.data=.fields vs)
  (gm:(["enumerate","zip","dict_itemiterator","dict_reverseitemiterator","odict_iterator","itertools.zip_longest","itertools.pairwise"].contains T)=aA) (q:Q () h):af w bp ah (NQ t (.ref a) v) Q h:=by
 rcases t<;>first |exact af.pure q|skip
 all_goals (rcases v<;>first |exact af.pure q|skip)
 all_goals
  refine af.bind (af.load e ?_);refine G aD (G bA ?_);dsimp only;refine G gm (G (E7 ..) (G ((a8 t7) ..) ?_));exact af.pure q
set_option tactic.hygienic true in
theorem af4(x:ob Θ df lo hi a):wj Θ d df (.lst i) (.ref a) lo hi (λk ρ h=>∃p,ρ[i]? =J p/\ ¬gQ ρ a/\h.IsListIter a p.1 k) (λk _ ρ h=>∃p,ρ[i]? =J p/\ ¬gQ ρ a/\h.IsListIter a p.1 k) where
 stable:=λ{k ρ m H h cb av X} gk lz f f4=>by
  refine Uh lz λp hp fh o aR aD bA=>?_
  refine cz (x.keep f4 f fh aR (by refine G aD ?_;simp)) λk1 k2=>?_
  exact⟨p,f.sub.get hp,k2,o,k1,aD,bA⟩
 self:=λ{ah k ρ m H h} ok gk lz=>by
  refine kT lz λp hp fh hi=>?_
  obtain⟨A,cS,a6,-,-⟩:=ok.room;refine af.any cS λs e1 e2 aP=>?_
  subst e1;exact wpAny_pyIter_listiter hi ⟨⟨rfl,rfl⟩,e2,aP⟩
 step:=λ{ah k ρ m H h r} ok gk lz e=>by
  refine kT lz λp hp fh hi=>?_
  obtain⟨A,cS,a6,-,-⟩:=ok.room;unfold itemAt at e;dsimp only at e;split at e
  ·rename_i l ek;obtain rfl:=ci e;obtain⟨-,vs,n,bj,sh⟩:=gk.rel.obj _ _ _ hp ek;have aQ:h.IsList p.1 vs.toArray:=⟨_,bj,rfl,n,rfl⟩;refine af.any cS λs e1 e2 aP=>?_
   subst e1;cases q:l[k]?with
   |none=>
    refine aia a6 hi aQ (by(refine G F3 (fB F2 ?_);rw [<-sh.length]);exact F2.mp q) λav ex hz=>⟨⟨x.ext fh ex hz,rfl⟩,e2,aP⟩
   |some v=>
    refine bU (sh.get q) λaJ cU fR=>wpAny_pyNext_list_item hi aQ (x:=aJ) (G F3 cU) λav tH gc=>⟨⟨x.ext fh gc.extBut (iB gc.1.symm),aJ,rfl,⟨p,hp,fh,tH⟩,fR⟩,e2,aP⟩
  ·exact br e
 letgo:=λ{ah k ρ m H h jI aJ t ax bV} ok gk bT dw sg fc=>by
  exact Uh (id bT) λp hp fh o aR aD bA=>Ry aR aD bA (by decide) ⟨⟨λb o _ e=>e,cW _⟩,bT,sg⟩
theorem af5{a:Int}{ad:a1}(aD:0<c)(x:ob Θ df lo hi ad):wj Θ d df (.items (qU a b c)) (.ref ad) lo hi
  (λk ρ h=>¬gQ ρ ad/\IsRangeIter h ad (a+c*k) (og a b c - k) c) (λk _ ρ h=>¬gQ ρ ad/\IsRangeIter h ad (a+c*k) (og a b c - k) c) where
 stable:=λ{k ρ m H h cb av X} gk lz f f4=>by
  refine cz lz λfh aR=>?_
  exact cz (x.keep f4 f fh aR (by simp)) λk1 k2=>⟨k2,k1⟩
 self:=λ{ah k ρ m H h} ok gk lz=>by
  refine cz lz λfh hi=>?_
  obtain⟨A,cS,a6,-,-⟩:=ok.room;refine af.any cS λs e1 e2 aP=>?_
  subst e1;exact wpAny_pyIter_rangeiter hi ⟨⟨rfl,rfl⟩,e2,aP⟩
 step:=λ{ah k ρ m H h r} ok gk lz e=>by
  refine cz lz λfh hi=>?_
  obtain⟨A,cS,a6,-,-⟩:=ok.room;unfold itemAt at e;dsimp only at e;obtain rfl:=ci e;have q:=anM aD (a:=a) (b:=b) (k:=k);by_cases hk:(k:Int)<og a b c
  ·rw [aY hk] at q;refine G q ?_;dsimp only [Option.map];refine af.any cS λs e1 e2 aP=>?_
   subst e1;have aM:a+c*((k+1:Nat):Int)=a+c*k+c:=by refine G (B3 ..) (G (Int.mul_add ..) ?_);lia
   have a7:og a b c - ((k+1:Nat):Int)=og a b c - k - 1:=by lia
   exact wpAny_pyNext_range_item hi (Int.sub_pos_of_lt hk) λav tH gc=>⟨⟨x.ext fh gc.extBut (iB gc.1.symm),_,rfl,⟨fh,G aM (G a7 tH)⟩,⟨_,rfl⟩⟩,e2,aP⟩
  ·rw [a8 hk] at q;refine G q ?_;dsimp only [Option.map];refine af.any cS λs e1 e2 aP=>?_
   subst e1;exact aib a6 hi (by lia) λav ex hz=>⟨⟨x.ext fh ex hz,rfl⟩,e2,aP⟩
 letgo:=λ{ah k ρ m H h jI aJ t ax bV} ok gk bT dw sg fc=>by
  exact Ry bT.2 rfl rfl (by decide) ⟨⟨λb o _ e=>e,cW _⟩,bT,sg⟩
set_option tactic.hygienic true in
theorem af3{e it:a1}(x:ob Θ df lo hi e)(y:ob Θ df lo hi it)(gX:e≠it):wj Θ d df (.enum i) (.ref e) lo hi
  (λk ρ h=>∃p nJ,ρ[i]? =J p/\ ¬gQ ρ e/\ ¬gQ ρ it/\IsEnum h e it k nJ/\h.IsListIter it p.1 k) (λk v ρ h=>∃p Jj a,v=.ref a/\ρ[i]? =J p/\ ¬gQ ρ e/\ ¬gQ ρ it/\IsEnumOut h e it k Jj a/\h.IsListIter it p.1 k/\a≠e) where
 stable:=λ{k ρ m H h cb av X} gk lz f f4=>by
  obtain⟨p,nJ,hp,fh,tP,aR,o,IX,aD,bA⟩:=lz;refine cz (x.keep f4 f fh aR (by simp)) λk1 k2=>?_
  refine cz (y.keep f4 f tP IX (by refine G aD ?_;simp)) λk3 oI=>?_
  exact⟨p,nJ,f.sub.get hp,k2,oI,k1,o,k3,aD,bA⟩
 self:=λ{ah k ρ m H h} ok gk lz=>by
  obtain⟨p,nJ,hp,fh,tP,aR,hi⟩:=lz;obtain⟨A,cS,a6,-,-⟩:=ok.room;refine af.any cS λs e1 e2 aP=>?_
  subst e1;exact wpAny_pyIter_enum aR ⟨⟨rfl,rfl⟩,e2,aP⟩
 step:=λ{ah k ρ m H h r} ok gk lz dw=>by
  obtain⟨p,nJ,hp,fh,tP,aR,hi⟩:=lz;obtain⟨A,cS,a6,-,-⟩:=ok.room;unfold itemAt at dw;dsimp only at dw;split at dw
  ·rename_i l ek;obtain rfl:=ci dw;obtain⟨-,vs,n,bj,sh⟩:=gk.rel.obj _ _ _ hp ek;have aQ:h.IsList p.1 vs.toArray:=⟨_,bj,rfl,n,rfl⟩;refine af.any cS λs e1 e2 aP=>?_
   subst e1;cases q:l[k]?with
   |none=>
    refine ah9 a6 aR hi aQ (by(refine G F3 (fB F2 ?_);rw [<-sh.length]);exact F2.mp q) λav ex hz=>⟨⟨y.ext tP ex hz,rfl⟩,e2,aP⟩
   |some v=>
    refine bU (sh.get q) λaJ cU fR=>?_
    refine wpAny_pyNext_enum_item aR hi aQ (x:=aJ) (by refine G F3 ?_;exact cU) gX λav bl tH ce hz qO=>⟨⟨⟨λb o z fc=>qO b o (x.ne fh z) (y.ne tP z) fc,by show s.heap.objs.size<=av.objs.size;exact zw (id (rf hz))⟩,_,rfl,⟨p,aJ,_,rfl,hp,fh,tP,by refine G (B3 ..) ?_;exact bl,tH,λz=>?_⟩,?_⟩,e2,aP⟩
    ·have :=gE aR;exact Nat.ne_of_gt this z
    ·exact⟨_,_,_,rfl,⟨_,ce,rfl,_,rfl⟩,⟨_,rfl⟩,fR⟩
  ·exact br dw
 letgo:=λ{ah k ρ m H h jI aJ t ax bV} ok gk bT dw sg fc=>by
  refine ase bT λp Jj a akV hp fh tP bl hi aeB=>?_;obtain rfl:=akV
  obtain⟨A,cS,a6,-,-⟩:=ok.room;obtain⟨u,v,rfl⟩:∃u v,jI=.pair u v:=by
   unfold itemAt at dw;dsimp only at dw;split at dw
   ·have dw:=ci dw;exact bU (rz.mp dw) λy _ de=>⟨_,_,de.symm⟩
   ·exact br dw
  rcases G3 fc with⟨_,_,_,-,z,-⟩|⟨n,_,_,_,_,w,rfl,-,-,-⟩
  ·cases z
  refine af.any cS λs e1 e2 aP=>?_
  subst e1;refine wpAny_letOwnedTupleGo_enum bl λav ve gc=>⟨⟨⟨λb o z e=>gc.extBut b o (x.ne fh z) e,iB gc.1.symm⟩,⟨p,Jj,hp,fh,tP,ve,hi.extBut gc.extBut (Cm gX)⟩,?_⟩,e2,aP⟩
  refine tZ sg λb ef ja q ce b9 dG=>?_
  obtain rfl:=PySem.Value.ref.inj q;exact⟨a,ef,ja,rfl,ce.extBut gc.extBut aeB,b9,dG⟩
end iters
theorem Rs{s:kJ}{x:aG}{lo:Nat}(ok:bz Θ.fs (d+4) ah)(a:bD Θ Z ρ m H h)(hs:Ei Θ Z ρ H h lo s x)(j6:lo<=h.objs.size):
  af Θ.w Θ.O ah (pyIter x) (λit ai=>gM h ai/\∃am U,(∀df,(∀b∈own df,b∈own Z\/ai.objs.size<=b)->wj Θ d df s it lo ai.objs.size am U)/\am 0 ρ ai) h:=by
 obtain⟨A,cS,a6,-,-⟩:=ok.room;refine af.any cS λst e1 e2 aP=>?_
 subst e1;refine dS (a.fresh (cW _)) λch cd ee=>?_
 induction s using Mine.Internal.kJ.casesOn with
 |lst i=>
  refine Ue hs λakW l ek=>?_;obtain⟨p,hp,rfl⟩:=akW
  obtain⟨-,vs,n,bj,sh⟩:=a.rel.obj _ _ _ hp ek;refine wpAny_pyIter_list (items:=vs.toArray) ⟨_,bj,rfl,n,rfl⟩ ⟨⟨.push _ _,_,_,λdf bl=>af4 (d:=d) (a:=st.heap.objs.size) ⟨j6,?_,λz=>?_,ee⟩,p,hp,ch,⟨_,hU _ rfl,rfl,rfl⟩⟩,e2,aP⟩
  ·exact G (ib ..) (Gb _)
  ·rcases bl _ z with z|z
   ·exact cd z
   ·rw [ib] at z;exact jn _ ‹_›
 |items l=>
  obtain⟨az,aT,ca,t,u,v,r,rfl,rfl,aD,ha,hb,jH,aq,asI,da⟩:=hs;refine wpAny_pyIter_range da (anP aD jH ha hb) ⟨⟨.push _ _,_,_,λdf bl=>af5 (d:=d) aD (ad:=st.heap.objs.size) ⟨j6,?_,λz=>?_,ee⟩,ch,?_⟩,e2,aP⟩
  ·exact G (ib ..) (Gb _)
  ·rcases bl _ z with z|z
   ·exact cd z
   ·rw [ib] at z;exact jn _ ‹_›
  ·have :=hU st.heap (o:= {cls:=.type "range_iterator",data:=.fields #[rI az,rI (og az aT ca),rI ca]}) rfl;simpa using this
 |enum i=>
  refine asf hs λr it p akX gn fY gX akY hp bl hi=>?_;obtain rfl:=akX;refine cm akY λl ek=>?_
  have d1:st.heap.objs.size>r:=gE bl;have g2:st.heap.objs.size>it:=by refine bU hi λo aR _=>?_;exact gE aR
  refine wpAny_pyIter_enum bl ⟨⟨.refl _,_,_,λdf tC=>af3 (d:=d) ⟨gn.1,d1,λz=>?_,gn.2.2.2⟩ ⟨fY.1,g2,λz=>?_,fY.2.2.2⟩ gX,p,.none,hp,gn.2.1,fY.2.1,bl,hi⟩,e2,aP⟩
  ·rcases tC _ z with z|z
   ·exact gn.2.2.1 z
   ·lia
  ·rcases tC _ z with z|z
   ·exact fY.2.2.1 z
   ·lia
theorem anO{vs:List L}(e:lV vs=J l):(∃b,vs=[.int b]/\(cH b&&bH b.toNat)=ae/\l=qU 0 b 1)\/(∃a b,vs=[.int a,.int b]/\(cH a&&cH b&&bH (b - a).toNat)=ae/\l=qU a b 1)\/
  ∃a b c,vs=[.int a,.int b,.int c]/\(eg (0<c)&&eg (c<1000000)&&cH a&&cH b&&bH (b - a).toNat)=ae/\l=qU a b c:=by
 rcases vs with - |⟨x,- |⟨y,- |⟨z,- |⟨w,r⟩⟩⟩⟩
 ·exact br e
 ·exact gb e λb kM e=>dR e λaq e=>.inl ⟨b,by(exact G (r4 kM) rfl),aq,(ci e).symm⟩
 ·exact gb e λb kM e=>gb e λc lQ e=>dR e λaq e=>.inr (.inl ⟨b,c,by(exact G (r4 kM) (G (r4 lQ) rfl)),aq,(ci e).symm⟩)
 ·exact gb e λb kM e=>gb e λc lQ e=>gb e λd vl e=>dR e λaq e=>.inr (.inr ⟨b,c,d,by(exact G (r4 kM) (G (r4 lQ) (G (r4 vl) rfl))),aq,(ci e).symm⟩)
 ·exact br e
theorem ag1{vs:List L}{vs':List aG}{lo:Nat}(ok:bz Θ.fs (d+4) ah)(a:bD Θ Z ρ m H h)(hv:All2 (bg ρ) vs vs')(e:lV vs=J l)(j6:lo<=h.objs.size):
  af Θ.w Θ.O ah (PySem.call (.type "range") vs') (λx ai=>gM h ai/\Ei Θ Z ρ H ai lo (.items l) x) h:=by
 obtain⟨A,cS,a6,-,-⟩:=ok.room;rcases anO e with⟨b,rfl,aq,rfl⟩|⟨b,c,rfl,aq,rfl⟩|⟨b,c,asm,rfl,aq,rfl⟩
 ·refine ar7 hv.one λyL ak0 t ak1=>?_;obtain rfl:=ak0;obtain rfl:=ak1
  refine af.any cS λst e1 e2 aP=>?_
  subst e1;refine dS (a.fresh (cW _)) λch cd ee=>call_range_1 ⟨⟨.push _ _,0,b,1,_,_,_,_,rfl,rfl,ht _,by decide,(eZ aq),ht _,by simpa using(eK aq),⟨j6,ch,cd,ee⟩,hU _ rfl⟩,e2,aP⟩
 ·refine ar9 hv.two λyL bE ak2 ak3 u ak4=>?_;obtain rfl:=ak2;refine cm ak3 λt amY=>?_;obtain rfl:=amY;obtain rfl:=ak4
  refine af.any cS λst e1 e2 aP=>?_
  subst e1;refine dS (a.fresh (cW _)) λch cd ee=>cz (fm aq) λai ak=>call_range_2 ⟨⟨.push _ _,b,c,1,_,_,_,_,rfl,rfl,ht _,(eZ ai),(eK ai),ht _,ak,⟨j6,ch,cd,ee⟩,hU _ rfl⟩,e2,aP⟩
 ·refine asg hv.three λyL bE ea ak5 ak6 ak7 v ak8=>?_;obtain rfl:=ak5;refine cm ak6 λt am9=>?_;obtain rfl:=am9;refine cm ak7 λu Kn=>?_;obtain rfl:=Kn;obtain rfl:=ak8
  simp only [he,decide_eq_true_eq] at aq;refine cz aq λak9 gl=>?_;refine cz ak9 λKo cC=>?_;obtain⟨⟨ai,ak⟩,aZ⟩:=Ko
  refine af.any cS λst e1 e2 aP=>?_
  subst e1;refine dS (a.fresh (cW _)) λch cd ee=>call_range_3 (Cm (Int.ne_of_lt ai)) ⟨⟨.push _ _,b,c,asm,_,_,_,_,rfl,rfl,ai,aZ,cC,ak,gl,⟨j6,ch,cd,ee⟩,hU _ rfl⟩,e2,aP⟩ (.inl (Vt (Xy ai ak)))
theorem agU{aJ:aG}{lo:Nat}(ok:bz Θ.fs (d+4) ah)(a:bD Θ Z ρ m H h)(hv:bg ρ (.new i) aJ)(e:H[i]? =J (.list l))(j6:lo<=h.objs.size):
  af Θ.w Θ.O ah (PySem.call (.type "enumerate") [aJ]) (λx ai=>gM h ai/\Ei Θ Z ρ H ai lo (.enum i) x) h:=by
 obtain⟨A,cS,a6,-,-⟩:=ok.room;refine af.any cS λst e1 e2 aP=>?_
 subst e1;obtain⟨p,hp,rfl⟩:=hv;obtain⟨-,vs,n,bj,sh⟩:=a.rel.obj _ _ _ hp e;refine dS (a.fresh (cW _)) λch cd ee=>dS (a.fresh (uB st.heap.objs.size)) λd1 g2 hx=>?_
 refine call_enumerate_list (items:=vs.toArray) ⟨_,bj,rfl,n,rfl⟩ λav bl hi hz qO=>⟨⟨⟨qO,by show st.heap.objs.size<=av.objs.size;exact zw (id (rf hz))⟩,_,_,p,rfl,⟨uC j6,d1,g2,hx⟩,⟨j6,ch,cd,ee⟩,Nat.succ_ne_self _,⟨l,e⟩,hp,bl,hi⟩,e2,aP⟩
theorem afK{c d:Prop}{_:Decidable c}{_:Decidable d}{P Q aa:Prop}(w:if c then P else if d then Q else False)(k1:c->P->aa)(k2:d->Q->aa):aa:=by
 by_cases h:c
 ·rw [aY h] at w;exact k1 h w
 ·rw [a8 h] at w;exact qI w k2
theorem RA{v:L}{H:an}{aa:Prop}(e:listOf v H=J i)(k:∀l,v=.new i->H[i]? =J (.list l)->aa):aa:=
 gb e λj e1 e=>gb e λl e2 aP=>gb e2 λo jD iO=>by
  have aP:=ci aP;subst aP;exact k l (JO e1) (jD.trans (congrArg J (Rz iO)))
def mj(Θ:fa)(C:mL)(d:Nat)(e:aU):Prop:=∀ {ah Z ρ m H h} {k:kJ->an->Prop} {bF:Type} {f:aG->Sem bF} {Q:bF->cr->Loc->an->Prop},bz Θ.fs (d+4) ah->bD Θ Z ρ m H h->
 sw False C e (λH k=>bO False C e Z.scope.names m H k) Z.scope.names m H k->
 (∀s x bG bI ai,bD Θ Z bG m bI ai->d3 (own Z) ρ h bG ai->Ei Θ Z bG bI ai h.objs.size s x->k s bI->af Θ.w Θ.O ah (f x) (d4 Θ Z ρ h Q) ai)->aa Θ ah Z ρ (eval e Z>>=f) Q h
set_option tactic.hygienic true in
theorem arr{e:aU}{W:an->(L->an->Prop)->Prop}{ax:ds}{m:Loc}{H:an}{k:kJ->an->Prop}:A5 e=aA->sw False C e W ax m H k=W H (lstK False k):=by
 rcases e<;>first |exact λ_=>(rfl:_=W H (lstK False k))|skip
 rename_i f aH iT p;rcases iT with _|⟨_,_⟩
 ·rcases f<;>first |exact λ_=>(rfl:_=W H (lstK False k))|exact λh=>b8 h.symm
 ·exact λ_=>(rfl:_=W H (lstK False k))
set_option tactic.hygienic true in
theorem mj.plain{e:aU}(bl:cE Θ C d e)(hn:A5 e=aA):mj Θ C d e:=λ{ah Z ρ m H h k bF f Q} ok a w aB=>by
 rw [arr hn] at w;refine af.bind (af.mono (bl ok a w) λaJ ai cV=>?_)
 obtain⟨bG,dF,bI,bL,ch,aM,v,b9,bE⟩:=cV;subst aM;set_option smartUnfolding false in refine jM (o:=listOf v bI) bE λi dw LW=>RA dw λl Al ek=>?_
 subst Al;exact aB (.lst _) _ _ _ _ bL ch ⟨b9,l,ek⟩ LW
theorem Pq{T:String}{pos:Pos}{aH:List aU}{w:eJ}{bp:gv}{Q:aG->bq->Prop}(hn:gA aH=ae)
  (x:af w bp ah (evalArgs (.type T) ae (jB pos (ic aH Z)) []) (λa ai=>a.kw=[]/\af w bp ah (PySem.call (.type T) a.pos) Q ai) h):
  af w bp ah (Cy pos (.type T) [] (jB pos (ic aH Z)) []) Q h:=by
 refine dS (Ek (pos:=pos) hn Z) λn1 n2 A4=>af.bind (af.holding (af.mono x λa ai eH=>cz eH λe y=>af.bind (af.standAt ?_)))
 obtain⟨vs',iT⟩:=a;dsimp only at e y;subst e;exact G n1 (af.bv (λ_=>af.pure (a:=Keeper.machine)) (af.bind (af.mono y λr ak q=>af.bind (af.holding (af.point (af.pure q))))))
set_option tactic.hygienic true in
theorem mj.call{x:Str}{p q:Pos}{aH:List aU}(aO:(x==("__debug__":Str))=aA)(hs:kl Θ C d aH)(hn:gA aH=ae):mj Θ C d (.Call (.Name x p) aH [] q):=λ{ah Z ρ m H h k bF f Q} ok a w aB=>by
 have dh:eval (.Call (.Name x p) aH [] q) Z=(eval (.Name x p) Z>>=λf'=>Cy q f' [] (jB q (ic aH Z)) []):=rfl
 refine G dh (G (uv ..) (G (eval_Name _ _ _ aO ..) ?_));simp only [uv];rw [arq] at w;refine aa.stand (afK w (λj0 w=>?_) λj0 w=>?_)
 ·refine af.bind (af.mono (Bm ok a j0) λf' ai cV=>?_)
  obtain⟨bG,dF,bI,bL,ch,aM,a7,q3⟩:=cV;subst aM a7;cases q3;refine af.bind (Pq hn (af.mono (Eg hs hn ok bL w) λzR ak cV=>?_))
  obtain⟨du,jK,cN,cX,cd,aM,a7,vs,r,ea⟩:=cV;refine⟨a7,?_⟩;subst aM;set_option smartUnfolding false in refine jM ea λl ek ea=>?_
  exact af.mono (ag1 ok cX r ek (cQ ch.size cd.size)) λy aZ z=>aB _ _ _ _ _ (cX.ext z.1) (ch.trans (cd.trans (.ext z.1))) z.2 ea
 ·refine af.bind (af.mono (Bm ok a j0) λf' ai cV=>?_)
  obtain⟨bG,dF,bI,bL,ch,aM,a7,q3⟩:=cV;subst aM a7;cases q3;refine af.bind (Pq hn (af.mono (Eg hs hn ok bL w) λzR ak cV=>?_))
  obtain⟨du,jK,cN,cX,cd,aM,a7,vs,r,ea⟩:=cV;refine⟨a7,?_⟩;subst aM;set_option smartUnfolding false in refine jM ea λi dw LW=>gb dw λv e1 e2=>RA e2 λl Al ek=>?_
  have e1:=ai0 e1;subst e1 Al
  ··exact bU r.one λaJ ao f0=>G ao (af.mono (agU ok cX f0 ek (cQ ch.size cd.size)) λy aZ z=>aB _ _ _ _ _ (cX.ext z.1) (ch.trans (cd.trans (.ext z.1))) z.2 LW)
theorem ec.for{t it a pos}(da:mj Θ C d it)(ha:km Θ C d a)(aq:∀Z x,CC it Z x=bK x):ec Θ C d (.For t it a [] pos):=λ{ah Z ρ m H h k} ok a0 w=>by
 rw [arx] at w;refine G (exec_For ..) (.stand (da ok a0 w λs x bG bI ai bL ch Le bE=>?_))
 refine G (aq ..) (af.bv (λ_=>af.pure) (af.bv (λ_=>af.standAt) (af.bind (af.holding (af.mono (Rs ok bL Le ch.size) λaf6 ak cV=>?_)))))
 refine Uf cV λex am U X I9=>?_
 have cX:=bL.ext ex;exact af.runOwn λp=>adN (c0:=.forLoop t af6 a [] Z) (X Z λb hb=>.inl hb) ha ok _ 0 cX I9 (ch.trans (d3.ext ex)) (cW _) bE
end
variable {df:Env}
section
variable {R:aG->bq->Prop}
theorem O7{kindOf:Str->Option lI}:∀ {ns:List Str} {vs:List aG} {m:Str->Option aG},x∉ns->kk kindOf (ns.zip vs) m x=m x
 | [],_,_,_=>rfl
 |_::_,[],_,_=>rfl
 |n::ns,v::vs,m,aO=>by
  (refine G F8 ?_;rewrite [kk];rw [O7 (λz=>aO (f8 _ z))])
  split
  ·show(if x=n then J v else m x)=m x;(exact G (a8 (λ(z:x=n)=>aO (by rw [z];exact fK))) rfl)
  ·rfl
theorem O6{kindOf:Str->Option lI}:∀ {ns:List Str} {vs:List aG} {m:Str->Option aG},x∉ns->s5 kindOf (ns.zip vs) m x=m x
 | [],_,_,_=>rfl
 |_::_,[],_,_=>rfl
 |n::ns,v::vs,m,aO=>by
  (refine G F8 ?_;rewrite [s5];rw [O6 (λz=>aO (f8 _ z))])
  split
  ·rfl
  ·show(if x=n then J v else m x)=m x;(exact G (a8 (λ(z:x=n)=>aO (by rw [z];exact fK))) rfl)
theorem ZZ{kindOf:Str->Option lI}{v:L}(hk:kindOf x=J .local){vs:List L}{vs':List aG}(a:All2 (bg ρ) vs vs'):∀ {ns:List Str} {m:Str->Option aG},ns.Nodup->cy (ns.zip vs) x=J v->
  ∃aJ,kk kindOf (ns.zip vs') m x=J aJ/\bg ρ v aJ:=by
 induction a with
 |nil=>intro ns m hn e;rcases ns<;>exact br e
 | @cons u ef vs vs' r t ih=>
  intro ns m hn e;induction ns using mO with
  |nil=>exact br e
  |cons n ns=>?_
  have e:(if n=x then J u else cy (ns.zip vs) x)=J v:=e
  (rewrite [F8];rw [kk])
  rw [n5] at hn;by_cases q:n=x
  ·subst q;rw [aY rfl] at e;obtain rfl:=ci e;(rewrite [O7 hn.1];rw [aY hk]);exact⟨ef,by simp,r⟩
  ·rw [a8 q] at e;exact ih hn.2 e
theorem ZY{kindOf:Str->Option lI}{v:L}(hk:kindOf x≠J .local){vs:List L}{vs':List aG}(a:All2 (bg ρ) vs vs'):∀ {ns:List Str} {m:Str->Option aG},ns.Nodup->cy (ns.zip vs) x=J v->
  ∃aJ,s5 kindOf (ns.zip vs') m x=J aJ/\bg ρ v aJ:=by
 induction a with
 |nil=>intro ns m hn e;rcases ns<;>exact br e
 | @cons u ef vs vs' r t ih=>
  intro ns m hn e;induction ns using mO with
  |nil=>exact br e
  |cons n ns=>?_
  have e:(if n=x then J u else cy (ns.zip vs) x)=J v:=e
  (rewrite [F8];rw [s5])
  rw [n5] at hn;by_cases q:n=x
  ·subst q;rw [aY rfl] at e;obtain rfl:=ci e;(rewrite [O6 hn.1];rw [a8 hk]);exact⟨ef,by simp,r⟩
  ·rw [a8 q] at e;exact ih hn.2 e
theorem z4:∀(fZ:List (Str×lI)) (n:Nat) (acc:List (Str×a1)),((acc.lookup x).isSome=ae\/(x,NJ)∈fZ)->((rD n fZ acc).lookup x).isSome=ae
 | [],n,acc,h=>by rcases h with h|h;exact h;rcases h
 |(y,k)::r,n,acc,h=>by
  unfold rD;split
  ·rename_i hk;refine z4 r _ _ ?_;rcases h with h|h
   ·refine .inl ?_;refine G sP ?_;split
    ·rfl
    ·exact h
   ·rcases fw.mp h with h|h
    ·refine oN h λala alb=>?_;obtain rfl:=ala;obtain rfl:=alb;exact .inl (by refine G sP ?_;simp)
    ·exact .inr h
  ·rename_i hk;refine z4 r _ _ ?_;rcases h with h|h
   ·exact .inl h
   ·rcases fw.mp h with h|h
    ·refine oN h λalc ald=>?_;obtain rfl:=alc;obtain rfl:=ald;simp at hk
    ·exact .inr h
theorem HK:∀(fZ:List (Str×lI)) (n:Nat) (acc:List (Str×a1)),(fZ.map (·.1)).Nodup->(∀p∈acc,p.1∉fZ.map (·.1))->(∀p∈acc,acc.lookup p.1=J p.2)->
  ∀p∈rD n fZ acc,(rD n fZ acc).lookup p.1=J p.2
 | [],n,acc,_,_,h=>h
 |(y,k)::r,n,acc,hn,ha,h=>by
  rw [h9,n5] at hn;unfold rD;split
  ·refine HK r _ _ hn.2 (λp hp=>?_) (λp hp=>?_)
   ·rcases fw.mp hp with rfl|hp
    ·exact hn.1
    ·exact λz=>ha p hp (f8 _ z)
   ·rcases fw.mp hp with rfl|hp
    ·refine G sP ?_;simp
    ·refine G sP ?_;have :(p.1==y)=aA:=by
      simp only [beq_eq_false_iff_ne,ne_eq];exact λz=>ha p hp (G z fK)
     exact G this (h p hp)
  ·exact HK r _ _ hn.2 (λp hp z=>ha p hp (f8 _ z)) h
def uu(h:bq)(a2:a1):Prop:=∃o,h.get? a2=J o/\o.cls=.type "frame"/\∃aH n,o.data=.dict aH n
section
variable {M:qh}{s₀:cn}{m rV:Str->Option aG}
theorem aoR{n:Str}{v:aG}{Q:Unit->cn->Prop}(x:uF s₀ Z.locals m Z.cells rV s)(y:uu s.heap Z.locals)(hk:Z.scope.kind=.function)(aQ:Z.kindOf n=J .local)
  (q:∀aS,uF s₀ Z.locals (λy=>if y=n then J v else m y) Z.cells rV aS->uu aS.heap Z.locals->Q () aS):cG M A (storeName Z n v) Q E s:=by
 refine G (storeName_local aQ (by rw [hk];rfl) ..) ?_
 refine T0 x.toInCall.ns λav lm hj jH=>q _ ⟨⟨?_,lm,λb o e=>?_,x.toInCall.fresh⟩,λk c aD=>?_,x.apart,x.above⟩ ?_
 ·refine oY x.toInCall.same λh₁ tk ale=>?_;obtain rfl:=ale
  exact⟨av,_,rfl⟩
 ·exact hj.extBut b o (mf (eE (gE e) x.toInCall.fresh)) (x.toInCall.keep b o e)
 ·exact(x.cell k c aD).sameBut hj (Nat.ne_of_gt (x.above k c (mem_of_lookup aD)))
 ·refine kT y λo e c _=>?_
  refine bU (jH o e) λo' cU c'=>E3 (id lm) λen aH n e2 dd _=>?_
  rw [cU] at e2;obtain rfl:=ci e2;exact⟨o',cU,c'.trans c,aH,n,dd⟩
theorem aoP{n:Str}{c:a1}{v:aG}{Q:Unit->cn->Prop}(x:uF s₀ Z.locals m Z.cells rV s)(y:uu s.heap Z.locals)(hk:Z.scope.kind=.function)(aQ:Z.kindOf n=J .cell)(aD:Z.cells.lookup n=J c)
  (q:∀aS,uF s₀ Z.locals m Z.cells (λy=>if y=n then J v else rV y) aS->uu aS.heap Z.locals->Q () aS):cG M A (storeName Z n v) Q E s:=by
 have mu:=x.above n c (mem_of_lookup aD);refine wpAny_storeName_cell hk aQ aD (x.cell n c aD) λav jH hj=>q _ ⟨⟨?_,x.toInCall.ns.sameBut hj (mf mu),λb o e=>?_,x.toInCall.fresh⟩,λk c' Dw=>?_,x.apart,x.above⟩ ?_
 ·refine oY x.toInCall.same λh₁ tk alf=>?_;obtain rfl:=alf
  exact⟨av,_,rfl⟩
 ·exact hj.extBut b o (mf (n8 (eE (gE e) x.toInCall.fresh) mu)) (x.toInCall.keep b o e)
 ·by_cases IT:k=n
  ·subst IT;rw [aD] at Dw;obtain rfl:=ci Dw;simpa using jH
  ·exact G (a8 IT) ((x.cell k c' Dw).sameBut hj λe=>IT (Gz x.apart (mem_of_lookup Dw) (e▸mem_of_lookup aD)))
 ·refine bU y λo e r=>?_
  exact⟨o,(hj.2 _ (mf mu)).trans e,r⟩
theorem Z0(f:Str×aG->PUnit->Sem (ForInStep PUnit))(aq:∀n v u,f (n,v) u=(do storeName Z n v;bK (.yield ⟨⟩)))(hk:Z.scope.kind=.function):
  ∀(binds:List (Str×aG)) (m rV:Str->Option aG) (s:cn) (Q:PUnit->cn->Prop),uF s₀ Z.locals m Z.cells rV s->uu s.heap Z.locals->
   (∀x∈binds,Z.kindOf x.1=J .local \/(Z.kindOf x.1=J .cell/\(Z.cells.lookup x.1).isSome=ae))->
   (∀aS,uF s₀ Z.locals (kk Z.kindOf binds m) Z.cells (s5 Z.kindOf binds rV) aS->uu aS.heap Z.locals->Q ⟨⟩ aS)->cG M A (forIn binds ⟨⟩ f) Q E s:=by
 intro binds;induction binds with
 |nil=>exact λm rV s Q x y _ h=>G List.forIn_nil (cL (h s x y))
 |cons p r ih=>
  intro m rV s Q x y j5 h;obtain⟨n,v⟩:=p;refine G (F1 ..) (G (aq ..) ?_);have da:=λz hz=>j5 z (f8 _ hz)
  rcases j5 (n,v) fK with aQ|⟨aQ,aD⟩
  ·refine b4 (b4 (aoR x y hk aQ λaS E1 eO=>cL (ih _ _ aS Q E1 eO da λd6 aT=>h d6 ?_)))
   unfold kk s5;refine G (aY aQ) (G (aY aQ) ?_);exact aT
  ·refine cm (sW.mp aD) λc aD=>?_
   have QL:¬Z.kindOf n=J .local :=by refine G aQ ?_;decide
   refine b4 (b4 (aoP x y hk aQ aD λaS E1 eO=>cL (ih _ _ aS Q E1 eO da λd6 aT=>h d6 ?_)))
   unfold kk s5;refine G (a8 QL) (G (a8 QL) ?_);exact aT
theorem ah7{m8:jA}{globals:a1}{binds:List (Str×aG)}{Kz:Str}{Ir:Option a1}{code:aG}{G7:a1}{Q:Env->cn->Prop}
  (hk:m8.kind=.function)
  (j5:∀x∈binds,m8.names.lookup x.1=J .local \/(m8.names.lookup x.1=J .cell/\((rD (s.heap.objs.size+1) m8.names []).lookup x.1).isSome=ae))
  (jG:∀Z,Z=newEnv m8 s.heap.objs.size globals (rD (s.heap.objs.size+1) m8.names []) Kz Ir code ac G7->
   ∀aS,uF s Z.locals (kk Z.kindOf binds λ_=>ac) Z.cells (s5 Z.kindOf binds λ_=>ac) aS->uu aS.heap Z.locals->Q Z aS):
  cG M A (NS m8 globals [] binds Kz Ir code ac G7) Q E s:=by
 simp only [NS,Option.isSome_none,ng,if_false];refine bN (λ_=>wpAny_alloc) ?_
 refine bN (λ_=>wpAny_layCells _ (λname agh asy=>by cases ae3:agh==NJ<;>simp [ae3]) _ _ _ _) ?_
 have ok:=cellsFrom_ok m8.names (s.heap.push {cls:=.type "frame",data:=.dict #[]}) (s.heap.objs.size+1) [] ⟨λ_ _ bc=>(nomatch bc),List.Pairwise.nil⟩ (G (ib ..) (cW _))
 rw [ib] at ok;refine G (show({s with heap:=s.heap.push {cls:=.type "frame",data:=.dict #[]}}:cn).heap.objs.size=s.heap.objs.size+1 from ib ..) ?_
 refine b4 (Z0 (s₀:=s) (Z:=newEnv m8 s.heap.objs.size globals (rD (s.heap.objs.size+1) m8.names []) Kz Ir code ac G7)
  _ (λ_ _ _=>rfl) hk binds (λ_=>ac) (λ_=>ac) _ _
  ⟨⟨⟨_,_,rfl⟩,(Heap.Ns.new s.heap (.type "frame")).keeps (NU _ _),λb o e=>NU _ _ b o (k6 _ e),cW _⟩,
   λn c aD=>(ok.empty n c (mem_of_lookup aD)).1,ok.apart,λn c bc=>(ok.empty n c bc).2⟩
  ⟨_,NU _ _ _ _ (hU _ rfl),rfl,_,_,rfl⟩
  j5 λaS x y=>cL (jG _ rfl aS x y))
end
structure ue(P:cB)(f:a1)(st:cD):Prop where
 fd:∃o fd,(dk P).lookup f=J o/\o.data=.func fd/\fd.body=.stmts (aW st)/\fd.scope=dO st/\fd.globals=k8/\fd.closure=[]/\fd.builtins=s6/\
  codeIn (dk P) fd.code fd.qualname=ae/\(∀(s:cn) (vs:List aG),(dk P).In s.heap->vs.length=(fF st).args.length->BindsTo s fd ⟨vs,[]⟩ (((fF st).args.map (·.arg)).zip vs))
 co:(dO st).isCoroutine=aA
 gen:(dO st).isGenerator=aA
 kind:(dO st).kind=.function
 nodup:((dO st).names.map (·.1)).Nodup
 nofree:∀p∈(dO st).names,p.2≠.free
 params:((fF st).args.map (·.arg)).Nodup
 pk:∀x∈(fF st).args.map (·.arg),(dO st).names.lookup x=J .local \/(dO st).names.lookup x=J .cell
theorem bz.wider{a9 mM:List a1}{n:Nat}{ah:Ctx}(h:bz a9 n ah)(k:∀b∈a9,b∈mM):bz mM n ah:=
 ⟨h.room,h.here,h.below,λZ bl=>Mm (h.fr Z bl) λa b hb e=>⟨a,b,k b hb,e⟩⟩
def dm(w:eJ)(bp:gv)(ah:Ctx){ay:Type}(t:Sem ay)(Q:ay->bq->Prop)(X:aG->bq->Prop)(h:bq):Prop:=
 ∀s p,s.heap=h->s.gens= #[]->s.os=bp->gN (c8 prog w) ah t (λa _ aS=>Q a aS.heap/\aS.gens= #[]/\aS.os=bp) (λe _ aS=>X e aS.heap/\aS.gens= #[]/\aS.os=bp) p s
def sK(w:eJ)(bp:gv)(ah:Ctx)(R:aG->bq->Prop)(X:aG->bq->Prop)(h:bq):Prop:=
 ∀s p,s.heap=h->s.gens= #[]->s.os=bp->wpCode (c8 prog w) ah (λr aS=>(match r with | .ok f=>∃v,f=.ret v/\R v aS.heap| .error e=>X e aS.heap)/\aS.gens= #[]/\aS.os=bp) p s
section
variable {bp:gv}{X:aG->bq->Prop}
theorem dm.of{t:Sem ay}{Q:ay->bq->Prop}(x:af w bp ah t Q h):dm w bp ah t Q X h:=λs p e1 e2 aP=>
 lJ _ _ _ (λ_ _ _ y=>y) (λ_ _ _ y=>y.elim) _ _ (x s p e1 e2 aP)
theorem dm.mono{t:Sem ay}{Q ol:ay->bq->Prop}{zM:aG->bq->Prop}(x:dm w bp ah t Q X h)(k:∀a av,Q a av->ol a av)(fO:∀e av,X e av->zM e av):dm w bp ah t ol zM h:=λs p e1 e2 aP=>
 lJ _ _ _ (λa _ aS y=>⟨k _ _ y.1,y.2⟩) (λe _ aS y=>⟨fO _ _ y.1,y.2⟩) _ _ (x s p e1 e2 aP)
theorem dm.toJ{t:Sem ay}{Q:ay->bq->Prop}(x:dm w bp ah t Q (λ_ _=>False) h):af w bp ah t Q h:=λs p e1 e2 aP=>
 lJ _ _ _ (λ_ _ _ y=>y) (λ_ _ _ y=>y.1.elim) _ _ (x s p e1 e2 aP)
theorem dm.bind{m:Sem ay}{f:ay->Sem bF}{Q:bF->bq->Prop}(x:dm w bp ah m (λa av=>dm w bp ah (f a) Q X av) X h):dm w bp ah (m>>=f) Q X h:=λs p e1 e2 aP=>by
 exact G (wB ..) (lJ _ _ _ (λa gZ aS y=>y.1 aS gZ rfl y.2.1 y.2.2) (λ_ _ _ y=>y) _ _ (x s p e1 e2 aP))
theorem dm.bindJ{m:Sem ay}{f:ay->Sem bF}{Q:bF->bq->Prop}(x:af w bp ah m (λa av=>dm w bp ah (f a) Q X av) h):dm w bp ah (m>>=f) Q X h:=dm.bind (.of x)
theorem dm.keep{vs:List aG}{m:Sem ay}{Q:ay->bq->Prop}(x:dm w bp ah m Q X h):dm w bp ah (m.keep vs) Q X h:=λs p e1 e2 aP=>by
 exact G (Sem.wp_keep ..) (x s p e1 e2 aP)
theorem dm.onRaise{m:Sem ay}{k:aG->Sem Unit}{Q:ay->bq->Prop}(x:dm w bp ah m Q (λe av=>dm w bp ah (k e) (λ_ ak=>X e ak) X av) h):dm w bp ah (m.onRaise k) Q X h:=λs p e1 e2 aP=>by
 exact G (Sem.wp_onRaise ..) (lJ _ _ _ (λ_ _ _ y=>y) (λe gZ aS y=>y.1 aS gZ rfl y.2.1 y.2.2) _ _ (x s p e1 e2 aP))
theorem dm.attempt{m:Sem ay}{Q:Except aG ay->bq->Prop}(x:dm w bp ah m (λa=>Q (.ok a)) (λe=>Q (.error e)) h):af w bp ah m.attempt Q h:=λs p e1 e2 aP=>by
 exact G (Sem.wp_attempt ..) (x s p e1 e2 aP)
theorem dm.any{t:Sem ay}{Q:ay->bq->Prop}{A:kI}(cS:ah.In A)(x:∀s,s.heap=h->s.gens= #[]->s.os=bp->cG (c8 prog w) A t (λa aS=>Q a aS.heap/\aS.gens= #[]/\aS.os=bp) (λe aS=>X e aS.heap/\aS.gens= #[]/\aS.os=bp) s):dm w bp ah t Q X h:=
 λs p e1 e2 aP=>x s e1 e2 aP ah p cS
theorem sK.tree{c:lH}(aD:ah.code=c)(x:dm w bp ah ((c8 prog w).den c) (λcq av=>match cq with | .done f=>∃v,f=.ret v/\R v av| .again c'=>c'.quiet=ae/\sK w bp (ah.goto c') R X av) X h):sK w bp ah R X h:=λs p e1 e2 aP=>by
 (refine fB (N1 ..) ?_;rw [aD])
 refine lJ _ _ _ (λcq gZ aS y=>?_) (λe gZ aS y=>⟨y.1,y.2⟩) _ _ (x s p e1 e2 aP)
 refine dS y λcA de fi=>?_
 induction cq using PySem.Fin.casesOn with
 |done f=>exact⟨cA,de,fi⟩
 |again c'=>exact⟨cA.1,cA.2 aS gZ rfl de fi⟩
theorem dm.call{f:aG}{pos:List aG}{iT:List (Str×aG)}{Q:aG->bq->Prop}(x:∀p,sK w bp (ah.enter (.call f ⟨pos,iT⟩) ac p) Q X h):dm w bp ah (PySem.call f pos iT) Q X h:=λs p e1 e2 aP=>by
 show gN _ _ (PySem.runValue _) _ _ _ _
 refine G (Sem.wp_runValue ..) (GK (λr aS y=>?_) (x p s p e1 e2 aP))
 induction r using Except.casesOn with
 |ok f=>
  refine cz y λalg b=>?_;refine bU alg λv Ky a=>?_;obtain rfl:=Ky
  exact⟨a,b⟩
 |error e=>exact y
theorem Jn{body:List cD}{Z:Env}(aD:ah.code=.func body Z)
  (k:dm w bp ah (execs body Z) (λdn av=>R (match dn with | .ret v=>v|_=>.none) av) (λe av=>dm w bp ah (leaving Z e) (λ_ ak=>X e ak) X av) h):sK w bp ah R X h:=by
 refine sK.tree aD ?_;show dm w bp ah (do point;match <-(execs body Z).onRaise (leaving Z) with | .ret v=>PySem.ret v|_=>PySem.ret s2) _ _ h
 refine dm.bindJ (af.point (dm.bind (dm.onRaise (dm.mono k (λdn av q=>?_) λ_ _ q=>q))))
 rcases dn<;>exact dm.of (af.ret ⟨_,rfl,q⟩)
end
abbrev fa.fr(Θ:fa)(Z:Env):fa:= {Θ with fs:=Z.locals::Θ.fs}
theorem H8{f:a1}{st:cD}{vs:List L}{vs':List aG}{H:an}{ah:Ctx}{h:bq}{X:aG->bq->Prop}(a9:ue Θ.w.params f st)(aQ:vs.length=(fF st).args.length)(ok:bz Θ.fs (d+5) ah)(lW:fW Θ ρ H h)(hv:All2 (bg ρ) vs vs')
  (k:∀gU Z ai,bz (Z.locals::Θ.fs) (d+4) gU->gU.code=.func (aW st) Z->Z.frame=J Z.locals->Z.scope=dO st->gM h ai->(∀b∈own Z,h.objs.size<=b)->pg gU.below=ah.code.envs++pg ah.below->
   bD (Θ.fr Z) Z ρ (((fF st).args.map (·.arg)).zip vs) H ai->sK Θ.w Θ.O gU R X ai):dm Θ.w Θ.O ah (PySem.call (.ref f) vs') R X h:=by
 refine Ui a9.fd λo fd aR bA hb iS bj ll IF Az IG=>?_
 have B:=lW.base;refine dm.call λp=>sK.tree rfl (.of ?_)
 have hM:bz Θ.fs (d+4) (ah.enter (.call (.ref f) ⟨vs',[]⟩) ac p):=ok.call (.ref f) ⟨vs',[]⟩ p;obtain⟨A,cS,asE,asD,asF⟩:=hM.room;show af Θ.w Θ.O _ (callAny (.ref f) ⟨vs',[]⟩) _ h
 refine af.bv (λ_=>af.load (B.k _ _ aR)) (Uj (codeRec_of B.k Az) λc J9 acd apg aD IZ IK cJ=>?_)
 have pA:=a9.co;have AD:=a9.gen;rw [<-iS] at pA AD;simp only [bA,callFunction,pA,AD,hb,aD];refine af.any cS λs e1 e2 aP=>?_
 subst e1;refine b4 (m:=rG (.ref c) 1) (mi IZ IK cJ (bN (λ_=>cL) ?_))
 refine bN (λ_=>IG s vs' B.k (cT (hv.length ..) aQ) _ _ _ _) (G ll ?_)
 have j5:fd.scope.kind=.function:=G iS a9.kind;have aso:∀x∈((fF st).args.map (·.arg)).zip vs',x.1∈(fF st).args.map (·.arg):=λx aO=>(List.of_mem_zip aO).1
 refine b4 (ah7 j5 (λx aO=>?_) λZ bl aS X Y=>?_)
 ·refine G iS ?_;rcases a9.pk _ (aso x aO) with ai|ai
  ·exact .inl ai
  ·exact .inr ⟨ai,z4 _ _ _ (.inr (mem_of_lookup ai))⟩
 have ae8:=B.lim.keeps X.toInCall.keep;refine bN (λ_=>wpAny_enterFrame ae8 (by show A.depth<1000;lia)) ?_
 refine oY X.toInCall.same λai tk qH=>?_
 refine cL ⟨⟨rfl,?_⟩,by refine G qH ?_;exact e2,by refine G qH ?_;exact aP⟩
 have vA:bz (Z.locals::Θ.fs) (d+4) ((ah.enter (.call (.ref f) ⟨vs',[]⟩) ac p).goto (.func (aW st) Z)):=(ok.wider λb hb=>f8 _ hb).goFunc _ _ _ _ _ ⟨by refine G bl ?_;show fd.scope.kind≠_;refine G j5 ?_;simp,Z.locals,fK,G bl rfl⟩
 have AG:Z.scope.names=(dO st).names:=by refine G bl ?_;show fd.scope.names=_;(exact G iS rfl)
 have vd:Z.cells=rD (s.heap.objs.size+1) (dO st).names []:=by refine G bl ?_;show rD _ fd.scope.names []=_;(exact G iS rfl)
 have Dx:Z.locals=s.heap.objs.size:=G bl rfl;have ext:gM s.heap aS.heap:=⟨X.toInCall.keep,by have :=X.toInCall.ns.lt;rw [Dx] at this;exact jz this⟩
 have aeX:∀p∈Z.cells,Z.cells.lookup p.1=J p.2:=
  G vd (HK _ _ _ a9.nodup (λ_ z=>absurd z jl) (λ_ z=>absurd z jl))
 have nD:∀b∈own Z,s.heap.objs.size<=b/\aS.heap.objs.size>b:=λb hb=>by
  rcases fw.mp hb with rfl|hb
  ·exact⟨iB Dx.symm,X.toInCall.ns.lt⟩
  ·refine bU (hQ.mp hb) λp hp alh=>?_;obtain rfl:=alh
   have :=X.above p.1 p.2 hp;rw [Dx] at this;exact⟨jz this,(X.cell _ _ (aeX p hp)).lt⟩
 have gk:bD (Θ.fr Z) Z ρ (((fF st).args.map (·.arg)).zip vs) H aS.heap:=by
  have b9:=lW.ext ext;have mu:s.heap.objs.size<=Z.locals:=iB Dx.symm;refine⟨⟨b9.len,b9.old,b9.low,b9.sep,b9.obj,λb hb=>?_⟩,⟨by refine G bl ?_;exact j5,by refine G bl ?_;exact bj,by refine G bl ?_;exact IF,⟨_,X.toInCall.ns,λx v hk e=>ZZ hk hv a9.params e⟩,λx c aD=>⟨_,X.cell x c aD,λv hk e=>ZY hk hv a9.params e⟩,λx aO=>?_,X.apart,λp hp=>?_⟩,λb hb=>⟨λeH=>mF eH λi q e z=>?_,?_,(nD b hb).2⟩⟩
  ·rcases fw.mp hb with hb|hb
   ·subst hb;refine⟨?_,Y,λi q e=>?_⟩
    ·cases z:Θ.h₀.get? Z.locals with
     |none=>rfl
     |some o=>
      have hu:s.heap.objs.size>Z.locals:=gE (lW.old _ _ z);exact absurd hu (n9.mpr mu)
    ·have hu:=lW.lt e;exact⟨λz=>by rw [z] at mu;exact jn _ (eE hu.1 mu),λz=>by rw [z] at mu;exact jn _ (eE hu.2 mu)⟩
   ·exact b9.frm b hb
  ·have aQ:∀r7,Z.kindOf x=J r7->(x,r7)∈(dO st).names:=λr7 e=>mem_of_lookup (cT AG e)
   rcases aO with aO|aO
   ·exact G vd (z4 _ _ _ (.inr (aQ _ aO)))
   ·exact absurd rfl (a9.nofree _ (aQ _ aO))
  ·have :=X.above p.1 p.2 hp;exact λz=>by rw [z] at this;exact jn _ this
  ·have hu:=lW.lt e;have jC:=(nD b hb).1;rcases z with z|z<;>rw [z] at jC<;>lia
  ·cases z:Θ.h₀.get? b with
   |none=>rfl
   |some o=>
    have hu:s.heap.objs.size>b:=gE (lW.old _ _ z);have jC:=(nD b hb).1;lia
 refine k _ Z aS.heap vA rfl (by refine G bl ?_;rfl) (by refine G bl ?_;exact iS) ext (λb hb=>(nD b hb).1) ?_ gk
 show pg ((ah.code,p)::ah.below)=_
 (exact G (envsOf_cons ..) rfl)
theorem Pr{f:a1}{st:cD}{vs:List L}{H:an}{k:L->an->Prop}(a9:ue Θ.w.params f st)(hs:∀b,km {Θ with fs:=b::Θ.fs} C d (aW st))(aQ:vs.length=(fF st).args.length)
  (w:b1 False C (aW st) (dO st).names (((fF st).args.map (·.arg)).zip vs) H λdn _ H=>k (Ea dn) H):BS Θ (d+5) f vs H k:=by
 intro ah ρ h vs' ok lW hv;refine dm.toJ (H8 a9 aQ ok lW hv λgU Z ai vA aD Ds iS ext nD _ gk=>Jn aD (.of ?_))
 refine af.mono (hs Z.locals (k:=λdn _ H=>k (Ea dn) H) vA gk (G iS w)) λf' ak cV=>?_
 obtain⟨du,jK,cN,cX,cd,dn,r,ea⟩:=cV;have frm:d3 [] ρ h du ak:=by
  refine⟨cd.sub,λi p e hi=>?_,λb o e hb _=>cd.keep b o (ext.1 b o e) hb λz=>?_,cQ ext.2 cd.size⟩
  ·have :=cd.new i p e hi;have :=ext.2;lia
  ·have hu:h.objs.size>b:=gE e;have jC:=nD b z;lia
 have dG:fW Θ du cN ak:=⟨cX.rel.len,cX.rel.old,cX.rel.low,cX.rel.sep,cX.rel.obj,λb hb=>cX.rel.frm b (f8 _ hb)⟩
 induction dn using Mine.Internal.jw.casesOn with
 |next=>cases r;exact⟨du,cN,.none,dG,frm,rfl,ea⟩
 |brk=>cases r;exact⟨du,cN,.none,dG,frm,rfl,ea⟩
 |cont=>cases r;exact⟨du,cN,.none,dG,frm,rfl,ea⟩
 |ret v=>obtain⟨aJ,e,r⟩:=r;cases e;exact⟨du,cN,v,dG,frm,r,ea⟩
end
theorem ao1{t aK:Sem (Option (List Str))}{nm ab:List Str}{dv dy eT hX kK:Prop}{_:Decidable dv}{_:Decidable dy}{_:Decidable eT}{_:Decidable hX}{_:Decidable kK}(ai:¬dv)(ak:¬dy)(aZ:nm=ab\/eT)(gl:¬kK)
  (e:t=if dv then bK ac else if dy then bK ac else if eT then bK ac else if hX then bK ac else if kK then aK else bK (J nm)):t=bK ac\/t=bK (J ab):=by
 rw [a8 ai,a8 ak,a8 gl] at e;by_cases k3:eT
 ·rw [aY k3] at e;exact .inl e
 ·rw [a8 k3] at e;by_cases oI:hX
  ·rw [aY oI] at e;exact .inl e
  ·rw [a8 oI] at e;rcases aZ with h|h
   ·subst h;exact .inr e
   ·exact absurd h k3
theorem QY{ay:Type}{c:Prop}{_:Decidable c}{a:ay}:(if c then J a else ac)=J a\/(if c then J a else ac)=ac:=by
 by_cases h:c
 ·exact .inl (aY h)
 ·exact .inr (a8 h)
theorem adL{ay bF:Type}{f:ay->Option bF}{x y:ay}{a b:bF}{c:Bool}(ai:f x=J a\/f x=ac)(ak:f y=J b\/f y=ac):List.filterMap f [x,y]=[a,b]\/((List.filterMap f [x,y]).length !=2||c)=ae:=by
 rcases ai with ai|ai<;>rcases ak with ak|ak<;>simp [ai,ak]
theorem X8{ay:Type}{f:ay->Bool}{x y:ay}(ai:f x=aA)(ak:f y=aA):¬ [x,y].any f=ae:=by simp [ai,ak]
theorem ao2{a b:Str}{pa pb:Pos}{n1 n2:Nat}{p1 p2:Pos}{x y:aU}(hk:Z.scope.kind=.function)(aO:gA [x,y]=ae)(aD:(rF 8 x&&rF 8 y)=aA):
  wG [.Tuple [.Name a pa,.Name b pb] n1 p1] (.Tuple [x,y] n2 p2) Z=bK ac\/wG [.Tuple [.Name a pa,.Name b pb] n1 p1] (.Tuple [x,y] n2 p2) Z=bK (J [a,b]):=by
 have hb:Z.blockKind=.function:=by unfold Go;rw [hk];rfl
 have aO:=fm aO;refine ao1 ?_ ?_ ?_ ?_ rfl
 ·rw [hb];exact b8
 ·refine X8 ?_ ?_
  ·rcases x<;>first |rfl|exact b8 aO.1
  ·rcases y<;>first |rfl|exact b8 (fm aO.2).1
 ·exact adL QY QY
 ·show¬(rF 8 x&&(rF 8 y&&ae))=ae
  rw [Bool.and_true,aD];exact b8
theorem apm{ay:Type}{l:List ay}(h:l.length=2):∃u v,l=[u,v]:=by
 rcases l with - |⟨a,- |⟨b,- |⟨c,l⟩⟩⟩
 ·cases h
 ·cases h
 ·exact⟨a,b,rfl⟩
 ·cases h
set_option tactic.hygienic true in
theorem ec.pair{a b:Str}{pa pb:Pos}{n1 n2:Nat}{p1 p2 pos:Pos}{x y:aU}(bl:cE Θ C d (.Tuple [x,y] n2 p2))(aO:gA [x,y]=ae)(aD:(rF 8 x&&rF 8 y)=aA)(IC:(a==b)=aA):
  ec Θ C d (.Assign [.Tuple [.Name a pa,.Name b pb] n1 p1] (.Tuple [x,y] n2 p2) pos):=λ{ah Z ρ m H h k} ok gk w=>by
 have ce:iN Θ C d (.Tuple [.Name a pa,.Name b pb] n1 p1):=iN.tuple (λe bl=>by
  rcases fw.mp bl with rfl|bl
  ·exact iN.name
  ·rcases fw.mp bl with rfl|bl
   ·exact iN.name
   ·rcases bl) rfl
 rw [L4] at w;have dh:exec (.Assign [.Tuple [.Name a pa,.Name b pb] n1 p1] (.Tuple [x,y] n2 p2) pos) Z=(gw pos>>=λ_=>eval (.Tuple [x,y] n2 p2) Z>>=λv=>wG [.Tuple [.Name a pa,.Name b pb] n1 p1] (.Tuple [x,y] n2 p2) Z>>=λvL=>Gr Z v vL [PySem.assign (.Tuple [.Name a pa,.Name b pb] n1 p1) Z]):=rfl
 refine G dh (.stand (.bindV (bl ok gk w) λaJ v bG bI ai bL cP b9 bE=>?_))
 rcases ao2 (pa:=pa) (pb:=pb) (n1:=n1) (n2:=n2) (p1:=p1) (p2:=p2) gk.fr.kind aO aD with e|e
 ·refine G e ?_;show aa Θ ah Z bG (PySem.assign (.Tuple [.Name a pa,.Name b pb] n1 p1) Z aJ>>=λ_=>bK sZ) _ ai
  exact .bind (ce ok bL b9 bE) λ_ du m cN ak cX d6 ea=>.pure cX ⟨.next,rfl,ea⟩
 ·refine G e ?_;have e1:(bK (J [a,b])>>=λvL=>Gr Z aJ vL [PySem.assign (.Tuple [.Name a pa,.Name b pb] n1 p1) Z])=(PySem.rule "assign.swapped-stores">>=λ_=>CF aJ 2 ac>>=λitems=>uH [wD Z b,wD Z a] items.reverse>>=λ_=>bK sZ):=rfl
  refine G e1 (af.bv (λ_=>af.rule) ?_)
  rw [T5] at bE;split at bE
  ·rename_i j;split at bE
   ·rename_i l ek;split at bE
    ·rename_i aQ;refine oY (apm aQ) λu v alj=>?_;obtain rfl:=alj
     have a2:=Jz (d:=d) (Z:=Z) (m:=m) ok bL (show bg bG (.new j) aJ from b9) ek
     have e2:[u,v].length=2:=rfl;rw [e2] at a2;refine aa.bind a2 λitems du m cN ak cX d6 q=>?_
     refine dS q λaM a7 q3=>?_
     subst aM a7;refine kA q3.two λef ja iF jO nO=>?_
     subst iF;rw [L1] at bE;try dsimp only at bE
     rw [L0] at bE;simp only [L1,L0,T6] at bE;try dsimp only at bE
     split at bE
     ·rename_i ha;split at bE
      ·rename_i hb;have aP:uH [wD Z b,wD Z a] [ef,ja].reverse=(gO [ef] (wD Z b ja)>>=λ_=>gO [] (wD Z a ef)>>=λ_=>bK ()):=rfl
       refine G aP ?_;simp only [uv];refine aa.bind (Q1:=λ_ cb bV bb=>cb=du/\bV=fA m b v/\bb=cN) (.holding (vJ ok cX hb nO)) λ_ kf m cg aZ fx hN z=>?_
       refine dS z λgs fu f1=>?_
       subst gs fu f1;refine aa.bind (Q1:=λ_ cb bV bb=>cb=kf/\bV=fA (fA m b v) a u/\bb=cg) (.holding (vJ ok fx ha jO)) λ_ rc m eD cC ko xB z=>?_
       refine dS z λgs fu f1=>?_
       subst gs fu f1;have gX:a≠b:=by simpa using IC
       have pm:bD Θ Z rc (fA (fA m a u) b v) eD cC:=ko.congr λx=>by
        simp only [qP];by_cases aM:x=a
        ·have a7:¬x=b:=λz=>gX (aM.symm.trans z)
         (exact G (a8 a7) (G (aY aM) (G (aY aM) rfl)))
        ·by_cases a7:x=b
         ·(exact G (aY a7) (G (a8 aM) (G (aY a7) rfl)))
         ·(exact G (a8 a7) (G (a8 aM) (G (a8 aM) (G (a8 a7) rfl))))
       exact aa.pure pm ⟨.next,rfl,bE⟩
      ·exact bE.elim
     ·exact bE.elim
    ·exact bE.elim
   ·exact bE.elim
  ·exact bE.elim
noncomputable def hg(Z:Env)(l:List (Str×lI))(g8:List (Str×a1)):List (Str×a1):=l.foldl (λg8 p=>if p.2== .free then(p.1,(Z.cells.lookup p.1).getD 0)::g8 else g8) g8
theorem C1{Z:Env}{n:Str}{k:lI}{r:List (Str×lI)}{g8:List (Str×a1)}:hg Z ((n,k)::r) g8=hg Z r (if k== .free then(n,(Z.cells.lookup n).getD 0)::g8 else g8):=rfl
theorem PB{Z:Env}:∀(fZ:List (Str×lI)) (g8:List (Str×a1)),(∀p∈fZ,p.2=.free->(Z.cells.lookup p.1).isSome=ae)->
  (forIn fZ g8 λx (r:List (Str×a1))=>if(x.2==s1)=ae then(do let c <-cellOf Z x.1;bK (uf ((x.1,c)::r))) else bK (uf r):Sem (List (Str×a1)))=bK (hg Z fZ g8)
 | [],g8,_=>rfl
 |(n,k)::r,g8,h=>by
  refine G (F1 ..) ?_;have ih:=λg8=>PB r g8 λp hp=>h p (f8 _ hp)
  rw [C1];by_cases hk:(k==s1)=ae
  ·refine cm (sW.mp (h (n,k) fK (by simpa using hk))) λc aD=>?_
   simp only [hk,if_true];have :cellOf Z n=bK c:=by unfold cellOf;(exact G aD rfl)
   refine G this (G aD ?_);simp only [zk,Option.getD_some];exact ih _
  ·simp only [hk,if_false,zk,ng];exact ih _
theorem PA{Z:Env}{p:Str×a1}:∀(fZ:List (Str×lI)) (g8:List (Str×a1)),p∈hg Z fZ g8->p∈g8\/((p.1,s1)∈fZ/\p.2=(Z.cells.lookup p.1).getD 0)
 | [],g8,h=>.inl h
 |(n,k)::r,g8,h=>by
  rw [C1] at h;rcases PA r _ h with h|h
  ·split at h
   ·rename_i hk;rcases fw.mp h with rfl|h
    ·exact .inr ⟨by refine G (beq_iff_eq.mp hk) ?_;exact fK,rfl⟩
    ·exact .inl h
   ·exact .inl h
  ·exact .inr ⟨f8 _ h.1,h.2⟩
theorem Pz{Z:Env}{x:Str}:∀(fZ:List (Str×lI)) (g8:List (Str×a1)),((g8.lookup x).isSome=ae\/(x,s1)∈fZ)->((hg Z fZ g8).lookup x).isSome=ae
 | [],g8,h=>by
  rcases h with h|h
  ·exact h
  ·rcases h
 |(n,k)::r,g8,h=>by
  rw [C1];refine Pz r _ ?_;rcases h with h|h
  ·refine .inl ?_;split
   ·refine G sP ?_;split
    ·rfl
    ·exact h
   ·exact h
  ·rcases fw.mp h with h|h
   ·refine oN h λalk alm=>?_;obtain rfl:=alk;obtain rfl:=alm
    refine .inl ?_;refine G (aY (by rfl)) (G sP ?_);simp
   ·exact .inr h
theorem HS{Z:Env}:∀(fZ:List (Str×lI)) (g8:List (Str×a1)),(g8.map (·.1)).Nodup->(fZ.map (·.1)).Nodup->(∀p∈g8,p.1∉fZ.map (·.1))->((hg Z fZ g8).map (·.1)).Nodup
 | [],g8,h,_,_=>h
 |(n,k)::r,g8,h,hn,bA=>by
  rw [h9,n5] at hn;rw [C1];split
  ·refine HS r _ ?_ hn.2 λp hp=>?_
   ·refine G h9 (fB n5 ?_);refine⟨λz=>?_,h⟩
    refine bU (hQ.mp z) λp hp e=>?_
    exact bA p hp (by(rw [e]);exact fK)
   ·rcases fw.mp hp with rfl|hp
    ·exact hn.1
    ·exact λz=>bA p hp (f8 _ z)
  ·exact HS r _ h hn.2 λp hp z=>bA p hp (f8 _ z)
theorem DV{bF:Type}(f:Str->Bool)(x:Str):∀l:List (Str×bF),cy (l.filter λp=>f p.1) x=if f x then cy l x else ac
 | []=>by rcases f x<;>rfl
 |(y,v)::l=>by
  have ih:=DV f x l;refine G kE ?_;by_cases q:y=x
  ·subst q;by_cases aq:f y=ae
   ·simp only [aq,if_true];rw [pF,aY rfl,pF,aY rfl]
   ·simp only [aq,if_false,ng];refine G ih ?_;simp [aq]
  ·by_cases aq:f y=ae
   ·simp only [aq,if_true];rw [pF,pF];exact G (a8 q) (G (a8 q) ih)
   ·simp only [aq,if_false,ng];refine G ih ?_;rw [pF];(exact G (a8 q) rfl)
theorem DU{bF:Type}(y x:Str)(v:bF)(l:List (Str×bF)):cy ((y,v)::l) x=if y=x then J v else cy l x:=rfl
theorem AZ(ax:ds)(x:Str):∀fZ:ds,cy (gF ax fZ) x=match cy fZ x with |J .free=>if(cy ax x==J .cell)=ae then J .cell else J .free|r=>r
 | []=>rfl
 |(y,k)::l=>by
  have ih:=AZ ax x l;unfold gF at ih⊢;refine G h9 ?_;dsimp only;by_cases c:(k==s1&&cy ax y==J .cell)=ae
  ·refine G ((aY c) ..) (G (DU ..) (G (DU ..) ?_));by_cases q:y=x
   ·subst q;rw [he] at c;have hk:k=.free:=by simpa using c.1
    subst hk;simp only [if_true,c.2]
   ·exact G (a8 q) (G (a8 q) ih)
  ·refine G ((a8 c) ..) (G (DU ..) (G (DU ..) ?_));by_cases q:y=x
   ·subst q;simp only [if_true];rcases k<;>try rfl
    rw [he] at c;have :¬(cy ax y==J NJ)=ae:=λz=>c ⟨rfl,z⟩
    simp only [this,if_false,ng]
   ·exact G (a8 q) (G (a8 q) ih)
theorem Io{b:a1}(f:d3 X ρ h cb av)(lt:h.objs.size>b)(fh:¬gQ ρ b):¬gQ cb b:=λeH=>mF eH λi p cU z=>by
 by_cases aQ:ρ.length<=i
 ·have q:=f.new i p cU aQ;rcases z with z|z<;>rw [z] at lt<;>lia
 ·obtain⟨q,cJ⟩:∃q,ρ[i]? =J q:=⟨_,iy (wq aQ)⟩;have :=f.sub.get cJ;rw [cU] at this;obtain rfl:=ci this;exact fh ⟨i,p,cJ,z⟩
theorem bD.outer{mm:Loc}(a:bD Θ Z ρ m H h)(db:bD Θ df cb mm bb av)(f:d3 (own df) ρ h cb av)(aD:∀x c,Z.cells.lookup x=J c->c∈own df->df.cells.lookup x=J c/\df.kindOf x≠J .local /\cy mm x=cy m x)(aQ:Z.locals∉own df):bD Θ Z cb m bb av:=by
 refine⟨db.rel,⟨a.fr.kind,a.fr.glob,a.fr.blt,?_,λx c e=>?_,a.fr.has,a.fr.apart,a.fr.napart⟩,λb hb=>⟨Io f (a.out b hb).2.2 (a.out b hb).1,(a.out b hb).2.1,eE (a.out b hb).2.2 f.size⟩⟩
 ·refine bU a.fr.ns λnm aln b=>?_;obtain⟨o,aH,ii,aR,r⟩:=aln
  exact bU (f.keep _ _ aR (λz=>(a.out _ fK).1 (ty z)) aQ) λsl cU _=>⟨nm,⟨_,aH,ii,cU,r⟩,λy v e1 e2=>bU (b y v e1 e2) λaJ p q=>⟨aJ,p,q.sub f.sub⟩⟩
 ·by_cases bc:c∈own df
  ·exact dS (aD x c e bc) λai ak aZ=>bU (db.fr.cell x c ai) λkb hv r=>⟨kb,hv,λv _ hv=>r v ak (aZ▸hv)⟩
  ·refine bU (a.fr.cell x c e) λkb alo r=>?_;refine bU alo λo aM a7=>?_
   have hb:c∈own Z:=f8 _ (rt (f:=(·.2)) (mem_of_lookup e));exact bU (f.keep _ _ aM (λz=>(a.out _ hb).1 (ty z)) bc) λsl cU _=>⟨kb,⟨_,cU,a7⟩,λv hk e=>bU (r v hk e) λaJ p q=>⟨aJ,p,q.sub f.sub⟩⟩
theorem bD.stepsO{lo hi:Nat}(a:bD Θ Z ρ m H h)(s:qq Θ df ρ lo hi h av)(hb:∀b∈own Z,b<lo):bD Θ Z ρ m H av:=
 a.steps (lo:=lo) (hi:=hi) ⟨λb o z e=>s.1 b o (by
  rcases z with z|z|z|z|z
  ·exact .inl z
  ·exact .inr (.inl z)
  ·exact .inr (.inr (.inl z))
  ·exact .inl (hb b z)
  ·exact .inr (.inr (.inr (.inr z)))) e,s.2⟩
theorem d3.after{Y:List a1}{iu:cr}{bu:bq}(f:d3 Y iu bu ρ h)(aB:d3 X ρ h cb av)(f4:∀b∈X,b∈Y\/bu.objs.size<=b):d3 Y iu bu cb av:=by
 have nC:d3 (X++Y) ρ h cb av:=⟨aB.sub,aB.new,λb o e ai ak=>aB.keep b o e ai λz=>ak (B9 _ z),aB.size⟩
 have f':d3 (X++Y) iu bu ρ h:=⟨f.sub,f.new,λb o e ai ak=>f.keep b o e ai λz=>ak (Ca _ z),f.size⟩
 have t:=f'.trans nC;refine⟨t.sub,t.new,λb o e ai ak=>t.keep b o e ai λz=>?_,t.size⟩
 rcases md.mp z with z|z
 ·rcases f4 b z with z|z
  ·exact ak z
  ·exact jn _ (eE (gE e) z)
 ·exact ak z
theorem fW.adopt(x:fW Θ ρ H h){p:a1×a1}{o:bt}(n1:¬gQ ρ p.1)(n2:¬gQ ρ p.2)(dx:Θ.h₀.get? p.1=ac/\p.1∉Θ.fs)(en:Θ.h₀.get? p.2=ac/\p.2∉Θ.fs)(r:j9 Θ.w.params (ρ++[p]) p h o):fW Θ (ρ++[p]) (H++[o]) h:=by
 have sub:Sub ρ (ρ++[p]):=⟨[p],rfl⟩;have ps:∀i q,(ρ++[p])[i]? =J q->ρ[i]? =J q\/(i=ρ.length/\q=p):=by
  intro i q e;rcases Cj i ρ.length with aQ|aQ
  ·rw [sM aQ] at e;exact .inl e
  ·rw [sN aQ] at e;have :i - ρ.length=0:=by
    have :=(kF.mp e).1;simp at this;exact‹_›
   rw [this] at e;simp at e
   exact .inr ⟨OL aQ this,e.symm⟩
 refine⟨by simp [x.len],x.old,λi q e hi=>?_,λi j q iE e1 e2 vh=>?_,λi q o' e1 e2=>?_,λb hb=>?_⟩
 ·rcases ps i q e with e|⟨-,rfl⟩
  ·exact x.low i q e hi
  ·exact⟨dx.1,en.1⟩
 ·rcases ps i q e1 with ch|⟨a,rfl⟩<;>rcases ps j iE e2 with cd|⟨b,rfl⟩
  ·exact x.sep i j q iE ch cd vh
  ·exact⟨λz=>n1 ⟨i,q,ch,.inl z.symm⟩,λz=>n2 ⟨i,q,ch,.inl z.symm⟩,λz=>n1 ⟨i,q,ch,.inr z.symm⟩,λz=>n2 ⟨i,q,ch,.inr z.symm⟩⟩
  ·exact⟨λz=>n1 ⟨j,iE,cd,.inl z⟩,λz=>n1 ⟨j,iE,cd,.inr z⟩,λz=>n2 ⟨j,iE,cd,.inl z⟩,λz=>n2 ⟨j,iE,cd,.inr z⟩⟩
  ·lia
 ·rcases ps i q e1 with e1|⟨a,rfl⟩
  ·have aQ:=(kF.mp e1).1;rw [sM (cT x.len aQ)] at e2;exact(x.obj i q o' e1 e2).sub sub
  ·subst a;rw [x.len,sN (cW _)] at e2;simp at e2;subst e2;exact r
 ·refine dS (x.frm b hb) λa c f=>⟨a,c,λi q e=>?_⟩
  rcases ps i q e with e|⟨-,rfl⟩
  ·exact f i q e
  ·exact⟨λz=>dx.2 (z▸hb),λz=>en.2 (z▸hb)⟩
theorem bD.adopt(a:bD Θ Z ρ m H h){D:a1}{o:bt}(n1:¬gQ ρ D)(dx:Θ.h₀.get? D=ac/\D∉Θ.fs)(xm:D∉own Z)(r:j9 Θ.w.params (ρ++[(D,D)]) (D,D) h o):bD Θ Z (ρ++[(D,D)]) m (H++[o]) h:=by
 refine⟨a.rel.adopt n1 n1 dx dx r,a.fr.move ⟨_,rfl⟩ λ_ _ _ e=>.of e,λb hb=>⟨λeH=>mF eH λi p e z=>?_,(a.out b hb).2⟩⟩
 rcases Cj i ρ.length with aQ|aQ
 ·rw [sM aQ] at e;exact(a.out b hb).1 ⟨i,p,e,z⟩
 ·rw [sN aQ] at e;have :i - ρ.length=0:=by
   have :=(kF.mp e).1;simp at this;exact‹_›
  rw [this] at e;simp at e
  subst e;rcases z with z|z<;>exact xm ((show b=D from z)▸hb)
theorem d3.adopt{iu:cr}{bu:bq}(f:d3 X iu bu ρ h){D:a1}(w4:bu.objs.size<=D):d3 X iu bu (ρ++[(D,D)]) h:=by
 refine⟨f.sub.trans ⟨_,rfl⟩,λi p e hi=>?_,f.keep,f.size⟩
 rcases Cj i ρ.length with aQ|aQ
 ·rw [sM aQ] at e;exact f.new i p e hi
 ·rw [sN aQ] at e;have :i - ρ.length=0:=by
   have :=(kF.mp e).1;simp at this;exact‹_›
  rw [this] at e;simp at e
  subst e;exact⟨w4,w4⟩
theorem zQ{D:a1}(fh:¬gQ ρ D)(xm:D∉own Z)(dx:Θ.h₀.get? D=ac/\D∉Θ.fs)(gc:zz D h av):qq Θ Z ρ D (D+1) h av:=by
 refine⟨λb o z e=>gc.extBut b o ?_ e,iB gc.1.symm⟩
 rintro rfl
 rcases z with z|z|z|z|z|z
 ·exact jn _ z
 ·exact jn _ (eE (Gb _) z)
 ·exact fh z
 ·exact xm z
 ·rw [dx.1] at z;exact b8 z
 ·exact dx.2 z
theorem QV{Z:Env}:∀eU:List aU,(forIn eU aA λc (r:Bool)=>if r=ae then(do let ok <-isTrue c Z (eval c Z);bK (uf ok)) else bK (uf r):Sem Bool)=bK aA
 | []=>rfl
 |c::r=>by refine G (F1 ..) ?_;simp only [ng,if_false,zk];exact QV r
theorem QU:∀ {eU:List aU},(∀e∈eU,ST Θ C d e)->∀ {ah Z ρ m H h} {k:Bool->an->Prop},bz Θ.fs (d+4) ah->bD Θ Z ρ m H h->jb False C eU Z.scope.names m H k->
  aa Θ ah Z ρ (forIn eU ae λc (r:Bool)=>if r=ae then(do let ok <-isTrue c Z (eval c Z);bK (uf ok)) else bK (uf r):Sem Bool) (λb _ bV bb=>bV=m/\k b bb) h
 | []=> @λ_ ah Z ρ m H h k ok a w=>by
  exact aa.pure a ⟨rfl,arn.mp w⟩
 |e::aH=> @λbl ah Z ρ m H h k ok a w=>by
  rw [arm] at w;refine G (F1 ..) ?_;simp only [if_true,uv,zk];refine .bind (bl e fK ok a w) λb bG dF bI ai bL cP cV=>?_
  refine cz cV λaM bE=>?_
  subst aM;induction b using t5 with
  |true=>exact QU (λe h=>bl e (f8 _ h)) ok bL bE
  |false=>
   exact G (QV ..) (.pure bL ⟨rfl,bE⟩)
theorem ab3(dW dq iter:aU)(eU:List aU)(m8:jA)(pos:Pos)(it acc:aG)(Z:Env):
 compTurn (.ListComp dW [⟨dq,iter,eU,0⟩] m8 pos) 0 it acc Z=(gw iter.pos>>=λ_=>pyNext it>>=λr=>match r with
  |ac=>bK (.done .next)
  |J v=>NQ dq it v>>=λ_=>PySem.assign dq Z v>>=λ_=>
   (forIn eU ae λc (r:Bool)=>if r=ae then(do let ok <-isTrue c Z (eval c Z);bK (uf ok)) else bK (uf r):Sem Bool)>>=λok=>
   if ok=ae then(eval dW Z>>=λx=>call (.builtin "list.append") [acc,x]>>=λ_=>bK ())>>=λ_=>again (.compLoop (.ListComp dW [⟨dq,iter,eU,0⟩] m8 pos) 0 it acc Z)
   else again (.compLoop (.ListComp dW [⟨dq,iter,eU,0⟩] m8 pos) 0 it acc Z)):=by rfl
section
structure yT(Θ:fa)(Z df:Env)(lo hi:Nat)(D:a1)(bu:bq)(dq:aU):Prop where
 hD:hi<=D
 no':D∉own df
 no:D∉own Z
 old:Θ.h₀.get? D=ac/\D∉Θ.fs
 lo0:bu.objs.size<=lo
 lohi:lo<=hi
 ownLo:∀b∈own Z,b<lo
 ownHi:∀b∈own df,b∈own Z\/hi<=b
 loc:Z.locals∉own df
 cells:∀x c,Z.cells.lookup x=J c->c∈own df->df.cells.lookup x=J c/\df.kindOf x≠J .local
 tgt:∀jI m H bV,eu df.scope.names dq jI m H=J bV->∀x,df.kindOf x≠J .local ->cy bV x=cy m x
structure nh(Θ:fa)(Z df:Env)(m:Loc)(D:a1)(iu:cr)(bu:bq)(ρ:cr)(mm:Loc)(H:an)(h:bq)(acc:List L)(vs:List aG):Prop where
 a':bD Θ df ρ mm H h
 a:bD Θ Z ρ m H h
 ag:∀x c,Z.cells.lookup x=J c->c∈own df->cy mm x=cy m x
 f:d3 (own Z) iu bu ρ h
 nf:¬gQ ρ D
 pl:h.PlainList D vs.toArray
 all:All2 (bg ρ) acc vs
variable {D:a1}{iu:cr}{bu:bq}{dq:aU}{mm mm':Loc}{acc:List L}
theorem nh.step(K:yT Θ Z df lo hi D bu dq)(x:nh Θ Z df m D iu bu ρ mm H h acc vs)(hu:bD Θ df cb mm' bb av)(f:d3 (own df) ρ h cb av)(OQ:∀x c,Z.cells.lookup x=J c->c∈own df->cy mm' x=cy mm x):nh Θ Z df m D iu bu cb mm' bb av acc vs:=by
 refine cm x.pl λk e=>⟨hu,x.a.outer hu f (λy c e bc=>⟨(K.cells y c e bc).1,(K.cells y c e bc).2,(OQ y c e bc).trans (x.ag y c e bc)⟩) K.loc,λy c e bc=>(OQ y c e bc).trans (x.ag y c e bc),x.f.after f λb hb=>?_,Qh f e x.nf,⟨k,(f.keep _ _ e (λz=>x.nf (ty z)) K.no').exact (by simp)⟩,x.all.mono λ_ _ r=>r.sub f.sub⟩
 rcases K.ownHi b hb with z|z
 ·exact .inl z
 ·exact .inr (cQ K.lo0 (cQ K.lohi z))
theorem nh.steps(K:yT Θ Z df lo hi D bu dq)(x:nh Θ Z df m D iu bu ρ mm H h acc vs)(s:qq Θ df ρ lo hi h av):nh Θ Z df m D iu bu ρ mm H av acc vs:=by
 exact cm x.pl λk e=>⟨x.a'.steps s,x.a.stepsO s K.ownLo,x.ag,x.f.steps s K.lo0,x.nf,⟨k,s.1 _ _ (.inr (.inl K.hD)) e⟩,x.all⟩
theorem nh.push(K:yT Θ Z df lo hi D bu dq)(x:nh Θ Z df m D iu bu ρ mm H h acc vs){v:L}{aJ:aG}(r:bg ρ v aJ)(gc:zz D h av)(pl:av.PlainList D (vs.toArray.push aJ)):nh Θ Z df m D iu bu ρ mm H av (acc++[v]) (vs++[aJ]):=by
 have cP:qq Θ df ρ D (D+1) h av:=zQ x.nf K.no' K.old gc;have d6:qq Θ Z ρ D (D+1) h av:=zQ x.nf K.no K.old gc;have e:vs.toArray.push aJ=(vs++[aJ]).toArray:=by simp
 rw [e] at pl;exact⟨x.a'.steps cP,x.a.steps d6,x.ag,x.f.steps d6 (cQ K.lo0 (cQ K.lohi K.hD)),x.nf,pl,x.all.append (.cons r .nil)⟩
set_option tactic.hygienic true in
theorem ab1{dW iter:aU}{eU:List aU}{sc:jA}{pos:Pos}{it:aG}{c0:lH}{p0:Pos}{s:kJ}{am:Nat->cr->bq->Prop}{U:Nat->aG->cr->bq->Prop}(K:yT Θ Z df lo hi D bu dq)(X:wj Θ d df s it lo hi am U)(bl:cE Θ C d dW)
   (tI:∀e∈eU,ST Θ C d e) (ok:bz Θ.fs (d+4) ah) {q:List L->an->Prop}:∀(n k:Nat) {ρ mm H h acc vs},nh Θ Z df m D iu bu ρ mm H h acc vs->am k ρ h->acc.length+n<=1000->
   jX False df.scope.names dq (λm H q=>jb False C eU df.scope.names m H q) (λm H q=>bO False C dW df.scope.names m H q) s n k mm H acc q->
   kh Θ.w Θ.O ((ah.enter c0 ac p0).goto (.compLoop (.ListComp dW [⟨dq,iter,eU,0⟩] sc pos) 0 it (.ref D) df)) (λf ai=>∃bG ahT bI OO aqx,nh Θ Z df m D iu bu bG ahT bI ai OO aqx/\q OO bI) h:=by
 intro n;induction n with
 |zero=>
  exact @λk ρ mm H h acc vs x IS mZ w=>by
   exact MD w
 |succ n ih=>
  exact @λk ρ mm H h acc vs x IS mZ w=>by
   rw [ab0] at w;have hM:bz Θ.fs (d+4) ((ah.enter c0 ac p0).goto (.compLoop (.ListComp dW [⟨dq,iter,eU,0⟩] sc pos) 0 it (.ref D) df)):=ok.zero _ _ _ rfl rfl rfl;refine kh.tree rfl (af.onRaise (G (ab3 ..) (af.bv (λ_=>af.standAt) (af.bind ?_))))
   split at w
   ·exact w.elim
   ·rename_i e;refine af.mono (X.step hM x.a' IS e) λr ai cV=>?_
    refine cz cV λst aM=>?_
    subst aM;exact af.pure ⟨ρ,mm,H,acc,vs,x.steps K st,w⟩
   ·rename_i jI e;refine af.mono (X.step hM x.a' IS e) λr ai cV=>?_
    refine Mn cV λst aJ aM vf sg=>?_
    subst aM;have az:=x.steps K st;set_option smartUnfolding false in refine jM w λbV fc w=>?_
    refine af.bind (af.mono (X.letgo hM az.a' vf e sg fc) λ_ ak cV=>?_)
    refine dS cV λEj vg K0=>?_
    have aT:=az.steps K Ej;refine af.bind (af.mono (Tm hM aT.a' K0 fc) λ_ aZ cV=>?_)
    obtain⟨kf,A2,cg,fx,ee,aM,a7⟩:=cV;subst aM a7;have ca:=aT.step K fx ee λy c ig bc=>K.tgt _ _ _ _ fc y (K.cells y c ig bc).2
    have vl:=X.stable aT.a' vg ee (λb hb=>.inl hb)
    refine af.bind (af.mono (QU tI hM fx w) λb cC cV=>?_)
    obtain⟨rc,A3,eD,ko,jE,aM,pS⟩:=cV;subst aM;have c7:=ca.step K ko jE λ_ _ _ _=>rfl
    have AM:=X.stable fx vl jE (λb hb=>.inl hb)
    induction b using t5 with
    |false=>
     refine af.again ⟨rfl,ih (k+1) c7 AM (jz ‹_›) pS⟩
    |true=>
     refine af.bind (af.bind (af.mono (bl hM ko pS) λaJ gl cV=>?_))
     obtain⟨pZ,ahC,eQ,pm,jF,aM,v,qT,LU⟩:=cV;subst aM;have eG:=c7.step K pm jF λ_ _ _ _=>rfl
     have afF:=X.stable ko AM jF (λb hb=>.inl hb)
     obtain⟨A,cS,a6,-,-⟩:=hM.room;refine af.bind (af.mono (Q:=λ_ gH=>nh Θ Z df m D iu bu pZ ahC eQ gH (acc++[v]) (vs++[aJ])/\am (k+1) pZ gH) (af.any cS λs e1 e2 aP=>?_) λ_ gH eH=>cz eH λh4 afG=>?_)
     ·subst e1;refine wpAny_list_append_plain eG.pl (λgH pl gc=>⟨⟨eG.push K qT gc pl,X.stable pm afF (X:=[D]) ⟨.refl _,λi p e hi=>absurd e (by refine G (mP hi) ?_;simp),λb o e _ hb=>.of (gc.extBut b o (λz=>hb (G z fK)) e),iB gc.1.symm⟩ λb hb=>?_⟩,e2,aP⟩) ?_
      ·rcases fw.mp hb with rfl|hb
       ·exact .inr K.hD
       ·rcases hb
      ·refine G k9 (G iA (cT x.all.length ?_));lia
     ·exact af.pure (af.again ⟨rfl,ih (k+1) h4 afG (by refine G iz ?_;show acc.length+1+n<=1000;lia) LU⟩)
end
variable {dq:aU}
section
variable {dW iter:aU}{eU:List aU}{pos:Pos}
theorem DW{bF:Type}{x:Str}{v:bF}:∀ {l:List (Str×bF)},(l.map (·.1)).Nodup->(x,v)∈l->l.lookup x=J v:=by
 intro l;induction l with
 |nil=>exact λ_ h=>absurd h jl
 |cons p l ih=>
  intro hn bc;obtain⟨y,u⟩:=p;rw [h9,n5] at hn;refine G sP ?_;rcases fw.mp bc with h|h
  ·refine oN h λKm Kt=>?_;obtain rfl:=Km;obtain rfl:=Kt;simp
  ·have :(x==y)=aA:=by
    simp only [beq_eq_false_iff_ne,ne_eq];rintro rfl
    exact hn.1 (rt (f:=(·.1)) h)
   exact G this (ih hn.2 h)
theorem af.eqp{bp:gv}{t:Sem ay}{a:ay}{Q:ay->bq->Prop}(e:t=bK a)(q:Q a h):af w bp ah t Q h:=G e (af.pure q)
theorem af.standIf{bp:gv}{c:Prop}[Decidable c]{k:PUnit->Sem ay}{Q:ay->bq->Prop}(x:af w bp ah (k ()) Q h):af w bp ah (if c then(PySem.standAt pos>>=k) else k ()) Q h:=by
 split
 ·exact af.bv (λ_=>af.standAt) x
 ·exact x
theorem ab2{bp:gv}{e:aU}{it acc:aG}{p0:Pos}{R:nq->bq->Prop}{sc:jA}(Ah:e=.ListComp dW [⟨dq,iter,eU,0⟩] sc pos)
  (afj:af w bp (ah.enter (.compStart e 0 it acc df) ac p0) (pyIter it) (λDG av=>DG=it/\av=h) h) (x:kh w bp ((ah.enter (.compStart e 0 it acc df) ac p0).goto (.compLoop e 0 it acc df)) R h):kh w bp (ah.enter (.compStart e 0 it acc df) ac p0) R h:=by
 subst Ah;refine kh.tree rfl (af.onRaise (af.bv (λ_=>af.ask) (af.ite (λ_=>?_) λ_=>?_)))
 ·first
   |exact af.bv (λ_=>af.pure) (af.pure ⟨rfl,x⟩)
   |exact af.pure ⟨rfl,x⟩
 ·refine af.bv (λ_=>af.rule) (af.bind (af.standAt (af.bind (af.mono afj λDG av cV=>?_))))
  refine cz cV λaM a7=>?_
  subst aM a7;exact af.again ⟨rfl,x⟩
theorem Rx{bp:gv}{cenv:Env}{abK:List (Str×lI)->List aG}{vs:List (Str×lI)}{nm:Str->Option aG}{a9:List a1}(ok:bz a9 n ah)(hk:cenv.scope.kind=.function)(hv:∀x∈vs,x.2=.local ->cenv.kindOf x.1=J .local)(hn:h.Ns cenv.locals nm):
  af w bp ah (comprehension.letGo cenv abK vs) (λ_ av=>zz cenv.locals h av) h:=by
 obtain⟨A,cS,-,-⟩:=ok.room;refine af.any cS λs e1 e2 aP=>?_
 subst e1;exact wpAny_comp_letGo hk vs s nm hv hn λav bV _ gc=>⟨gc,e2,aP⟩
theorem anS{sc:jA}(hk:Z.scope.kind=.function):(relabel sc Z).names=gF Z.scope.names sc.names:=by
 refine List.map_congr_left λp _=>?_
 obtain⟨nm,k⟩:=p;dsimp only;refine G hk (G (pG ..) ?_);have :(VG==VG)=ae:=rfl;refine G (this ..) (G (Bool.and_true ..) ?_);rfl
theorem ahs{ax fZ:ds}{jI:n4}{m bV:Loc}{H:an}(ce:PF fZ dq=ae)(e:eu (gF ax fZ) dq jI m H=J bV):∀x,cy (gF ax fZ) x≠J .local ->cy bV x=cy m x:=by
 have JF:∀x,(cy fZ x==J NameKind.local)=ae->cy (gF ax fZ) x=J .local :=λx aO=>by
  refine G (AZ ..) ?_;have :cy fZ x=J .local :=by simpa using aO
  (exact G (this ..) rfl)
 intro x aO;rcases G3 e with⟨y,p,v,rfl,-,-,rfl⟩|⟨n,p,q,m4,sb,w,rfl,-,-,rfl⟩
 ·(refine G (qP ..) ?_;rw [a8])
  rintro rfl
  exact aO (JF _ ce)
 ·have ce:((cy fZ n.1==J NameKind.local)&&(cy fZ n.2==J NameKind.local))=ae:=ce;rw [he] at ce;rw [qP,a8,qP,a8]
  ·rintro rfl;exact aO (JF _ ce.1)
  ·rintro rfl;exact aO (JF _ ce.2)
noncomputable def apV(Θ:fa)(ah:Ctx)(Z:Env)(Q:aG->cr->Loc->an->Prop)(m:Loc)(bI:an)(ai:bq)(bG:cr)(aJ:aG):Option (aG->Sem Unit)->Prop
 |ac=>Q aJ bG m bI
 |J u=>aa Θ ah Z bG (u aJ) (λ_ du jK cN=>Q .none du jK cN) ai
theorem To{sc:jA}{adR:Pos}{use:Option (aG->Sem Unit)}{k:L->an->Prop}{Q:aG->cr->Loc->an->Prop}(da:mj Θ C d iter)(bl:cE Θ C d dW)(tI:∀e∈eU,ST Θ C d e)
  (qE:∀Z x,CC iter Z x=bK x) (ok:bz Θ.fs (d+4) ah) (a:bD Θ Z ρ m H h) (w:bO False C (.ListComp dW [⟨dq,iter,eU,0⟩] sc pos) Z.scope.names m H k)
  (bT:∀ {bG bI ai v aJ},bD Θ Z bG m bI ai->bg bG v aJ->k v bI->apV Θ ah Z Q m bI ai bG aJ use):
  aa Θ ah Z ρ (NN (.ListComp dW [⟨dq,iter,eU,0⟩] sc pos) sc Z adR (newList []) aA (eval iter Z) use) Q h:=by
 rw [L3] at w;by_cases pA:z9 Z.scope.names sc dq=ae
 case neg=>rw [a8 pA] at w;exact w.elim
 rw [aY pA] at w;unfold z9 at pA;simp only [he,decide_eq_true_eq,i3,t8,beq_iff_eq] at pA;refine cz pA λKv Aw=>?_;refine cz Kv λKs AH=>?_;obtain⟨Dr,afp⟩:=Ks
 have Dt:∀x,(x,s1)∈sc.names->cy Z.scope.names x=J .cell:=λx aO=>by
  rcases Aw _ aO with(z|z)|z
  ·cases z
  ·cases z
  ·exact z.2
 have ll:closureFor sc Z=bK (hg Z sc.names []):=by
  unfold closureFor;refine G (bind_pure ..) (PB _ _ λp hp aq=>?_)
  obtain⟨x,r7⟩:=p;dsimp only at aq;subst aq;exact a.fr.has x (.inl (by show Z.scope.names.lookup x=_;exact cT (pG ..) (Dt x hp)))
 have IH:∀x c,(hg Z sc.names []).lookup x=J c->Z.cells.lookup x=J c/\(x,s1)∈sc.names:=λx c e=>by
  rcases PA _ _ (mem_of_lookup e) with z|z
  ·rcases z
  ·dsimp only at z;refine cm (sW.mp (a.fr.has x (.inl (by show Z.scope.names.lookup x=_;exact cT (pG ..) (Dt x z.1))))) λc' jH=>?_
   rw [jH] at z;exact⟨G jH (G z.2 rfl),z.1⟩
 have IW:((hg Z sc.names []).map (·.1)).Nodup:=HS _ _ (by simp) AH (λ_ z=>absurd z jl)
 have tF:∀x∈hg Z sc.names [],Z.cells.lookup x.1=J x.2/\(x.1,s1)∈sc.names:=λx aO=>IH x.1 x.2 (DW IW aO)
 have Qx:∀x,(x,s1)∈sc.names->cy (gF Z.scope.names sc.names) x=J .cell:=λx aO=>by
  refine G (AZ ..) (G (pG x sc.names ..) (G (DW AH aO) (G (Dt x aO ..) ?_)));rfl
 unfold NN;refine G ll (da ok a w λs x bG bI ai bL ch Le bE=>af.bv (λ_=>af.standAt) (af.bind (af.eqp (qE _ x) ?_)))
 refine af.bind (af.holding ?_);refine af.ifn t7 (af.mono (Rs ok bL Le ch.size) λit ak cV=>?_)
 refine Uf cV λex am U X I9=>?_
 refine af.standIf ?_;have cX:=bL.ext ex;obtain⟨A,cS,a6,bA,-⟩:=ok.room;refine af.bind (af.mono (Q:=λacc aZ=>acc=.ref ak.objs.size/\aZ=ak.push {cls:=.type "list",data:=.seq #[]}) (af.any cS λst e1 e2 aP=>?_) λacc aZ ⟨aM,a7⟩=>?_)
 ·subst e1;exact wpAny_newList ⟨⟨rfl,rfl⟩,e2,aP⟩ (by show 0<=_;exact hf _)
 subst aM;have gX:af Θ.w Θ.O ah (NS sc Z.globals (hg Z sc.names []) [] Z.qual ac .none (J Z)) (λcenv cC=>cenv=newEnv sc aZ.objs.size Z.globals (hg Z sc.names []) Z.qual ac .none (J Z) s6/\cC.Ns aZ.objs.size (λ_=>ac)/\zz aZ.objs.size (aZ.push {cls:=.type "dict",data:=.dict #[]}) cC) aZ:=by
  refine af.any cS λst e1 e2 aP=>?_
  subst e1;exact wpAny_newFunctionEnv (binds:=[]) (λy hy=>by
   rcases Aw _ hy with(z|z)|z
   ·refine G z ?_;simp
   ·refine G z ?_;simp
   ·refine G z.1 ?_;simp) (λ_ z=>absurd z jl) (λav hn hs=>⟨⟨rfl,hn,hs⟩,e2,aP⟩) Dr
 refine af.bv (λ_=>af.pure) (af.bind (af.mono gX λcenv cC cV=>?_))
 refine dS cV λq3 QM I1=>?_
 subst q3;have I7:aZ.objs.size=ak.objs.size+1:=by(exact G (a7 ..) (G (ib ..) rfl))
 have E2:gM aZ cC:=⟨λb o e=>I1.extBut b o (mf (gE e)) (k6 _ e),G I1.1 (G (ib ..) (k4 aZ.objs.size 1))⟩
 have pU:gM ak aZ:=G a7 (.push _ _);have mD:=pU.trans E2;have CP:=cX.ext mD;have afw:ai.objs.size<=ak.objs.size:=ex.2;have afv:h.objs.size<=ai.objs.size:=ch.size;have asL:cC.objs.size=aZ.objs.size+1:=by(exact G (I1.1 ..) (G (ib ..) rfl))
 refine dS (cX.fresh (cW _)) λadT Ip Qj=>dS (cX.fresh (b:=aZ.objs.size) (zw (id (rf I7)))) λab4 HV HW=>?_
 have ae4:=a.fr.kind;have AG:=anS (sc:=sc) ae4;have vd:∀b∈(hg Z sc.names []).map (·.2),b∈own Z:=λb hb=>by
  refine bU (hQ.mp hb) λp hp Kw=>?_;obtain rfl:=Kw
  exact f8 _ (rt (f:=(·.2)) (mem_of_lookup (tF p hp).1))
 have AF:∀x,(mS sc (hg Z sc.names []) aZ.objs.size Z).kindOf x=cy (gF Z.scope.names sc.names) x:=λx=>by
  show(relabel sc Z).names.lookup x=_
  (exact G (AG ..) (G (pG ..) rfl))
 have OX:bD Θ (mS sc (hg Z sc.names []) aZ.objs.size Z) bG (oy (gF Z.scope.names sc.names) m) bI cC:=by
  refine⟨CP.rel,⟨Dr,a.fr.glob,a.fr.blt,⟨_,QM,λy v hk e=>?_⟩,λy c e=>?_,λy hy=>?_,?_,λp hp=>?_⟩,λb hb=>?_⟩
  ·rw [AF] at hk;unfold oy at e;rw [DV (λn=>cy (gF Z.scope.names sc.names) n==J .cell),hk] at e
   exact br e
  ·refine cz (IH y c e) λdv dy=>bU (CP.fr.cell y c dv) λkb hv r=>⟨kb,hv,λv hk e=>?_⟩
   unfold oy at e;rw [DV (λn=>cy (gF Z.scope.names sc.names) n==J .cell)] at e
   split at e
   ·exact r v (by show Z.scope.names.lookup y≠_;refine cT (pG ..) (G (Dt y dy ..) ?_);simp) e
   ·exact br e
  ·rw [AF] at hy;refine Pz _ _ (.inr ?_);rw [AZ] at hy;cases q:cy sc.names y with
   |none=>rw [q] at hy;rcases hy with hy|hy<;>exact br hy
   |some r7=>
    rw [q] at hy;have bc:(y,r7)∈sc.names:=mem_of_lookup (cT (pG ..) q);rcases Aw _ bc with(z|z)|z
    ·dsimp only at z;subst z;rcases hy with hy|hy<;>cases hy
    ·dsimp only at z;subst z;rcases hy with hy|hy<;>cases hy
    ·have :=z.1;dsimp only at this;subst this;exact bc
  ·refine List.pairwise_iff_forall_sublist.mpr λ{p q} hs=>?_
   intro z;have hp:p∈hg Z sc.names []:=hs.subset fK;have cJ:q∈hg Z sc.names []:=hs.subset (f8 _ fK);have e1:=(tF p hp).1;have e2:=(tF q cJ).1;rw [z] at e1;have aP:=Gz a.fr.apart (mem_of_lookup e1) (mem_of_lookup e2);have hj:=hs.map (·.1);have :=(Ve hj IW);simp at this
   exact this aP
  ·have :=(cX.out _ (vd _ (rt (f:=(·.2)) hp))).2.2;intro z;rw [z] at this;exact jn _ (eE this (by show ak.objs.size<=aZ.objs.size;exact zw (id (rf I7))))
  ·rcases fw.mp hb with rfl|hb
   ·exact⟨ab4,HW.1,by show cC.objs.size>aZ.objs.size;exact Heap.Ns.lt QM⟩
   ·exact CP.out b (vd b hb)
 have K:yT Θ Z (mS sc (hg Z sc.names []) aZ.objs.size Z) h.objs.size ak.objs.size ak.objs.size h dq:=by
  refine⟨cW _,λz=>?_,Ip,Qj,cW _,cQ afv afw,λb hb=>(a.out b hb).2.2,λb hb=>?_,λz=>?_,λy c e bc=>?_,λjI ahB kB bV fc y hy=>?_⟩
  ·rcases fw.mp z with z|z
   ·have :ak.objs.size=aZ.objs.size:=z;lia
   ·exact Ip (vd _ z)
  ·rcases fw.mp hb with rfl|hb
   ·exact .inr (by show ak.objs.size<=aZ.objs.size;exact zw (id (rf I7)))
   ·exact .inl (vd b hb)
  ·rcases fw.mp z with z|z
   ·have d1:=(cX.out _ (fK:Z.locals∈own Z)).2.2;have z:Z.locals=aZ.objs.size:=z;rw [z] at d1;lia
   ·exact bU (hQ.mp z) λp hp e=>a.fr.napart _ (mem_of_lookup (tF p hp).1) e
  ·rcases fw.mp bc with z|z
   ·have d1:=(cX.out _ (f8 _ (rt (f:=(·.2)) (mem_of_lookup e)):c∈own Z)).2.2;have z:c=aZ.objs.size:=z;rw [z] at d1;lia
   ·refine bU (hQ.mp z) λp hp e1=>?_
    obtain⟨eO,c'⟩:=p;dsimp only at e1;subst e1;have :=Gz a.fr.apart (mem_of_lookup e) (mem_of_lookup (tF _ hp).1);dsimp only at this;subst this;exact⟨DW IW hp,by refine G (AF ..) (G (Qx _ (tF _ hp).2 ..) ?_);simp⟩
  ·rw [AF] at hy;have acU:eu (gF Z.scope.names sc.names) dq jI ahB kB=J bV:=cT AG fc;exact ahs afp acU y hy
 have abL:nh Θ Z (mS sc (hg Z sc.names []) aZ.objs.size Z) m ak.objs.size ρ h bG (oy (gF Z.scope.names sc.names) m) bI cC [] []:=by
  refine⟨OX,CP,λy c e bc=>?_,ch.trans ((d3.ext ex).trans (.ext mD)),adT,⟨0,E2.1 _ _ (G a7 (hU _ rfl))⟩,.nil⟩
  have k2:=(K.cells y c e bc).1;unfold oy;refine G (DV (λn=>cy (gF Z.scope.names sc.names) n==J .cell) ..) (G (Qx y (IH y c k2).2 ..) ?_)
  rfl
 have AM:am 0 bG cC:=(X Z λb hb=>.inl hb).stable cX I9 (X:=[]) (.ext mD) (λ_ z=>absurd z jl)
 have zM:=X (mS sc (hg Z sc.names []) aZ.objs.size Z) K.ownHi;have aqA:jX False (mS sc (hg Z sc.names []) aZ.objs.size Z).scope.names dq (λm H q=>jb False C eU (mS sc (hg Z sc.names []) aZ.objs.size Z).scope.names m H q) (λm H q=>bO False C dW (mS sc (hg Z sc.names []) aZ.objs.size Z).scope.names m H q) s f6 0 (oy (gF Z.scope.names sc.names) m) bI [] (λvs H=>k (.new H.length) (H++[.list vs])):=by
  have :(mS sc (hg Z sc.names []) aZ.objs.size Z).scope.names=gF Z.scope.names sc.names:=AG;exact G this bE
 have QI:∀ {vs:List (Str×lI)},(∀x∈vs,x∈sc.names)->∀x∈vs,x.2=.local ->(mS sc (hg Z sc.names []) aZ.objs.size Z).kindOf x.1=J .local :=λhv x aO aQ=>by
  obtain⟨y,r7⟩:=x;dsimp only at aQ;subst aQ;(exact G (AF ..) (G (AZ ..) (G (pG y sc.names) (G (DW AH (hv _ aO)) rfl))))
 have I5:∀x∈(sc.names.filter λx=>(x.2== .local ||x.2== .cell)&&x.1 !=(".0":Str)),x∈sc.names:=λx aO=>(List.mem_filter.mp aO).1
 refine af.holding (af.bind (af.attempt (af.holding (af.run λp=>?_))))
 refine ab2 rfl (zM.self (ok.zero (.compStart (.ListComp dW [⟨dq,iter,eU,0⟩] sc pos) 0 it (.ref ak.objs.size) (mS sc (hg Z sc.names []) aZ.objs.size Z)) (.compStart (.ListComp dW [⟨dq,iter,eU,0⟩] sc pos) 0 it (.ref ak.objs.size) (mS sc (hg Z sc.names []) aZ.objs.size Z)) p rfl rfl rfl) OX AM) ?_;refine kh.mono (ab1 (c0:=.compStart (.ListComp dW [⟨dq,iter,eU,0⟩] sc pos) 0 it (.ref ak.objs.size) (mS sc (hg Z sc.names []) aZ.objs.size Z)) (p0:=p) K zM bl tI ok f6 0 abL AM (by show 0+1000<=1000;lia) aqA) λdn gl cV=>?_
 refine asj cV λpZ asW eQ XV aqy eG LU=>?_
 refine cm eG.pl λJM qB=>?_
 have aoW:Sub pZ (pZ++[(ak.objs.size,ak.objs.size)]):=⟨_,rfl⟩;have pm:=eG.a.adopt (o:=.list XV) eG.nf Qj Ip ⟨rfl,aqy,JM,qB,eG.all.mono λ_ _ r=>r.sub aoW⟩
 have jF:=eG.f.adopt (D:=ak.objs.size) (by lia)
 have qT:bg (pZ++[(ak.objs.size,ak.objs.size)]) (.new eQ.length) (.ref ak.objs.size):=.last (p:=(ak.objs.size,ak.objs.size)) eG.a.len;have ED:=bT pm qT LU;have Ib:¬gQ (pZ++[(ak.objs.size,ak.objs.size)]) aZ.objs.size:=λeH=>mF eH λi q e z=>by
  rcases Cj i pZ.length with aQ|aQ
  ·rw [sM aQ] at e;exact(eG.a'.out aZ.objs.size fK).1 ⟨i,q,e,z⟩
  ·rw [sN aQ] at e;have :i - pZ.length=0:=by
    have :=(kF.mp e).1;simp at this;lia
   rw [this] at e;simp at e
   subst e;rcases z with z|z
   ·have z:aZ.objs.size=ak.objs.size:=z;lia
   ·have z:aZ.objs.size=ak.objs.size:=z;lia
 refine bU eG.a'.fr.ns λRQ Kx _=>?_;obtain⟨aiR,P8,P5,Iy,S8⟩:=Kx
 induction use using oa with
 |none=>
  refine af.bind (af.holding (af.mono (Rx (cenv:=mS sc (hg Z sc.names []) aZ.objs.size Z) (nm:=RQ) ok Dr (QI λx aO=>I5 x (MV.mp aO)) ⟨aiR,P8,P5,Iy,S8⟩) λ_ gH gc=>?_))
  have st:=zQ (Θ:=Θ) (Z:=Z) Ib HV HW gc;exact af.pure ⟨_,m,_,pm.steps st,jF.steps st (by lia),ED⟩
 |some u=>
  refine af.bv (λ_=>af.rule) (af.bind (af.holding (af.mono ED λ_ gH cV=>?_)))
  obtain⟨asp,ahD,cx,Yh,mq,Be⟩:=cV;refine bU (mq.keep _ _ Iy (λz=>Ib (ty z)) HV) λata At _=>?_
  have ado:¬gQ asp aZ.objs.size:=Io mq (gE Iy) Ib;refine af.bind (af.mono (Rx (cenv:=mS sc (hg Z sc.names []) aZ.objs.size Z) (nm:=RQ) ok Dr (QI λx aO=>?_) ⟨_,P8,P5,At,S8⟩) λ_ qD gc=>?_)
  ·rcases md.mp aO with aO|aO
   ·exact I5 x (MV.mp (List.mem_of_mem_drop aO))
   ·exact I5 x (MV.mp (List.mem_of_mem_take aO))
  ·have st:=zQ (Θ:=Θ) (Z:=Z) ado HV HW gc;exact af.pure ⟨_,ahD,_,Yh.steps st,(jF.trans mq).steps st (by lia),Be⟩
theorem cE.comp{sc:jA}(da:mj Θ C d iter)(bl:cE Θ C d dW)(tI:∀e∈eU,ST Θ C d e)(qE:∀Z x,CC iter Z x=bK x):cE Θ C d (.ListComp dW [⟨dq,iter,eU,0⟩] sc pos):=λ{ah Z ρ m H h k} ok a w=>by
 exact G (eval_ListComp ..) (To (use:=ac) (k:=k) (Q:=mT m k) da bl tI qE ok a w λbL r bE=>⟨rfl,_,r,bE⟩)
theorem ec.assignComp{x:Str}{ls:Pos}{sc:jA}{pt:Pos}(da:mj Θ C d iter)(bl:cE Θ C d dW)(tI:∀e∈eU,ST Θ C d e)(qE:∀Z x,CC iter Z x=bK x):
  ec Θ C d (.Assign [.Name x ls] (.ListComp dW [⟨dq,iter,eU,0⟩] sc pt) pos):=λ{ah Z ρ m H h k} ok a w=>by
 rw [L4] at w;have dh:exec (.Assign [.Name x ls] (.ListComp dW [⟨dq,iter,eU,0⟩] sc pt) pos) Z=(gw pos>>=λ_=>s8 (.ListComp dW [⟨dq,iter,eU,0⟩] sc pt) (J (.Name x ls)) pos.line Z>>=λb=>if b then(evalThenUse (.ListComp dW [⟨dq,iter,eU,0⟩] sc pt) Z λv=>assignAll v [PySem.assign (.Name x ls) Z])>>=λ_=>bK .next else
  eval (.ListComp dW [⟨dq,iter,eU,0⟩] sc pt) Z>>=λv=>wG [.Name x ls] (.ListComp dW [⟨dq,iter,eU,0⟩] sc pt) Z>>=λvL=>Gr Z v vL [PySem.assign (.Name x ls) Z]):=rfl
 have e1:∃b,s8 (.ListComp dW [⟨dq,iter,eU,0⟩] sc pt) (J (.Name x ls)) pos.line Z=bK b:=⟨_,rfl⟩;refine cm e1 λb e1=>G dh (G e1 ?_)
 have ce:iN Θ C d (.Name x ls):=iN.name;refine .stand (af.bv (λ_=>af.pure) ?_)
 induction b using t5 with
 |true=>
  refine af.ifp rfl ?_;show aa Θ ah Z ρ ((NN (.ListComp dW [⟨dq,iter,eU,0⟩] sc pt) sc Z (firstIterPos [⟨dq,iter,eU,0⟩] pt) (newList []) aA (eval iter Z) (J λv=>assignAll v [PySem.assign (.Name x ls) Z])>>=λ_=>bK ())>>=λ_=>bK sZ) _ h
  refine G (uv ..) (aa.bind (To (Q:=λ_ cb bV bb=>k .next bV bb) da bl tI qE ok a w λbL r bE=>?_) λ_ bG m bI ai bL cP aM=>af.bv (λ_=>af.pure) (aa.pure bL ⟨.next,rfl,aM⟩))
  exact ce ok bL r bE
 |false=>
  refine af.ifn t7 (aa.bindV (cE.comp da bl tI qE ok a w) λaJ v bG bI ai bL cP b9 bE=>?_)
  show aa Θ ah Z bG (PySem.assign (.Name x ls) Z aJ>>=λ_=>bK sZ) _ ai
  exact aa.bind (ce ok bL b9 bE) λ_ du m cN ak cX d6 ea=>aa.pure cX ⟨.next,rfl,ea⟩
end
variable {pos:Pos}
section
variable {k1 k2:Nat}{p1 p2:Pos}{gK oW:aU}{az aT:Str}
theorem acu:dictDisplay []=newDict:=by rfl
theorem cE.dict0{pos}:cE Θ C d (.Dict [] [] pos):=λ{ah Z ρ m H h k} ok a w=>by
 rw [T9,Ua] at w;have dh:eval (.Dict [] [] pos) Z=(do gw pos;dictDisplay []):=rfl
 refine G dh (G acu ?_);refine .stand (aa.any ok λA s a6 bA bT e1 e2 aP=>?_)
 subst e1;refine qp ⟨?_,e2,aP⟩;refine d4.added a (.push _ _) (o:=.dict []) (p:=(s.heap.objs.size,s.heap.objs.size)) (cW _) (cW _) ⟨rfl,[],0,hU _ rfl,.nil,Cb,RU a.rel.base (cW _)⟩ ⟨rfl,_,.last a.len,w⟩
theorem asn{Z:Env}:
 (evalEachOpt [J (.Constant (.str az) k1 p1),J (.Constant (.str aT) k2 p2)] Z).zip ((qm [gK,oW] Z).map λv=>do let x <-v;gw pos;bK x)
  =[(eval (.Constant (.str az) k1 p1) Z,(do let x <-eval gK Z;gw pos;bK x:Sem aG)),(eval (.Constant (.str aT) k2 p2) Z,(do let x <-eval oW Z;gw pos;bK x:Sem aG))].map λp=>(J p.1,p.2):=rfl
theorem Tr{x:Str}{k:Nat}{p:Pos}(ok:bz Θ.fs (d+4) ah)(a:bD Θ Z ρ m H h):aa Θ ah Z ρ (eval (.Constant (.str x) k p) Z) (dC m (.str x) H) h:=Tp a rfl
theorem aje{k:L->L->an->Prop}(ai:cE Θ C d gK)(ak:cE Θ C d oW)(ok:bz Θ.fs (d+4) ah)(a:bD Θ Z ρ m H h)
  (w:bO False C gK Z.scope.names m H λu H=>bO False C oW Z.scope.names m H λv H=>k u v H):
  aa Θ ah Z ρ (evalPairs [(eval (.Constant (.str az) k1 p1) Z,(do let x <-eval gK Z;gw pos;bK x:Sem aG)),(eval (.Constant (.str aT) k2 p2) Z,(do let x <-eval oW Z;gw pos;bK x:Sem aG))])
   (λvs cb bV bb=>bV=m/\∃u v ef aJ lY pP,bg cb u ef/\bg cb v aJ/\vs=[(.str az lY,ef),(.str aT pP,aJ)]/\k u v bb) h:=by
 refine .bindR (Tr ok a) λcA bG Dn hu cP b9=>?_
 refine cm b9 λlY alp=>?_;obtain rfl:=alp
 refine .bindV (.holding (.bindV (ai ok hu w) λef u du cN vb jC d6 jO ea=>.stand (.pure (Q:=λapu cb bV bb=>bV=m/\∃u,bg cb u apu/\bO False C oW Z.scope.names m bb λv H=>k u v H) jC ⟨rfl,u,jO,ea⟩))) λef u du cN vb jC d6 jO ea=>.bindV (m:=m) (R:=λcb (p:L×aG×Tok) vs=>bg cb p.1 p.2.1/\vs=[(.str aT p.2.2,p.2.1)]) (k:=λp bb=>k u p.1 bb) (.holding ?_) λvs p kf cg aZ kn hN r kt=>?_
 ·refine .bindR (Tr ok jC) λcA atd d1 fy gs b9=>?_
  refine cm b9 λpP alq=>?_;obtain rfl:=alq
  exact .bindV (.holding (.bindV (ak ok fy ea) λaJ v asq dZ g2 fz fu f0 js=>.stand (.pure (Q:=λapW cb bV bb=>bV=m/\∃v,bg cb v apW/\k u v bb) fz ⟨rfl,v,f0,js⟩))) λaJ v asq dZ g2 fz fu f0 js=>af.bind (af.holding (af.pure (aa.pure fz ⟨rfl,(v,aJ,pP),⟨f0,rfl⟩,js⟩)))
 ·refine cz r λf0 alr=>?_;obtain rfl:=alr
  exact aa.pure kn ⟨rfl,u,p.1,ef,p.2.1,lY,p.2.2,jO.sub hN,f0,rfl,kt⟩
theorem cE.dict2(ai:cE Θ C d gK)(ak:cE Θ C d oW):cE Θ C d (.Dict [J (.Constant (.str az) k1 p1),J (.Constant (.str aT) k2 p2)] [gK,oW] pos):=λ{ah Z ρ m H h k} ok a w=>by
 have ja:bO False C gK Z.scope.names m H λu H=>bO False C oW Z.scope.names m H λv H=>if az=aT then False else k (.new H.length) (H++[.dict [(.str az,u),(.str aT,v)]]):=by
  rw [T9] at w;exact w
 clear w;have dh:eval (.Dict [J (.Constant (.str az) k1 p1),J (.Constant (.str aT) k2 p2)] [gK,oW] pos) Z=(do
  gw pos
  dictDisplay ((evalEachOpt [J (.Constant (.str az) k1 p1),J (.Constant (.str aT) k2 p2)] Z).zip ((qm [gK,oW] Z).map λv=>do let x <-v;gw pos;bK x))):=rfl
 refine G dh (G asn (G (dictDisplay_pairs _ (by simp) (by simp)) ?_))
 refine .stand ?_;obtain⟨A,cS,a6,bA,bT⟩:=ok.room;have w4:h.objs.size∉own Z:=λz=>jn _ (a.out _ z).2.2
 have RM:¬gQ ρ h.objs.size:=λeH=>mF eH λi p e z=>by
  have :=a.rel.lt e;rcases z with z|z
  ·exact jn _ (eE this.1 (iB z))
  ·exact jn _ (eE this.2 (iB z))
 have J8:=(a.fresh (cW _)).2.2;have hu:=a.ext (.push h {cls:=.type "dict",data:=.dict #[]});have d1:(h.push {cls:=.type "dict",data:=.dict #[]}).get? h.objs.size=J (qi [] 0):=hU _ rfl;have agE:(h.push {cls:=.type "dict",data:=.dict #[]}).objs.size>h.objs.size:=G (ib ..) (Gb _);have Te:=RU a.rel.base (cW h.objs.size);refine af.bind (af.bind (af.alloc (af.bind (af.holding ?_))));refine af.ifp (by simp) (af.bind (af.mono (aje ai ak ok hu ja) λvs ak cV=>?_))
 obtain⟨du,jK,cN,jC,cd,aM,u,v,ef,aJ,lY,pP,jO,f0,e,kt⟩:=cV;subst aM e;split at kt
 ·exact kt.elim
 ·rename_i gX;have n2:¬gQ du h.objs.size:=Io cd agE RM;have g2:=(cd.keep _ _ d1 (λz=>RM (ty z)) w4).exact (by simp [qi])
  have lu:j9 Θ.w.params du (h.objs.size,h.objs.size) ak (.dict []):=⟨rfl,[],0,g2,.nil,Cb,Te⟩;refine tX (u1 lu) λ_ _ d5 AB anI=>?_
  rcases anI;refine af.holding (af.bind (af.any cS λs gs fu f1=>?_))
  subst gs;have aD:Carries (lq Θ.w) [(Value.str az lY,ef),(Value.str aT pP,aJ)] [(L.str az,ef),(L.str aT,aJ)]:=⟨qL (ρ:=du) (k:=L.str az) rfl ⟨lY,rfl⟩,rfl,qL (ρ:=du) (k:=L.str aT) rfl ⟨pP,rfl⟩,rfl,trivial⟩;refine wpAny_storeAll (knd:=lq Θ.w) _ _ [] s _ aD AB (by simp [k9]) λaZ bc gc=>⟨?_,fu,f1⟩
  have hJ:merged [] [(L.str az,ef),(L.str aT,aJ)]=[(L.str az,ef),(L.str aT,aJ)]:=by
   have :¬L.str az=L.str aT:=λz=>gX (by injection z)
   simp [merged,stored,this]
  rw [hJ] at bc;have st:=zQ (Z:=Z) n2 w4 J8 gc;have kn:=jC.steps st;have ee:=(((d3.ext (X:=own Z) (ρ:=ρ) (.push h {cls:=.type "dict",data:=.dict #[]})).trans cd).steps st (cW _)).adopt (cW _);have KX:j9 Θ.w.params (du++[(h.objs.size,h.objs.size)]) (h.objs.size,h.objs.size) aZ (.dict [(.str az,u),(.str aT,v)]):=
   H0 bc (.cons ⟨rfl,rfl,jO.sub ⟨_,rfl⟩⟩ (.cons ⟨rfl,rfl,f0.sub ⟨_,rfl⟩⟩ .nil)) Te
  have lf:=kn.adopt n2 J8 w4 KX;exact af.pure (af.pure (af.pure ⟨_,_,_,lf,ee,rfl,_,bg.last jC.len,kt⟩))
end
section
variable {t:aU}
def JQ(e:aU):Bool:=iP e ae (kCall:=λf a k _=>m5 f|| !(a.isEmpty&&k.isEmpty))
noncomputable def D3(e:aU):Bool:= !(e.ctorIdx==7)
noncomputable def xn(e:aU):Bool:= !(kG 8 e.ctorIdx||(kG 9 e.ctorIdx||kG 10 e.ctorIdx))
noncomputable def r6(e:aU):Bool:=e.ctorIdx==25
noncomputable def RS(e:aU):Bool:= !(kG 25 e.ctorIdx||kG 24 e.ctorIdx)
def oV(e:aU):List aU:=iP e [] (kTuple:=λl _ _=>l)
def Tx(t e:aU):Bool:=if r6 t&&r6 e then !((oV t).length==2||(oV t).length==3)||(oV t).any m5 else RS t||RS e
noncomputable def afV(o:UnaryOp):Bool:=UnaryOp.casesOn o aA ae aA aA
noncomputable def Tz:Const->Bool
 | .str _=>ae
 |_=>aA
def El(o:Option aU):Bool:=oa o aA λe=>iP e aA (kConstant:=λc _ _=>Tz c)
mutual
noncomputable def fM:Nat->aU->Bool
 |0,_=>aA
 |n+1,e=>iP e aA
  (kConstant:=λ_ _ _=>ae)
  (kName:=λx _=> !(x==("__debug__":Str)))
  (kBinOp:=λl _ r _=>fM n l&&fM n r)
  (kBoolOp:=λ_ vs _=>vs.all (fM n))
  (kIfExp:=λt a b _=>tt n t&&(fM n a&&fM n b))
  (kCompare:=λl dX rs _=>fM n l&&(rs.all (fM n)&& !lastMarks dX rs))
  (kAttribute:=λo a _=>fM n o&&(rQ.contains a&&JQ o))
  (kSubscript:=λo i _=>fM n o&&CX n i)
  (kList:=λaH _=>z5 n aH)
  (kTuple:=λaH _ _=>z5 n aH)
  (kDict:=λff vs _=>Pw n ff vs)
  (kListComp:=λdW aI _ _=>fM n dW&&HN n aI)
  (kCall:=λf dg ff pos=>ff.isEmpty&&(z5 n dg&&(eg (dg.length<30)&&(if A7 f then fM n f else HO n f pos))))
noncomputable def HO:Nat->aU->Pos->Bool
 |0,_,_=>aA
 |n+1,e,pos=>iP e aA (kAttribute:=λo _ uP=>fM n o&&(JQ o&&(uP.endLine==pos.line)))
noncomputable def Pw:Nat->List (Option aU)->List aU->Bool
 |0,_,_=>aA
 |n+1,ff,vs=>match ff with
  | []=>vs.isEmpty
  |a::ff=>match ff with
   | []=>aA
   |b::ff=>match vs with
    | []=>aA
    |u::vs=>match vs with
     | []=>aA
     |v::vs=>ff.isEmpty&&(vs.isEmpty&&(El a&&(El b&&(fM n u&&fM n v))))
noncomputable def HN:Nat->List Gn->Bool
 |0,_=>aA
 |n+1,aI=>match aI with
  | []=>aA
  |aB::aI=>aI.isEmpty&&(aB.is_async==0&&(HP n aB.iter&&(aB.ifs.all (tt n)&&D3 aB.iter)))
noncomputable def CX:Nat->aU->Bool
 |0,_=>aA
 |n+1,e=>if A8 e then fM n e else CY n e
noncomputable def CY:Nat->aU->Bool
 |0,_=>aA
 |n+1,e=>iP e aA (kSlice:=λa b c _=>c.isNone&&(wU n a&&wU n b))
noncomputable def z5:Nat->List aU->Bool
 |0,_=>aA
 |n+1,aH=>gA aH&&aH.all (fM n)
noncomputable def wU:Nat->Option aU->Bool
 |0,_=>aA
 |n+1,e=>match e with
  |ac=>ae
  |J e=>fM n e
noncomputable def tt:Nat->aU->Bool
 |0,_=>aA
 |n+1,e=>if xs e then fM n e else C0 n e
noncomputable def C0:Nat->aU->Bool
 |0,_=>aA
 |n+1,e=>iP e aA
  (kUnaryOp:=λbM x _=>afV bM&&tt n x)
  (kBoolOp:=λ_ vs _=>vs.all (tt n))
  (kCompare:=λl dX rs _=>fM n l&&(rs.all (fM n)&& !lastMarks dX rs))
noncomputable def HP:Nat->aU->Bool
 |0,_=>aA
 |n+1,e=>if A5 e then CZ n e else fM n e
noncomputable def CZ:Nat->aU->Bool
 |0,_=>aA
 |n+1,e=>iP e aA (kCall:=λf aH ff _=>ff.isEmpty&&(!m5 f&&(fM n f&&z5 n aH)))
end
def wT(n:Nat)(e:aU):Bool:=iP e aA (kName:=λ_ _=>ae) (kAttribute:=λo a _=>fM n o&&rQ.contains a) (kSubscript:=λo i _=>fM n o&&CX n i)
def Py(n:Nat)(e:aU):Bool:=if r6 e then(oV e).all (wT n)&&gA (oV e) else wT n e
def RN(e:aU):Str:=iP e "" (kName:=λx _=>x)
noncomputable def Ll(e:aU):Bool:=r6 e&&match oV e with
 | []=>aA
 |a::r=>match r with
  | []=>aA
  |b::r=>r.isEmpty&&(!m5 a&&(!m5 b&& !(RN a==RN b)))
noncomputable def Lm(e:aU):Bool:=r6 e&&match oV e with
 | []=>aA
 |x::r=>match r with
  | []=>aA
  |y::r=>r.isEmpty&&(gA [x,y]&& !(rF 8 x&&rF 8 y))
def HM(n:Nat)(e:aU):Bool:=iP e aA (kListComp:=λdW aI _ _=>fM n dW&&HN n aI)
def Pu(n:Nat)(t e:aU):Bool:=if Ll t&&Lm e then fM n e else if !m5 t&& !xn e then HM n e else fM n e&&(Py n t&&((xn e||m5 t)&&Tx t e))
def Pv(n:Nat)(e:aU):Bool:=iP e aA (kName:=λ_ _=>ae) (kAttribute:=λo a _=>fM n o&&rQ.contains a)
def Px(n:Nat)(e:aU):Bool:=iP e aA (kSubscript:=λo i _=>fM n o&&fM n i)
mutual
noncomputable def HQ:Nat->cD->Bool
 |0,_=>aA
 |n+1,s=>oS s aA
  (kExpr:=λe _=>fM n e&&xn e)
  (kPass:=λ_=>ae)
  (kBreak:=λ_=>ae)
  (kRaise:=λ_ _ _=>ae)
  (kReturn:=λe _=>wU n e)
  (kAssign:=λh1 e _=>match h1 with
   | []=>aA
   |t::h1=>h1.isEmpty&&Pu n t e)
  (kAugAssign:=λt _ e _=>Pv n t&&fM n e)
  (kDelete:=λh1 _=>match h1 with
   | []=>aA
   |t::h1=>h1.isEmpty&&Px n t)
  (kIf:=λt a b _=>tt n t&&(ts n a&&ts n b))
  (kWhile:=λt a l _=>l.isEmpty&&(tt n t&&ts n a))
  (kFor:=λ_ it a l _=>l.isEmpty&&(HP n it&&(ts n a&&D3 it)))
  (kTry:=λa _ l f _=>l.isEmpty&&(f.isEmpty&&ts n a))
noncomputable def ts:Nat->List cD->Bool
 |0,_=>aA
 |n+1,ss=>ss.all (HQ n)
end
set_option tactic.hygienic true in
theorem TD{o:aU}{a:Str}(h:JQ o=ae)(Z:Env)(g0:Sem aG):Cw o a Z g0=g0:=by
 revert h
 rcases o<;>first |exact λ_=>(rfl:_=g0)|skip
 rename_i f dg ff p;rcases dg with _|⟨x,l⟩
 ·rcases ff with _|⟨y,k⟩
  ·rcases f<;>first |exact λ_=>(rfl:_=g0)|exact λh=>b8 h
  ·rcases f<;>exact λ_=>(rfl:_=g0)
 ·rcases f<;>exact λ_=>(rfl:_=g0)
theorem K8(h:D3 e=ae)(Z:Env)(x:aG):CC e Z x=bK x:=by
 revert h
 rcases e<;>first |exact λ_=>(rfl:_=bK x)|exact λh=>b8 h
theorem tj{ay:Type}{p:ay->Bool}{l:List ay}(h:l.all p=ae):∀e∈l,p e=ae:=i3.mp h
theorem kl.of{aH:List aU}(hn:gA aH=ae):(∀e∈aH,cE Θ C d e)->kl Θ C d aH:=by
 induction aH with
 |nil=>intro _;exact @kl.nil _ _ _
 |cons e aH ih=>
  intro h;have lm:gA aH=ae:=by unfold gA at hn⊢;rw [wk,he] at hn;exact hn.2
  exact @kl.cons _ _ _ _ _ (h e fK) (ih lm λcU av=>h cU (f8 _ av)) (Lf hn)
theorem km.of{ss:List cD}:(∀s∈ss,ec Θ C d s)->km Θ C d ss:=by
 induction ss with
 |nil=>intro _;exact @km.nil _ _ _
 |cons s ss ih=>intro h;exact @km.cons _ _ _ _ _ (h s fK) (ih λcU av=>h cU (f8 _ av))
theorem aov{a b c:Option aU}{p:Pos}(h:CX n (.Slice a b c p)=ae):c=ac:=by
 induction n using n7 with
 |zero=>exact b8 h
 |succ n=>induction n using n7 with
  |zero=>exact b8 h
  |succ n=>
   have h:(c.isNone&&(wU n a&&wU n b))=ae:=h;rw [he] at h;exact Gg.mp h.1
structure VK(Θ:fa)(C:mL)(d n:Nat):Prop where
 e:∀e,fM n e=ae->cE Θ C d e
 es:∀e,z5 n e=ae->gA e=ae/\kl Θ C d e
 o:∀e,wU n e=ae->rL Θ C d e
 t:∀e,tt n e=ae->ST Θ C d e
 r:∀e,HP n e=ae->mj Θ C d e
 i:∀e,CX n e=ae->oo Θ C d e
 i2:∀e,CY n e=ae->oo Θ C d e
 t2:∀e,C0 n e=ae->ST Θ C d e
 r2:∀e,CZ n e=ae->mj Θ C d e
 m:∀f pos,HO n f pos=ae->∀aH,kl Θ C d aH->gA aH=ae->aH.length<30->cE Θ C d (.Call f aH [] pos)
 dd:∀ff vs pos,Pw n ff vs=ae->cE Θ C d (.Dict ff vs pos)
 g:∀aI,HN n aI=ae->∃dq iter eU,aI=[⟨dq,iter,eU,0⟩]/\mj Θ C d iter/\(∀e∈eU,ST Θ C d e)/\D3 iter=ae
theorem cO{ay:Type}{l:List ay}(h:l.isEmpty=ae):l=[]:=List.isEmpty_iff.mp h
theorem aoT{c:Const}(h:Tz c=ae):∃x,c=.str x:=by
 rcases c<;>first |exact b8 h|exact⟨_,rfl⟩
set_option tactic.hygienic true in
theorem TB{e:Option aU}:El e=ae->∃x k p,e=J (.Constant (.str x) k p):=by
 rcases e with _|e
 ·exact λh=>b8 h
 ·refine @mW (λe=>El (J e)=ae->∃x k p,J e=J (.Constant (.str x) k p)) ?_ ?_ ?_ ?_ ?_ ?_ ?_ ?_ ?_ ?_ ?_ ?_ ?_ ?_ ?_ ?_ e<;>first |(intros;rename_i h;exact b8 h)|skip
  ·intro c k p h;obtain⟨x,rfl⟩:=aoT h;exact⟨_,_,_,rfl⟩
  ·exact λ_ q h=>b8 (q.symm.trans h)
theorem DF:(!m5 e)=ae->∃x p,e=.Name x p:=by
 rcases e<;>first |exact λh=>b8 h|exact λ_=>⟨_,_,rfl⟩
set_option tactic.hygienic true in
theorem tU(dD:n0 Θ d C)(n:Nat):VK Θ C d n:=by
 induction n with
 |zero=>exact⟨λ_ h=>b8 h,λ_ h=>b8 h,λ_ h=>b8 h,λ_ h=>b8 h,λ_ h=>b8 h,λ_ h=>b8 h,λ_ h=>b8 h,λ_ h=>b8 h,λ_ h=>b8 h,λ_ _ h=>b8 h,λ_ _ _ h=>b8 h,λ_ h=>b8 h⟩
 |succ n am=>
  refine⟨λe=>?_,λaH h=>?_,λe=>?_,λe h=>?_,λe h=>?_,λe h=>?_,λe=>?_,λe=>?_,λe=>?_,λf pos h aH hs hn aQ=>?_,λff vs pos h=>?_,λaI h=>?_⟩
  ·refine @mW (λe=>fM (n+1) e=ae->cE Θ C d e) ?_ ?_ ?_ ?_ ?_ ?_ ?_ ?_ ?_ ?_ ?_ ?_ ?_ ?_ ?_ ?_ e<;>first |(intros;rename_i h;exact b8 h)|skip
   ·exact λ_ _ _ h=>cE.bool λe bl=>am.e _ (tj h e bl)
   ·exact λ_ _ _ _ h=>cE.bin (am.e _ (eZ h)) (am.e _ (eK h))
   ·exact λ_ _ _ _ h=>cE.ifexp (am.t _ (eZ h)) (am.e _ (eZ (eK h))) (am.e _ (eK (eK h)))
   ·exact λ_ _ _ h=>am.dd _ _ _ h
   ·intro _ _ _ _ h;obtain⟨t,i,f,rfl,da,aq,hs⟩:=am.g _ (eK h);exact cE.comp da (am.e _ (eZ h)) aq (K8 hs)
   ·exact λ_ _ _ _ h=>cE.compare (am.e _ (eZ h)) (λe bl=>am.e _ (tj (eZ (eK h)) e bl)) (xo (eK (eK h)))
   ·intro f dg ff pos h;obtain⟨ai,ak⟩:=fm h;obtain rfl:=cO ai;obtain⟨aZ,cC⟩:=fm ak;obtain⟨gl,gH⟩:=fm cC;refine tq (A7 f) (λq=>?_) λq=>?_
    ·exact cE.call dD (am.e _ ((aY q).symm.trans gH)) (am.es _ aZ).2 (am.es _ aZ).1 (of_decide_eq_true gl) q
    ·exact am.m _ _ ((a8 (ne_true_of_eq_false q)).symm.trans gH) _ (am.es _ aZ).2 (am.es _ aZ).1 (of_decide_eq_true gl)
   ·exact λ_ _ _ _=>cE.const
   ·exact λ_ _ _ h=>cE.attr (am.e _ (eZ h)) (eZ (eK h)) (TD (eK (eK h)))
   ·exact λ_ _ _ h=>cE.subscript (am.e _ (eZ h)) (am.i _ (eK h)) (λa b c p e=>by subst e;exact aov (n:=n) (eK h))
   ·exact λ_ _ h=>cE.name (xo h)
   ·exact λ_ _ h=>cE.list (am.es _ h).2
   ·exact λ_ _ _ h=>cE.tuple (am.es _ h).2
   ·exact λ_ q h=>b8 (q.symm.trans h)
  ·exact⟨(eZ h),kl.of (eZ h) λe bl=>am.e _ (tj (eK h) e bl)⟩
  ·rcases e with _|e
   ·exact λ_=>rL.none
   ·exact λh=>rL.some (am.e _ h)
  ·have h:(if xs e then fM n e else C0 n e)=ae:=h
   refine @tq (ST Θ C d e) (xs e) (λq=>?_) λq=>?_
   ·exact ST.plain (am.e _ ((aY q).symm.trans h)) q
   ·exact am.t2 _ ((a8 (ne_true_of_eq_false q)).symm.trans h)
  ·have h:(if A5 e then CZ n e else fM n e)=ae:=h
   refine @tq (mj Θ C d e) (A5 e) (λq=>?_) λq=>?_
   ·exact am.r2 _ ((aY q).symm.trans h)
   ·exact mj.plain (am.e _ ((a8 (ne_true_of_eq_false q)).symm.trans h)) q
  ·have h:(if A8 e then fM n e else CY n e)=ae:=h
   refine @tq (oo Θ C d e) (A8 e) (λq=>?_) λq=>?_
   ·exact oo.plain (am.e _ ((aY q).symm.trans h)) q
   ·exact am.i2 _ ((a8 (ne_true_of_eq_false q)).symm.trans h)
  ·refine @mW (λe=>CY (n+1) e=ae->oo Θ C d e) ?_ ?_ ?_ ?_ ?_ ?_ ?_ ?_ ?_ ?_ ?_ ?_ ?_ ?_ ?_ ?_ e<;>first |(intros;rename_i h;exact b8 h)|skip
   ·intro a b c p h;obtain⟨ai,ak⟩:=fm h;obtain rfl:=Gg.mp ai;exact oo.slice (am.o _ (eZ ak)) (am.o _ (eK ak))
   ·exact λ_ q h=>b8 (q.symm.trans h)
  ·refine @mW (λe=>C0 (n+1) e=ae->ST Θ C d e) ?_ ?_ ?_ ?_ ?_ ?_ ?_ ?_ ?_ ?_ ?_ ?_ ?_ ?_ ?_ ?_ e<;>first |(intros;rename_i h;exact b8 h)|skip
   ·exact λ_ _ _ h=>ST.bool λe bl=>am.t _ (tj h e bl)
   ·intro bM _ _ h;obtain⟨ai,ak⟩:=fm h;rcases bM<;>first |exact b8 ai|exact ST.not (am.t _ ak)
   ·exact λ_ _ _ _ h=>ST.compare (am.e _ (eZ h)) (λe bl=>am.e _ (tj (eZ (eK h)) e bl)) (xo (eK (eK h)))
   ·exact λ_ q h=>b8 (q.symm.trans h)
  ·refine @mW (λe=>CZ (n+1) e=ae->mj Θ C d e) ?_ ?_ ?_ ?_ ?_ ?_ ?_ ?_ ?_ ?_ ?_ ?_ ?_ ?_ ?_ ?_ e<;>first |(intros;rename_i h;exact b8 h)|skip
   ·intro f aH ff p h;obtain⟨ai,ak⟩:=fm h;obtain rfl:=cO ai;obtain⟨aZ,cC⟩:=fm ak;obtain⟨x,gZ,rfl⟩:=DF aZ;rcases n with _|n
    ·exact b8 (eZ cC)
    ·exact mj.call (xo (eZ cC)) (am.es _ (eK cC)).2 (am.es _ (eK cC)).1
   ·exact λ_ q h=>b8 (q.symm.trans h)
  ·revert h
   refine @mW (λe=>HO (n+1) e pos=ae->cE Θ C d (.Call e aH [] pos)) ?_ ?_ ?_ ?_ ?_ ?_ ?_ ?_ ?_ ?_ ?_ ?_ ?_ ?_ ?_ ?_ f<;>first |(intros;rename_i h;exact b8 h)|skip
   ·exact λ_ _ _ h=>cE.meth dD (am.e _ (eZ h)) hs hn aQ (TD (eZ (eK h))) (eK (eK h))
   ·exact λ_ q h=>b8 (q.symm.trans h)
  ·rcases ff with _|⟨a,ff⟩
   ·obtain rfl:=cO h;exact cE.dict0
   ·rcases ff with _|⟨b,ff⟩
    ·exact b8 h
    ·rcases vs with _|⟨u,vs⟩
     ·exact b8 h
     ·rcases vs with _|⟨v,vs⟩
      ·exact b8 h
      ·obtain⟨ai,ak⟩:=fm h;obtain rfl:=cO ai;obtain⟨aZ,cC⟩:=fm ak;obtain rfl:=cO aZ;obtain⟨gl,gH⟩:=fm cC;obtain⟨az,k1,p1,rfl⟩:=TB gl;obtain⟨qD,gI⟩:=fm gH;obtain⟨aT,k2,p2,rfl⟩:=TB qD;exact cE.dict2 (am.e _ (eZ gI)) (am.e _ (eK gI))
  ·rcases aI with _|⟨aB,aI⟩
   ·exact b8 h
   ·obtain⟨ai,ak⟩:=fm h;obtain rfl:=cO ai;obtain⟨aZ,cC⟩:=fm ak;obtain⟨gl,gH⟩:=fm cC;obtain⟨t,i,f,b⟩:=aB;obtain rfl:b=0:=beq_iff_eq.mp aZ;exact⟨t,i,f,rfl,am.r _ gl,λe bl=>am.t _ (tj (eZ gH) e bl),(eK gH)⟩
set_option tactic.hygienic true in
theorem Tk(dD:n0 Θ d C){n:Nat}{t:aU}:wT n t=ae->iN Θ C d t:=by
 refine @mW (λe=>wT n e=ae->iN Θ C d e) ?_ ?_ ?_ ?_ ?_ ?_ ?_ ?_ ?_ ?_ ?_ ?_ ?_ ?_ ?_ ?_ t<;>first |(intros;rename_i h;exact b8 h)|skip
 ·exact λ_ _ _ h=> @iN.attr _ _ _ _ _ _ ((tU dD n).e _ (eZ h)) (eK h)
 ·exact λ_ _ _ h=> @iN.subscript _ _ _ _ _ _ ((tU dD n).e _ (eZ h)) ((tU dD n).i _ (eK h))
 ·exact λ_ _ _=> @iN.name _ _ _ _ _
 ·exact λ_ q h=>b8 (q.symm.trans h)
theorem AQ:r6 e=ae->∃k p,e=.Tuple (oV e) k p:=by
 rcases e<;>first |exact λh=>b8 h|exact λ_=>⟨_,_,rfl⟩
theorem aeo:wT n e=ae->gA [e]=ae:=by
 refine @mW (λe=>wT n e=ae->gA [e]=ae) ?_ ?_ ?_ ?_ ?_ ?_ ?_ ?_ ?_ ?_ ?_ ?_ ?_ ?_ ?_ ?_ e<;>first |exact λ_ q h=>b8 (q.symm.trans h)|(intros;exact(rfl:_=ae))
theorem aoC(dD:n0 Θ d C){n:Nat}{t:aU}(h:Py n t=ae):iN Θ C d t/\gA [t]=ae:=by
 refine tq (r6 t) (λq=>?_) λq=>?_
 ·obtain⟨k,p,e⟩:=AQ q;have h:=(aY q).symm.trans h;exact G e (⟨iN.tuple (λe bl=>Tk dD (tj (eZ h) e bl)) (eK h),rfl⟩)
 ·have h:=(a8 (ne_true_of_eq_false q)).symm.trans h;exact⟨Tk dD h,aeo h⟩
theorem TE{t:Option aU}{l:Nat}(Z:Env):xn e=ae->s8 e t l Z=bK aA:=by
 rcases e<;>first |exact λ_=>(rfl:_=bK aA)|exact λh=>b8 h
theorem ao3{s:aU}(h:m5 t=ae)(l:Nat)(Z:Env):Dk s=ae->s8 s (J t) l Z=bK aA:=by
 rcases s<;>first |exact λ_=>(rfl:_=bK aA)|exact λaB=>b8 aB|skip
 revert h
 rcases t<;>first |exact λ_ _=>(rfl:_=bK aA)|exact λh=>b8 h
theorem abO(h:fM n e=ae):Dk e=ae:=by
 rcases n with _|n
 ·exact b8 h
 ·revert h
  refine @mW (λe=>fM (n+1) e=ae->Dk e=ae) ?_ ?_ ?_ ?_ ?_ ?_ ?_ ?_ ?_ ?_ ?_ ?_ ?_ ?_ ?_ ?_ e<;>first |exact λ_ q h=>b8 (q.symm.trans h)|(intros;exact(rfl:_=ae))
theorem ao4{l:Nat}(aB:Dk e=ae)(h:(xn e||m5 t)=ae)(Z:Env):s8 e (J t) l Z=bK aA:=by
 rw [t8] at h;exact h.elim (TE Z) λh=>ao3 h l Z aB
theorem Qb{bF:Type}(f:aU->Option bF)(aq:∀e,m5 e=ae->f e=ac):∀ {h1:List aU},h1.any m5=ae->(h1.filterMap f).length<h1.length
 |e::h1,h=>by
  rw [zl,t8] at h;rcases h with h|h
  ·exact G (List.filterMap_cons_none (aq e h)) (MZ (List.length_filterMap_le _ _))
  ·have :=Qb f aq h;refine G List.filterMap_cons ?_;split
   ·simp only [sO];exact Nat.lt_add_right 1 this
   ·simp only [sO];exact Nat.add_lt_add_right this 1
theorem aoA{t X:Sem (Option (List Str))}{dv dy eT:Prop}{_:Decidable dv}{_:Decidable dy}{_:Decidable eT}(h:dv\/eT)(e:t=if dv then bK ac else if dy then bK ac else if eT then bK ac else X):t=bK ac:=by
 by_cases k1:dv
 ·rw [aY k1] at e;exact e
 ·rw [a8 k1] at e;by_cases k2:dy
  ·rw [aY k2] at e;exact e
  ·rw [a8 k2,aY (h.resolve_left k1)] at e;exact e
theorem Kk{a b:Bool}(h:a=ae):(a||b)=ae:=by rw [h];rfl
theorem Z7{a b:Nat}(h:a<b):(a !=b)=ae:=bne_iff_ne.mpr (mf h)
theorem aoS(h:Tx t e=ae)(Z:Env):wG [t] e Z=bK ac:=by
 refine tq (r6 t&&r6 e) (λq=>?_) λq=>?_
 ·have h:=(aY q).symm.trans h;obtain⟨k,p,e1⟩:=AQ (eZ q);obtain⟨fO,gZ,e2⟩:=AQ (eK q);refine G e1 (G e2 ?_);clear e1 e2 q;generalize oV t=h1 at h⊢;generalize oV e=vs;refine aoA ?_ rfl;rw [t8] at h;rcases h with h|h
  ·exact .inl (Kk (Kk h))
  ·exact .inr (Kk (Z7 (Qb _ (λe bl=>by rcases e<;>first |rfl|exact b8 bl) h)))
 ·have h:=(a8 (ne_true_of_eq_false q)).symm.trans h;rw [t8] at h;clear q;revert h
  rcases t<;>first |exact λ_=>(rfl:_=bK ac)|skip
  all_goals (rcases e<;>first |exact λ_=>(rfl:_=bK ac)|exact λh=>h.elim b8 b8)
theorem apl(h:Ll t=ae):∃a pa b pb k p,t=.Tuple [.Name a pa,.Name b pb] k p/\(a==b)=aA:=by
 obtain⟨q,h⟩:=fm h;obtain⟨k,p,e⟩:=AQ q;refine G e ?_;generalize oV t=l at h⊢;induction l using mO with
 |nil=>exact b8 h
 |cons x r=>induction r using mO with
  |nil=>exact b8 h
  |cons y r=>
   obtain⟨ai,ak⟩:=fm h;obtain⟨aZ,cC⟩:=fm ak;obtain⟨gl,gH⟩:=fm cC;obtain rfl:=cO ai;obtain⟨a,pa,rfl⟩:=DF aZ;obtain⟨b,pb,rfl⟩:=DF gl;exact⟨a,pa,b,pb,k,p,rfl,xo gH⟩
theorem apn(h:Lm t=ae):∃x y k p,t=.Tuple [x,y] k p/\gA [x,y]=ae/\(rF 8 x&&rF 8 y)=aA:=by
 obtain⟨q,h⟩:=fm h;obtain⟨k,p,e⟩:=AQ q;refine G e ?_;generalize oV t=l at h⊢;induction l using mO with
 |nil=>exact b8 h
 |cons x r=>induction r using mO with
  |nil=>exact b8 h
  |cons y r=>
   obtain⟨ai,ak⟩:=fm h;obtain rfl:=cO ai;exact⟨x,y,k,p,rfl,(eZ ak),xo (eK ak)⟩
set_option tactic.hygienic true in
theorem aoB(dD:n0 Θ d C){n:Nat}{t e:aU}{pos:Pos}(h:Pu n t e=ae):ec Θ C d (.Assign [t] e pos):=by
 have am:=tU dD n;refine @tq (ec Θ C d (.Assign [t] e pos)) (Ll t&&Lm e) (λq=>?_) λq=>?_
 ·replace h:fM n e=ae:=(aY q).symm.trans h
  obtain⟨a,pa,b,pb,k,p,rfl,IC⟩:=apl (eZ q);obtain⟨x,y,fO,gZ,rfl,ai,ak⟩:=apn (eK q);exact λ{_ _ _ _ _ _ _}=>ec.pair (am.e _ h) ai ak IC
 ·replace h:=(a8 (ne_true_of_eq_false q)).symm.trans h
  clear q;refine @tq (ec Θ C d (.Assign [t] e pos)) (!m5 t&& !xn e) (λq=>?_) λq=>?_
  ·replace h:HM n e=ae:=(aY q).symm.trans h
   obtain⟨x,p,rfl⟩:=DF (eZ q);clear q;revert h
   refine @mW (λe=>HM n e=ae->ec Θ C d (.Assign [.Name x p] e pos)) ?_ ?_ ?_ ?_ ?_ ?_ ?_ ?_ ?_ ?_ ?_ ?_ ?_ ?_ ?_ ?_ e<;>first |(intros;rename_i h;exact b8 h)|skip
   ·intro dW aI _ _ h;obtain⟨t,i,f,rfl,da,aq,hs⟩:=am.g _ (eK h);exact λ{_ _ _ _ _ _ _}=>ec.assignComp da (am.e _ (eZ h)) aq (K8 hs)
   ·exact λ_ q h=>b8 (q.symm.trans h)
  ·replace h:=(a8 (ne_true_of_eq_false q)).symm.trans h
   obtain⟨ai,ak⟩:=fm h;obtain⟨aZ,cC⟩:=fm ak;obtain⟨aM,a7⟩:=aoC dD aZ;exact λ{_ _ _ _ _ _ _}=>ec.assign (am.e _ ai) aM a7 (ao4 (abO ai) (eZ cC)) (aoS (eK cC))
set_option tactic.hygienic true in
theorem Tl(dD:n0 Θ d C)(n:Nat):(∀s,HQ n s=ae->ec Θ C d s)/\∀ss,ts n ss=ae->km Θ C d ss:=by
 induction n with
 |zero=>exact⟨λ_ h=>b8 h,λ_ h=>b8 h⟩
 |succ n U4=>
  have am:=tU dD n;obtain⟨U5,zd⟩:=U4;refine⟨λs=>?_,λss h=>km.of λs hs=>U5 _ (tj h s hs)⟩
  refine @aoQ (λs=>HQ (n+1) s=ae->ec Θ C d s) (λ_ _ _ _ _ _ _ _ _ _ h=>b8 h) (λ_ _ _ _ _ _ _ _ _ _ _ h=>b8 h) ?_ ?_ ?_ ?_ ?_ ?_ ?_ ?_ ?_ ?_ ?_ ?_ ?_ s
  ·intro e _ h;rcases n with _|n
   ·exact b8 h
   ·rcases e with _|e
    ·exact ec.ret0
    ·exact ec.ret ((tU dD n).e _ h)
  ·intro h1 _ h;rcases h1 with _|⟨t,h1⟩
   ·exact b8 h
   ·obtain⟨ai,ak⟩:=fm h;obtain rfl:=cO ai;revert ak
    refine @mW (λt=>Px n t=ae->ec Θ C d (.Delete [t] _)) ?_ ?_ ?_ ?_ ?_ ?_ ?_ ?_ ?_ ?_ ?_ ?_ ?_ ?_ ?_ ?_ t<;>first |(intros;rename_i h;exact b8 h)|skip
    ·exact λ_ _ _ h=>ec.del (am.e _ (eZ h)) (am.e _ (eK h))
    ·exact λ_ q h=>b8 (q.symm.trans h)
  ·intro h1 _ _ h;rcases h1 with _|⟨t,h1⟩
   ·exact b8 h
   ·obtain⟨ai,ak⟩:=fm h;obtain rfl:=cO ai;exact λ{_ _ _ _ _ _ _}=>aoB dD ak
  ·intro t o e _ h;obtain⟨ai,ak⟩:=fm h;revert ai
   refine @mW (λt=>Pv n t=ae->ec Θ C d (.AugAssign t o e _)) ?_ ?_ ?_ ?_ ?_ ?_ ?_ ?_ ?_ ?_ ?_ ?_ ?_ ?_ ?_ ?_ t<;>first |(intros;rename_i h;exact b8 h)|skip
   ·exact λ_ _ _ h=>ec.augAttr (am.e _ (eZ h)) (eK h) (am.e _ ak)
   ·exact λ_ _ _=>ec.augName (am.e _ ak)
   ·exact λ_ q h=>b8 (q.symm.trans h)
  ·intro _ it b l _ h;obtain⟨ai,ak⟩:=fm h;obtain rfl:=cO ai;obtain⟨aZ,cC⟩:=fm ak;exact ec.for (am.r _ aZ) (zd _ (eZ cC)) (K8 (eK cC))
  ·intro _ _ _ _ h;obtain⟨ai,ak⟩:=fm h;obtain rfl:=cO ai;exact ec.loop (am.t _ (eZ ak)) (zd _ (eK ak))
  ·exact λ_ _ _ _ h=>ec.ite (am.t _ (eZ h)) (zd _ (eZ (eK h))) (zd _ (eK (eK h)))
  ·exact λ_ _ _ _ {_ _ _ _ _ _ _} ok a w=>w.elim
  ·intro _ _ _ _ _ h;obtain⟨ai,ak⟩:=fm h;obtain rfl:=cO ai;obtain⟨aZ,cC⟩:=fm ak;obtain rfl:=cO aZ;exact ec.tri (zd _ cC)
  ·exact λ_ _ h=>ec.expr (am.e _ (eZ h)) (λa6=>TE a6 (eK h))
  ·exact λ_ _=>ec.pass
  ·exact λ_ _=>ec.brk
  ·exact λ_ q h=>b8 (q.symm.trans h)
end
end Mine.Internal
end
noncomputable section
set_option tactic.hygienic true
open PySem PySem.W PyProof.Rows PySem.Calls
namespace Mine.Internal
theorem JA{ay:Type}{l:List ay}(h:l.length=1):∃a,l=[a]:=List.length_eq_one_iff.mp h
theorem AV{ay:Type}{l:List ay}{n:Nat}(h:l.length=n+1):∃a m,l=a::m/\m.length=n:=by
 cases l with
 |nil=>cases h
 |cons a m=>exact⟨a,m,rfl,M3 h⟩
theorem JB{ay:Type}{l:List ay}(h:l.length=2):∃a b,l=[a,b]:=by
 obtain⟨a,m,rfl,ak⟩:=AV h;obtain⟨b,rfl⟩:=JA ak;exact⟨a,b,rfl⟩
theorem Ru{ay:Type}{l:List ay}(h:l.length=3):∃a b c,l=[a,b,c]:=by
 obtain⟨a,m,rfl,ak⟩:=AV h;obtain⟨b,c,rfl⟩:=JB ak;exact⟨a,b,c,rfl⟩
theorem Rv{ay:Type}{l:List ay}(h:l.length=4):∃a b c d,l=[a,b,c,d]:=by
 obtain⟨a,m,rfl,ak⟩:=AV h;obtain⟨b,c,d,rfl⟩:=Ru ak;exact⟨a,b,c,d,rfl⟩
theorem Rw{ay:Type}{l:List ay}(h:l.length=5):∃a b c d e,l=[a,b,c,d,e]:=by
 obtain⟨a,m,rfl,ak⟩:=AV h;obtain⟨b,c,d,e,rfl⟩:=Rv ak;exact⟨a,b,c,d,e,rfl⟩
theorem ag4{ay:Type}{l:List ay}(h:l.length=6):∃a b c d e f,l=[a,b,c,d,e,f]:=by
 obtain⟨a,m,rfl,ak⟩:=AV h;obtain⟨b,c,d,e,f,rfl⟩:=Rw ak;exact⟨a,b,c,d,e,f,rfl⟩
theorem abN:Ar.all (λp=>ts 40 (aW p.2))=ae:=by decide+kernel
def Ed(st:cD):Bool:=(dO st).isCoroutine==aA&&(dO st).isGenerator==aA&&(dO st).kind== .function&&eg (((dO st).names.map (·.1)).Nodup)&&(dO st).names.all (λp=>p.2 != .free)&&
 eg (((fF st).args.map (·.arg)).Nodup)&&((fF st).args.map (·.arg)).all (λx=>(dO st).names.lookup x==J .local ||(dO st).names.lookup x==J .cell)
theorem aoe:Ar.all (λp=>Ed p.2)=ae:=by decide+kernel
noncomputable def fdOf(o:Obj):FuncData:=match o.data with
 | .func fd=>fd
 |_=>jQ
def rd(P:cB)(st:cD)(fd:FuncData):Prop:=∀(s:cn) (vs:List aG),(dk P).In s.heap->vs.length=(fF st).args.length->BindsTo s fd ⟨vs,[]⟩ (((fF st).args.map (·.arg)).zip vs)
def p6(P:cB)(f:a1)(st:cD):Prop:=∃o fd,(dk P).lookup f=J o/\o.data=.func fd/\fd.body=.stmts (aW st)/\fd.scope=dO st/\fd.globals=k8/\fd.closure=[]/\fd.builtins=s6/\
 codeIn (dk P) fd.code fd.qualname=ae/\rd P st fd
section
variable {P:cB}{f:a1}{st:cD}{o:Obj}{fd:FuncData}
abbrev t4(P:cB)(st:cD)(fd:FuncData)(vs:List aG):Prop:=∀s:cn,(dk P).In s.heap->BindsTo s fd ⟨vs,[]⟩ (((fF st).args.map (·.arg)).zip vs)
theorem fy(e:(fF st).args.length=1)(h:∀a,t4 P st fd [a]):rd P st fd:=λs vs X aQ=>by obtain⟨a,rfl⟩:=JA (aQ.trans e);exact h _ s X
theorem fz(e:(fF st).args.length=2)(h:∀a b,t4 P st fd [a,b]):rd P st fd:=λs vs X aQ=>by obtain⟨a,b,rfl⟩:=JB (aQ.trans e);exact h _ _ s X
theorem jV(e:(fF st).args.length=3)(h:∀a b c,t4 P st fd [a,b,c]):rd P st fd:=λs vs X aQ=>by obtain⟨a,b,c,rfl⟩:=Ru (aQ.trans e);exact h _ _ _ s X
theorem ou(e:(fF st).args.length=4)(h:∀a b c d,t4 P st fd [a,b,c,d]):rd P st fd:=λs vs X aQ=>by obtain⟨a,b,c,d,rfl⟩:=Rv (aQ.trans e);exact h _ _ _ _ s X
theorem rR(e:(fF st).args.length=5)(h:∀a b c d x,t4 P st fd [a,b,c,d,x]):rd P st fd:=λs vs X aQ=>by obtain⟨a,b,c,d,x,rfl⟩:=Rw (aQ.trans e);exact h _ _ _ _ _ s X
theorem tl(e:(fF st).args.length=6)(h:∀a b c d x y,t4 P st fd [a,b,c,d,x,y]):rd P st fd:=λs vs X aQ=>by obtain⟨a,b,c,d,x,y,rfl⟩:=ag4 (aQ.trans e);exact h _ _ _ _ _ _ s X
theorem pC(o:Obj)(b:rd P st (fdOf o))(bA:o.data=.func (fdOf o))(hb:(fdOf o).body=.stmts (aW st))(hs:(fdOf o).scope=dO st)(bj:(fdOf o).globals=k8)(aD:(fdOf o).closure=[])(hn:(fdOf o).builtins=s6)
 (l:(dk P).lookup f=J o) (hk:codeIn (dk P) (fdOf o).code (fdOf o).qualname=ae):p6 P f st:=⟨o,_,l,bA,hb,hs,bj,aD,hn,hk,b⟩
theorem bd{vs:List aG}(h:bindArgs fd ⟨vs,[]⟩=bK (((fF st).args.map (·.arg)).zip vs)):t4 P st fd vs:=λ_ _=>BindsTo.of_eq h
theorem dE{a b:String}{m:String×Nat}{t i n c:Nat}{s:List String}(u:Nat->Obj)(e:u=Mine.Internal.fd st a b m t i n c s)(k:rd P st (fdOf (u 2)))(l:(dk P).lookup f=J (u 2))(hk:codeIn (dk P) (fdOf (u 2)).code (fdOf (u 2)).qualname=ae):p6 P f st:=by
 subst e;exact pC _ k rfl rfl rfl rfl rfl rfl l hk
end
theorem Ik{P:cB}{f:a1}{st:cD}(h:p6 P f st)(s:Ed st=ae):ue P f st:=by
 unfold Ed at s;simp only [he,beq_iff_eq,decide_eq_true_eq,i3,bne_iff_ne,ne_eq,t8] at s;obtain⟨⟨⟨⟨⟨⟨a,b⟩,c⟩,d⟩,e⟩,f⟩,aB⟩:=s;exact⟨h,a,b,c,d,e,f,aB⟩
theorem X4{ay:Type}{Q:ay->Prop}:∀p∈([]:List ay),Q p:=λ_ h=>nomatch h
theorem X3{ay:Type}{Q:ay->Prop}{a:ay}{l:List ay}(h:Q a)(t:∀p∈l,Q p):∀p∈a::l,Q p:=λp hp=>(fw.mp hp).elim (λe=>e▸h) (t p)
theorem c9{P:cB}{f:a1}{st:cD}{l:List (a1×cD)}(h:p6 P f st)(t:∀p∈l,p6 P p.1 p.2):∀p∈(f,st)::l,p6 P p.1 p.2:=X3 (Q:=λp:a1×cD=>p6 P p.1 p.2) h t
theorem adw(P:cB):∀p∈Ar,p6 P p.1 p.2:=
 c9 (dE xH rfl (fz rfl λ_ _=>bd rfl) (by kernel_rfl) (by kernel_rfl)) (c9 (dE xI rfl (fz rfl λ_ _=>bd rfl) (by kernel_rfl) (by kernel_rfl)) (c9 (dE xJ rfl (jV rfl λ_ _ _=>bd rfl) (by kernel_rfl) (by kernel_rfl)) (c9 (dE xK rfl (jV rfl λ_ _ _=>bd rfl) (by kernel_rfl) (by kernel_rfl)) (c9 (dE xL rfl (fz rfl λ_ _=>bd rfl) (by kernel_rfl) (by kernel_rfl)) (c9 (pC JU (tl rfl λ_ _ _ _ _ _ s X=>binds_K (K:=dk P) X rfl (show _=J JT from rfl) rfl rfl rfl) rfl rfl rfl rfl rfl rfl (by kernel_rfl) (by kernel_rfl)) (c9 (dE xM rfl (fy rfl λ_=>bd rfl) (by kernel_rfl) (by kernel_rfl)) (c9 (dE xN rfl (fy rfl λ_=>bd rfl) (by kernel_rfl) (by kernel_rfl)) (c9 (dE xO rfl (fy rfl λ_=>bd rfl) (by kernel_rfl) (by kernel_rfl)) (c9 (dE xP rfl (fy rfl λ_=>bd rfl) (by kernel_rfl) (by kernel_rfl)) (c9 (dE xQ rfl (fz rfl λ_ _=>bd rfl) (by kernel_rfl) (by kernel_rfl)) (c9 (dE xR rfl (fz rfl λ_ _=>bd rfl) (by kernel_rfl) (by kernel_rfl)) (c9 (dE xT rfl (jV rfl λ_ _ _=>bd rfl) (by kernel_rfl) (by kernel_rfl)) (c9 (pC JV (ou rfl λ_ _ _ _=>bd rfl) rfl rfl rfl rfl rfl rfl (by kernel_rfl) (by kernel_rfl)) (c9 (dE q1 rfl (jV rfl λ_ _ _=>bd rfl) (by kernel_rfl) (by kernel_rfl)) (c9 (dE xU rfl (jV rfl λ_ _ _=>bd rfl) (by kernel_rfl) (by kernel_rfl)) (c9 (dE xV rfl (fy rfl λ_=>bd rfl) (by kernel_rfl) (by kernel_rfl)) (c9 (dE xW rfl (fy rfl λ_=>bd rfl) (by kernel_rfl) (by kernel_rfl)) (c9 (dE xX rfl (fy rfl λ_=>bd rfl) (by kernel_rfl) (by kernel_rfl)) (c9 (dE xY rfl (jV rfl λ_ _ _=>bd rfl) (by kernel_rfl) (by kernel_rfl)) (c9 (dE xZ rfl (fz rfl λ_ _=>bd rfl) (by kernel_rfl) (by kernel_rfl)) (c9 (dE x0 rfl (fz rfl λ_ _=>bd rfl) (by kernel_rfl) (by kernel_rfl)) (c9 (dE x1 rfl (fz rfl λ_ _=>bd rfl) (by kernel_rfl) (by kernel_rfl)) (c9 (dE x2 rfl (fy rfl λ_=>bd rfl) (by kernel_rfl) (by kernel_rfl)) (c9 (dE x3 rfl (ou rfl λ_ _ _ _=>bd rfl) (by kernel_rfl) (by kernel_rfl)) (c9 (dE x4 rfl (fz rfl λ_ _=>bd rfl) (by kernel_rfl) (by kernel_rfl)) (c9 (dE x5 rfl (fz rfl λ_ _=>bd rfl) (by kernel_rfl) (by kernel_rfl)) (c9 (dE x6 rfl (ou rfl λ_ _ _ _=>bd rfl) (by kernel_rfl) (by kernel_rfl)) (c9 (dE x7 rfl (ou rfl λ_ _ _ _=>bd rfl) (by kernel_rfl) (by kernel_rfl)) (c9 (dE x8 rfl (rR rfl λ_ _ _ _ _=>bd rfl) (by kernel_rfl) (by kernel_rfl)) (c9 (dE x9 rfl (fz rfl λ_ _=>bd rfl) (by kernel_rfl) (by kernel_rfl)) (c9 (dE ya rfl (jV rfl λ_ _ _=>bd rfl) (by kernel_rfl) (by kernel_rfl)) (c9 (dE yb rfl (fy rfl λ_=>bd rfl) (by kernel_rfl) (by kernel_rfl)) (c9 (dE yc rfl (fy rfl λ_=>bd rfl) (by kernel_rfl) (by kernel_rfl)) (c9 (dE yd rfl (fz rfl λ_ _=>bd rfl) (by kernel_rfl) (by kernel_rfl)) (c9 (dE ye rfl (fy rfl λ_=>bd rfl) (by kernel_rfl) (by kernel_rfl)) (c9 (dE yf rfl (jV rfl λ_ _ _=>bd rfl) (by kernel_rfl) (by kernel_rfl)) (c9 (dE yg rfl (fz rfl λ_ _=>bd rfl) (by kernel_rfl) (by kernel_rfl)) (c9 (dE yh rfl (fz rfl λ_ _=>bd rfl) (by kernel_rfl) (by kernel_rfl)) (c9 (dE yi rfl (fz rfl λ_ _=>bd rfl) (by kernel_rfl) (by kernel_rfl)) (c9 (dE yj rfl (fy rfl λ_=>bd rfl) (by kernel_rfl) (by kernel_rfl)) (c9 (dE yk rfl (fz rfl λ_ _=>bd rfl) (by kernel_rfl) (by kernel_rfl)) (c9 (dE yl rfl (fz rfl λ_ _=>bd rfl) (by kernel_rfl) (by kernel_rfl)) (c9 (dE ym rfl (fz rfl λ_ _=>bd rfl) (by kernel_rfl) (by kernel_rfl)) (c9 (dE yn rfl (fz rfl λ_ _=>bd rfl) (by kernel_rfl) (by kernel_rfl)) (c9 (dE yo rfl (fy rfl λ_=>bd rfl) (by kernel_rfl) (by kernel_rfl)) (c9 (dE yp rfl (fz rfl λ_ _=>bd rfl) (by kernel_rfl) (by kernel_rfl)) (c9 (dE yq rfl (jV rfl λ_ _ _=>bd rfl) (by kernel_rfl) (by kernel_rfl)) (c9 (dE yr rfl (jV rfl λ_ _ _=>bd rfl) (by kernel_rfl) (by kernel_rfl)) (c9 (dE ys rfl (fy rfl λ_=>bd rfl) (by kernel_rfl) (by kernel_rfl)) (c9 (dE yt rfl (fz rfl λ_ _=>bd rfl) (by kernel_rfl) (by kernel_rfl)) (c9 (dE yu rfl (fz rfl λ_ _=>bd rfl) (by kernel_rfl) (by kernel_rfl)) (c9 (dE yv rfl (jV rfl λ_ _ _=>bd rfl) (by kernel_rfl) (by kernel_rfl)) (c9 (dE yw rfl (fy rfl λ_=>bd rfl) (by kernel_rfl) (by kernel_rfl)) (c9 (pC JZ (fz rfl λ_ _=>bd rfl) rfl rfl rfl rfl rfl rfl (by kernel_rfl) (by kernel_rfl)) (c9 (pC J1 (rR rfl λ_ _ _ _ _ s X=>binds_K (K:=dk P) X rfl (show _=J J0 from rfl) rfl rfl rfl) rfl rfl rfl rfl rfl rfl (by kernel_rfl) (by kernel_rfl)) (c9 (dE yx rfl (fz rfl λ_ _=>bd rfl) (by kernel_rfl) (by kernel_rfl)) (c9 (dE yy rfl (fy rfl λ_=>bd rfl) (by kernel_rfl) (by kernel_rfl)) (c9 (dE yz rfl (fy rfl λ_=>bd rfl) (by kernel_rfl) (by kernel_rfl)) (c9 (dE yA rfl (fy rfl λ_=>bd rfl) (by kernel_rfl) (by kernel_rfl)) (c9 (dE yB rfl (fz rfl λ_ _=>bd rfl) (by kernel_rfl) (by kernel_rfl)) (c9 (dE yC rfl (fy rfl λ_=>bd rfl) (by kernel_rfl) (by kernel_rfl)) (c9 (dE yD rfl (fy rfl λ_=>bd rfl) (by kernel_rfl) (by kernel_rfl)) (c9 (dE yE rfl (fy rfl λ_=>bd rfl) (by kernel_rfl) (by kernel_rfl)) (c9 (dE yF rfl (fz rfl λ_ _=>bd rfl) (by kernel_rfl) (by kernel_rfl)) (c9 (dE yG rfl (jV rfl λ_ _ _=>bd rfl) (by kernel_rfl) (by kernel_rfl)) (c9 (pC J2 (fz rfl λ_ _=>bd rfl) rfl rfl rfl rfl rfl rfl (by kernel_rfl) (by kernel_rfl)) (c9 (dE yH rfl (ou rfl λ_ _ _ _=>bd rfl) (by kernel_rfl) (by kernel_rfl)) (c9 (pC J3 (fy rfl λ_=>bd rfl) rfl rfl rfl rfl rfl rfl (by kernel_rfl) (by kernel_rfl)) (c9 (pC J4 (fz rfl λ_ _=>bd rfl) rfl rfl rfl rfl rfl rfl (by kernel_rfl) (by kernel_rfl)) (c9 (dE yI rfl (rR rfl λ_ _ _ _ _=>bd rfl) (by kernel_rfl) (by kernel_rfl)) (c9 (pC J5 (ou rfl λ_ _ _ _=>bd rfl) rfl rfl rfl rfl rfl rfl (by kernel_rfl) (by kernel_rfl)) (c9 (dE yJ rfl (fz rfl λ_ _=>bd rfl) (by kernel_rfl) (by kernel_rfl)) (c9 (pC J6 (tl rfl λ_ _ _ _ _ _=>bd rfl) rfl rfl rfl rfl rfl rfl (by kernel_rfl) (by kernel_rfl)) (c9 (pC J7 (fy rfl λ_=>bd rfl) rfl rfl rfl rfl rfl rfl (by kernel_rfl) (by kernel_rfl)) (X4)))))))))))))))))))))))))))))))))))))))))))))))))))))))))))))))))))))))))))
theorem Il(P:cB){f:a1}{st:cD}(e:r3 f=J st):ue P f st/\ts 40 (aW st)=ae:=
 ⟨Ik (adw P _ (As e)) (i3.mp aoe _ (As e)),i3.mp abN _ (As e)⟩
end Mine.Internal
end
noncomputable section
set_option tactic.hygienic true
open PySem PySem.W PyProof.Rows PySem.Calls
namespace Mine.Internal.P
def aj{ay:Type}(o:Option ay)(k:ay->Prop):Prop:=match o with
 |J a=>k a
 |ac=>False
def aF{ay bF:Type}(o:Option (ay×bF))(k:ay->bF->Prop):Prop:=match o with
 |J (a,b)=>k a b
 |ac=>False
def dU(c:Bool)(A B:Prop):Prop:=match c with
 |ae=>A
 |aA=>B
def bo(bM:ww)(b:Bool)(A B:Prop):Prop:=match bM,b with
 | .And,aA=>A
 | .Or,ae=>A
 |_,_=>B
def jJ(a b:Option (Option Int))(k:Option Int->Option Int->Prop):Prop:=match a,b with
 |J u,J v=>k u v
 |_,_=>False
def eq(H:an)(o:bt)(k:L->an->Prop):Prop:=k (.new H.length) (H++[o])
def fP(l:List L)(k:L->List L->Prop):Prop:=match l with
 | []=>False
 |v::l=>k v l
def kz(v:L)(H:an)(n:Nat)(k:List L->Prop):Prop:=match v with
 | .new j=>match H[j]?with
  |J (.tup l)=>if l.length=n then k l else False
  |_=>False
 |_=>False
def lp(v:L)(H:an)(k:Nat->Prop):Prop:=match listOf v H with
 |J i=>k i
 |ac=>False
def kp(a b:L)(o:Option (L×an))(k:L->an->Prop):Prop:=match o with
 |J (v,H)=>if isInt a&&isInt b then k v H else False
 |ac=>False
theorem bZ{A B:Prop}(e:A=B)(h:A):B:=e.mp h
noncomputable def r9:List aU->Nat->aU
 | [],_=>.Name "" jQ
 |a::_,0=>a
 |_::l,k+1=>r9 l k
def j8(e:aU)(i:Nat):aU:=iP e e
 (kBinOp:=λl _ r _=>r9 [l,r] i) (kBoolOp:=λ_ vs _=>r9 vs i) (kIfExp:=λt a b _=>r9 [t,a,b] i)
 (kCompare:=λl _ rs _=>r9 (l::rs) i) (kAttribute:=λo _ _=>o) (kSubscript:=λo x _=>r9 [o,x] i)
 (kList:=λaH _=>r9 aH i) (kTuple:=λaH _ _=>r9 aH i) (kCall:=λf aH _ _=>r9 (f::aH) i)
 (kListComp:=λe _ _ _=>e) (kUnaryOp:=λ_ e _=>e)
noncomputable def vx:aU:=.Name "" jQ
def fD(s:cD)(i:Nat):aU:=oS s vx (kExpr:=λe _=>e) (kReturn:=λe _=>e.getD vx) (kAssign:=λ_ e _=>e)
 (kIf:=λt _ _ _=>t) (kWhile:=λt _ _ _=>t) (kFor:=λ_ it _ _ _=>it)
def DO(s:cD)(i:Nat):cD:=oS s s (kIf:=λ_ a b _=>bw (a++b) i) (kWhile:=λ_ a _ _=>bw a i) (kFor:=λ_ _ a _ _=>bw a i) (kTry:=λa _ _ _ _=>bw a i)
def nP(s:cD):aU:=oS s vx (kFor:=λt _ _ _ _=>t)
def Iu(e:aU):Gn:=iP e ⟨vx,vx,[],0⟩ (kListComp:=λ_ aI _ _=>aI.headD ⟨vx,vx,[],0⟩)
def vO(e:aU):aU:=(Iu e).target
def vG(e:aU):jA:=iP e jQ (kListComp:=λ_ _ sc _=>sc)
def ei(s:cD):List cD:=oS s [] (kWhile:=λ_ a _ _=>a) (kFor:=λ_ _ a _ _=>a) (kTry:=λa _ _ _ _=>a)
def ajn(s:cD):Pos:=oS s jQ (kWhile:=λ_ _ _ p=>p)
def m0(e:aU):List aU:=(Iu e).ifs
def vm(s:cD):List cD:=oS s [] (kIf:=λ_ a _ _=>a)
abbrev cM:=a1->List L->an->(L->an->Prop)->Prop
abbrev b3:=L->an->Prop
abbrev ez:=jw->Loc->an->Prop
noncomputable abbrev dI:=List UInt8
abbrev aw(n:Nat):cM:=Ec False n
noncomputable def ed(C:cM)(ct:List cD)(ax:ds)(K:ez):jw->Loc->an->Prop:=λdn m H=>match dn with
 | .next=>b1 False C ct ax m H K
 |dn=>K dn m H
def dM(k:b3):jw->Loc->an->Prop:=λdn _ H=>k (Ea dn) H
theorem EX{C:cM}{st:cD}{ss ct:List cD}{ax:ds}{m:Loc}{H:an}{k:ez}(e1:ss=st::ct)(dh:st=.While (fD st 0) (ei st) [] (ajn st))
  (h:l3 False (λm H q=>ge False C (fD st 0) (λH k=>bO False C (fD st 0) ax m H k) ax m H q) (λm H q=>b1 False C (ei st) ax m H q) f6 m H (ed C ct ax k)):b1 False C ss ax m H k:=by
 rw [e1,Uc,dh,Ub];exact h
theorem Bk{n:Nat}{f:a1}{st:cD}{vs:List L}{H:an}{k:b3}{ss:List cD}{m:Loc}(e:r3 f=J st)(jL:¬f=917)(aQ:eg (vs.length=(fF st).args.length)=ae)
  (aH:aW st=ss) (hJ:((fF st).args.map (·.arg)).zip vs=m) (h:b1 False (aw n) ss (dO st).names m H (dM k)):aw (n+1) f vs H k:=by
 show(if f=917 then Bj False vs H k else tn False (aw n) f vs H k)
 rw [a8 jL];unfold tn;rw [e];show if vs.length=(fF st).args.length then _ else False
 rw [aY (of_decide_eq_true aQ),aH,hJ];exact h
theorem XY{C:cM}{ss ct:List cD}{ax:ds}{K:ez}{m:Loc}{H:an}(e:ct=ss)(h:b1 False C ss ax m H K):ed C ct ax K .next m H:=by
 subst e;exact h
section
variable {n:Nat}{C:cM}{m:Loc}{bR aN kS self bC er dA dc data uQ wQ gx nH ap part nA e8 ik jP qz mY PG b0 tQ row cZ one fe ep fg ct gS fG ev e3 pair i6 h3:L}{H:an}{k:b3}{q K:ez}
theorem Yj(h:let C:=aw n;aF (a5 .BitAnd kS (L.int 255) H) λgK cN=>aj (fS bR (.at_ aN) gK cN) λcg=>aF (a5 .RShift kS (L.int 8) cg) λnU eQ=>aF (a5 .BitAnd nU (L.int 255) eQ) λlw dr=>aF (a5 .Add aN (L.int 1) dr) λi9 dN=>aj (fS bR (.at_ i9) lw dN) λh7=>k L.none h7):aw (n+1) 118 [bR,aN,kS] H k:=bZ (by kernel_rfl) h
theorem Yk(h:let C:=aw n;aF (a5 .BitAnd kS (L.int 65535) H) λgK cN=>C 118 [bR,aN,gK] cN λgJ eD=>aF (a5 .Add aN (L.int 2) eD) λgB cx=>aF (a5 .RShift kS (L.int 16) cx) λnV gi=>aF (a5 .BitAnd nV (L.int 65535) gi) λkR h7=>C 118 [bR,gB,kR] h7 λanm o1=>k L.none o1):aw (n+1) 125 [bR,aN,kS] H k:=bZ (by kernel_rfl) h
theorem Yl(h:let C:=aw n;aj (aV self lA H) λaz=>aj (aV self (z "indirect") H) λaT=>aF (a5 .Add az aT H) λl1 eD=>k l1 eD):aw (n+1) 154 [self] H k:=bZ (by kernel_rfl) h
theorem Ym(h:let C:=aw n;aj (aV self iY H) λaz=>aj (bx self (z "most_blocks") H) λdy=>bB False C dy [] H λgJ eD=>aF (a5 .Mult az gJ eD) λgB cx=>k gB cx):aw (n+1) 161 [self] H k:=bZ (by kernel_rfl) h
theorem Yn(h:let C:=aw n;aj (aV self BM H) λaz=>aj (aV self eP H) λaT=>aF (a5 .FloorDiv bC aT H) λl1 eD=>aF (a5 .Add az l1 eD) λgB cx=>aj (aV self eP cx) λmE=>aF (a5 .Mod bC mE cx) λi9 dN=>aj (aV self jc dN) λsx=>aF (a5 .Mult i9 sx dN) λkP o1=>eq o1 (.tup [gB,kP]) λil jg=>k il jg):aw (n+1) 182 [self,bC] H k:=bZ (by kernel_rfl) h
def VL(C:cM)(self:L)(cN:an)(gK bC:L)(k:b3):Prop:=aj (aV self BL cN) λca=>aj (aV self iY cN) λc7=>aF (a5 .FloorDiv gK c7 cN) λgB cx=>aF (a5 .Add ca gB cx) λnV gi=>aj (aV self iY gi) λlx=>aF (a5 .Mod gK lx gi) λfT eh=>aF (a5 .BitAnd bC (L.int 7) eh) λdY gt=>aF (a5 .LShift (L.int 1) dY gt) λh2 fb=>eq fb (.tup [nV,fT,h2]) λkc fv=>k kc fv
theorem Yo(h:let C:=aw n;aF (a5 .RShift bC (L.int 3) H) λgK cN=>VL C self cN gK bC k):aw (n+1) 189 [self,bC] H k:=bZ (by kernel_rfl) h
def uA:ds:=(dO (aL 22 3)).names
def Fa:aU:=nP (bw (aW (aL 22 3)) 5)
def VN(C:cM)(self:L)(hP:an)(bR aN:L)(k:b3):Prop:=aj (aV self eC hP) λmD=>lp mD hP λafA=>gR False uA Fa (λm H q=>b1 False C (ei (bw (aW (aL 22 3)) 5)) uA m H q) (.enum afA) f6 0 [(bQ,self),(d2,bR),(e4,aN)] hP (ed C ((aW (aL 22 3)).drop 6) uA (dM k))
def VO(C:cM)(aN:L)(gt:an)(self bR:L)(k:b3):Prop:=aF (a5 .Add aN (L.int 6) gt) λh2 fb=>aj (aV self (z "links") fb) λnW=>C 118 [bR,h2,nW] fb λKC lC=>aF (a5 .Add aN (L.int 8) lC) λvQ lD=>aj (aV self dH lD) λMd=>C 125 [bR,vQ,Md] lD λKJ hP=>VN C self hP bR aN k
def VP(C:cM)(aN:L)(cg:an)(self bR:L)(k:b3):Prop:=aF (a5 .Add aN (L.int 2) cg) λnU eQ=>aj (aV self (z "major") eQ) λh4=>C 118 [bR,nU,h4] eQ λS3 gi=>aF (a5 .Add aN (L.int 4) gi) λkR h7=>aj (aV self (z "minor") h7) λv2=>C 118 [bR,kR,v2] h7 λoP gt=>VO C aN gt self bR k
theorem Yp(h:let C:=aw n;aj (aV self (z "kind") H) λaz=>C 118 [bR,aN,az] H λdG cg=>VP C aN cg self bR k):aw (n+1) 229 [self,bR,aN] H k:=bZ (by kernel_rfl) h
theorem LS(h:let C:=aw n;aF (a5 .Add aN (L.int 12) H) λmx hE=>aF (a5 .Mult (L.int 4) er hE) λsq gD=>aF (a5 .Add mx sq gD) λnS i0=>C 125 [bR,nS,bC] i0 λoQ mb=>q .next [(bQ,self),(d2,bR),(e4,aN),(dQ,er),(bS,bC)] mb):b1 False (aw n) (ei (bw (aW (aL 22 3)) 5)) uA [(bQ,self),(d2,bR),(e4,aN),(dQ,er),(bS,bC)] H q:=bZ (by kernel_rfl) h
theorem WU(h:let C:=aw n;k L.none H):(let C:=aw n;ed C ((aW (aL 22 3)).drop 6) uA (dM k) .next [(bQ,self),(d2,bR),(e4,aN),(dQ,er),(bS,bC)] H):=bZ (by kernel_rfl) h
theorem Yq(h:let C:=aw n;aj (aV self eB H) λaz=>aj (bx az mK H) λdy=>bB False C dy [self,dA,bR] H λgJ eD=>k gJ eD):aw (n+1) 250 [self,dA,bR] H k:=bZ (by kernel_rfl) h
theorem Yr(h:let C:=aw n;aj (aV self eB H) λaz=>aj (bx az (z "truncate") H) λdy=>bB False C dy [self] H λgJ eD=>k L.none eD):aw (n+1) 257 [self] H k:=bZ (by kernel_rfl) h
def VQ(C:cM)(self:L)(lC:an)(xu:L)(k:b3):Prop:=aj (aV self hl lC) λsy=>aj (bx sy mK lC) λnx=>bB False C nx [xu] lC λxv g5=>aj (aV self fU g5) λpU=>aj (bx pU o0 g5) λow=>bB False C ow [xu] g5 λvE fC=>k L.none fC
def VR(C:cM)(self:L)(eQ:an)(nV dc kR:L)(k:b3):Prop:=aj (aV self fU eQ) λv2=>aj (bx v2 nY eQ) λrS=>bB False C rS [nV] eQ λxu jg=>aj (bx dc (z "put_row") jg) λpq=>aj (aV xu gf jg) λnW=>bB False C pq [nW,kR] jg λKC lC=>VQ C self lC xu k
theorem Ys(h:let C:=aw n;aj (aV self hO H) λaz=>aj (bx az (z "row_of") H) λdy=>aj (aV dc bS H) λca=>bB False C dy [ca] H λnM eQ=>kz nM eQ 2 λRi=>fP Ri λnV Jw=>fP Jw λkR DQ=>VR C self eQ nV dc kR k):aw (n+1) 335 [self,dc] H k:=bZ (by kernel_rfl) h
def o8:ds:=(dO (aL 23 9)).names
theorem ai9{ct:List cD}(h:aj (aV self hO H) λca=>aj (aV ca v7 H) λc7=>b1 False C ct o8 [(bQ,self),(bS,c7)] H K):b1 False C (bw (aW (aL 23 9)) 0::ct) o8 [(bQ,self)] H K:=bZ (by kernel_rfl) h
theorem Yt(h:let C:=aw n;aj (aV self hO H) λca=>aj (aV ca v7 H) λc7=>b1 False C ((aW (aL 23 9)).drop 1) o8 [(bQ,self),(bS,c7)] H (dM k)):aw (n+1) 363 [self] H k:=Bk (st:=aL 23 9) (ss:=bw (aW (aL 23 9)) 0::((aW (aL 23 9)).drop 1)) (m:=[(bQ,self)]) (by kernel_rfl) (by decide) (by kernel_rfl) (by kernel_rfl) (by kernel_rfl) (ai9 h)
theorem ao5{q:Bool->an->Prop}(h:let C:=aw n;aj (aV self hO H) λeG=>aj (aV eG mG H) λh4=>aj (bW .Lt bC h4 H) λhw=>q hw H):ge False (aw n) (fD (bw (aW (aL 23 9)) 1) 0) (λH k=>bO False (aw n) (fD (bw (aW (aL 23 9)) 1) 0) o8 [(bQ,self),(bS,bC)] H k) o8 [(bQ,self),(bS,bC)] H q:=bZ (by kernel_rfl) h
def VS(C:cM)(i4:Bool)(self:L)(um:an)(e9 dY eV l2 mz:L)(q:ez):Prop:=dU i4 (aj (bx self (z "clear_block") um) λz0=>bB False C z0 [e9] um λas5 uo=>q (.ret e9) [(bQ,self),(bS,e9),(dQ,dY),(oZ,eV),(z "taken",(L.bool i4)),(e4,l2),(z "bit",mz)] uo) (q .next [(bQ,self),(bS,e9),(dQ,dY),(oZ,eV),(z "taken",(L.bool i4)),(e4,l2),(z "bit",mz)] um)
def VT(C:cM)(self:L)(rq:an)(eV:L)(i4:Bool)(e9 dY l2 mz:L)(q:ez):Prop:=aj (aV self hl rq) λarV=>aj (bx arV mK rq) λuV=>bB False C uV [eV] rq λSZ uk=>aj (aV self fU uk) λarW=>aj (bx arW o0 uk) λaa8=>bB False C aa8 [eV] uk λas4 um=>VS C i4 self um e9 dY eV l2 mz q
def VU(C:cM)(eV:L)(kC:an)(l2 mz self:L)(i4:Bool)(e9 dY:L)(q:ez):Prop:=aj (aV eV gf kC) λarT=>aF (cj arT (.at_ l2) kC) λBt ui=>aF (a5 .BitOr Bt mz ui) λvT nk=>aj (aV eV gf nk) λMk=>aj (fS Mk (.at_ l2) vT nk) λrq=>VT C self rq eV i4 e9 dY l2 mz q
def Oi(C:cM)(self:L)(hr:an)(e9 eV:L)(i4:Bool)(dY:L)(q:ez):Prop:=aj (aV self hO hr) λv4=>aj (bx v4 (z "bit_of") hr) λHt=>bB False C Ht [e9] hr λKR iJ=>jJ (eA (L.int 1)) (eA L.none) λLp apF=>aF (cj KR (.sl Lp apF) iJ) λBr kC=>kz Br kC 2 λagv=>fP agv λl2 agx=>fP agx λmz asS=>VU C eV kC l2 mz self i4 e9 dY q
def Oj(C:cM)(i4:Bool)(self:L)(kX:an)(e9 dY eV:L)(q:ez):Prop:=dU i4 (aj (bx self (z "clear_block") kX) λz1=>bB False C z1 [e9] kX λS2 y4=>q (.ret e9) [(bQ,self),(bS,e9),(dQ,dY),(oZ,eV),(z "taken",(L.bool i4))] y4) (q .next [(bQ,self),(bS,e9),(dQ,dY),(oZ,eV),(z "taken",(L.bool i4))] kX)
def VV(C:cM)(self:L)(g4:an)(e9 dY eV:L)(q:ez):Prop:=aj (aV self hO g4) λsA=>aj (aV sA mG g4) λpU=>aj (bW .Lt e9 pU g4) λow=>dU ow (aj (aV self hO g4) λMf=>aj (bx Mf (z "bit_of") g4) λHp=>bB False C Hp [e9] g4 λKN jh=>aF (cj KN (.at_ (L.int 0)) jh) λsr hr=>aj (bW .Eq sr dY hr) λi4=>dU i4 (Oi C self hr e9 eV i4 dY q) (aj (aV self fU hr) λarX=>aj (bx arX o0 hr) λabd=>bB False C abd [eV] hr λS1 kX=>Oj C i4 self kX e9 dY eV q)) (dU ow (Oi C self g4 e9 eV ow dY q) (aj (aV self fU g4) λarL=>aj (bx arL o0 g4) λaax=>bB False C aax [eV] g4 λSR Fq=>Oj C ow self Fq e9 dY eV q))
def VW(C:cM)(self:L)(gt:an)(dY bC:L)(q:ez):Prop:=aj (aV self fU gt) λL6=>aj (bx L6 nY gt) λpq=>bB False C pq [dY] gt λeV fv=>aj (bx self (z "free_bit") fv) λaaI=>aj (aV eV gf fv) λsy=>bB False C aaI [sy,dY,bC] fv λe9 g4=>VV C self g4 e9 dY eV q
theorem aqB(h:let C:=aw n;aj (aV self hO H) λpV=>aj (bx pV (z "bit_of") H) λuY=>bB False C uY [bC] H λm7 eh=>aF (cj m7 (.at_ (L.int 0)) eh) λdY gt=>VW C self gt dY bC q):b1 False (aw n) (ei (bw (aW (aL 23 9)) 1)) o8 [(bQ,self),(bS,bC)] H q:=bZ (by kernel_rfl) h
theorem agt{C:a1->List L->an->(L->an->Prop)->Prop}(h:l3 False (λm H q=>ge False C (fD (bw (aW (aL 23 9)) 1) 0) (λH k=>bO False C (fD (bw (aW (aL 23 9)) 1) 0) o8 m H k) o8 m H q) (λm H q=>b1 False C (ei (bw (aW (aL 23 9)) 1)) o8 m H q) f6 m H (ed C ((aW (aL 23 9)).drop 2) o8 q)):b1 False C ((aW (aL 23 9)).drop 1) o8 m H q:=EX (st:=(bw (aW (aL 23 9)) 1)) (by kernel_rfl) (by kernel_rfl) h
def jS:ds:=(dO (aL 23 10)).names
theorem Yu(h:b1 False (aw n) ((aW (aL 23 10)).drop 0) jS [(bQ,self),(gf,data),(dQ,er),(bS,bC)] H (dM k)):aw (n+1) 370 [self,data,er,bC] H k:=Bk (st:=aL 23 10) (by kernel_rfl) (by decide) (by kernel_rfl) (by kernel_rfl) (by kernel_rfl) h
theorem ao6{q:Bool->an->Prop}(h:let C:=aw n;aj (aV self hO H) λaz=>aj (aV az mG H) λaT=>aj (bW .Lt bC aT H) λeT=>q eT H):ge False (aw n) (fD (bw (aW (aL 23 10)) 0) 0) (λH k=>bO False (aw n) (fD (bw (aW (aL 23 10)) 0) 0) jS [(bQ,self),(gf,data),(dQ,er),(bS,bC)] H k) jS [(bQ,self),(gf,data),(dQ,er),(bS,bC)] H q:=bZ (by kernel_rfl) h
def Ok(C:cM)(kR er:L)(dr:an)(bC self data kP il:L)(q:ez):Prop:=aj (bW .NotEq kR er dr) λpq=>bo .Or pq (q (.ret bC) [(bQ,self),(gf,data),(dQ,er),(bS,bC),(iY,kR),(e4,kP),(z "bit",il)] dr) (aF (cj data (.at_ kP) dr) λkc fv=>aF (a5 .BitAnd kc il fv) λpR g3=>aj (bW .Eq pR (L.int 0) g3) λnx=>bo .Or nx (q (.ret bC) [(bQ,self),(gf,data),(dQ,er),(bS,bC),(iY,kR),(e4,kP),(z "bit",il)] g3) (aF (a5 .Add bC (L.int 1) g3) λlv g5=>q .next [(bQ,self),(gf,data),(dQ,er),(bS,lv),(iY,kR),(e4,kP),(z "bit",il)] g5))
theorem aqC(h:let C:=aw n;aj (aV self hO H) λc7=>aj (bx c7 (z "bit_of") H) λkK=>bB False C kK [bC] H λhd dr=>kz hd dr 3 λJw=>fP Jw λkR DQ=>fP DQ λkP Jr=>fP Jr λil Rc=>Ok C kR er dr bC self data kP il q):b1 False (aw n) (ei (bw (aW (aL 23 10)) 0)) jS [(bQ,self),(gf,data),(dQ,er),(bS,bC)] H q:=bZ (by kernel_rfl) h
theorem ao7{q:Bool->an->Prop}(h:let C:=aw n;aj (aV self hO H) λpU=>aj (aV pU mG H) λmD=>aj (bW .Lt bC mD H) λuU=>q uU H):ge False (aw n) (fD (bw (aW (aL 23 10)) 0) 0) (λH k=>bO False (aw n) (fD (bw (aW (aL 23 10)) 0) 0) jS [(bQ,self),(gf,data),(dQ,er),(bS,bC),(iY,uQ),(e4,aN),(z "bit",wQ)] H k) jS [(bQ,self),(gf,data),(dQ,er),(bS,bC),(iY,uQ),(e4,aN),(z "bit",wQ)] H q:=bZ (by kernel_rfl) h
theorem aqD(h:let C:=aw n;aj (aV self hO H) λarN=>aj (bx arN (z "bit_of") H) λny=>bB False C ny [bC] H λKP gD=>kz KP gD 3 λagp=>fP agp λvS agr=>fP agr λiG ags=>fP ags λmy asR=>Ok C vS er gD bC self data iG my q):b1 False (aw n) (ei (bw (aW (aL 23 10)) 0)) jS [(bQ,self),(gf,data),(dQ,er),(bS,bC),(iY,uQ),(e4,aN),(z "bit",wQ)] H q:=bZ (by kernel_rfl) h
theorem agu{C:a1->List L->an->(L->an->Prop)->Prop}(h:l3 False (λm H q=>ge False C (fD (bw (aW (aL 23 10)) 0) 0) (λH k=>bO False C (fD (bw (aW (aL 23 10)) 0) 0) jS m H k) jS m H q) (λm H q=>b1 False C (ei (bw (aW (aL 23 10)) 0)) jS m H q) f6 m H (ed C ((aW (aL 23 10)).drop 1) jS q)):b1 False C ((aW (aL 23 10)).drop 0) jS m H q:=EX (st:=(bw (aW (aL 23 10)) 0)) (by kernel_rfl) (by kernel_rfl) h
def VX(C:cM)(self:L)(dr:an)(gJ:L)(k:b3):Prop:=aj (aV self hl dr) λpV=>aj (bx pV mK dr) λuY=>bB False C uY [gJ] dr λm7 eh=>aj (aV self fU eh) λmC=>aj (bx mC o0 eh) λpo=>bB False C po [gJ] eh λvD fb=>k L.none fb
theorem Yv(h:let C:=aw n;aj (aV self fU H) λaz=>aj (bx az nY H) λdy=>bB False C dy [bC] H λgJ eD=>aj (bx gJ (z "clear") eD) λkK=>bB False C kK [] eD λhd dr=>VX C self dr gJ k):aw (n+1) 377 [self,bC] H k:=bZ (by kernel_rfl) h
def VY(C:cM)(self:L)(fJ:an)(e9:L)(ny:Bool)(k:b3):Prop:=aj (aV self hl fJ) λarO=>aj (bx arO mK fJ) λHv=>bB False C Hv [e9] fJ λSU i1=>aj (aV self fU i1) λMi=>aj (bx Mi o0 i1) λaaV=>bB False C aaV [e9] i1 λSW rn=>dU (!ny) (False) (k L.none rn)
def VZ(C:cM)(ny:Bool)(e9:L)(fC:an)(h2 kc self:L)(k:b3):Prop:=dU ny (aj (aV e9 gf fC) λBH=>aF (cj BH (.at_ h2) fC) λsr hr=>aF (a5 .Sub sr kc hr) λvS iI=>aj (aV e9 gf iI) λBJ=>aj (fS BJ (.at_ h2) vS iI) λfJ=>VY C self fJ e9 ny k) (aj (aV self fU fC) λarS=>aj (bx arS o0 fC) λHy=>bB False C Hy [e9] fC λSX FM=>dU (!ny) (False) (k L.none FM))
def V0(C:cM)(self:L)(h7:an)(dY h2 kc:L)(k:b3):Prop:=aj (aV self fU h7) λv3=>aj (bx v3 nY h7) λuT=>bB False C uT [dY] h7 λe9 g4=>aj (aV e9 gf g4) λsA=>aF (cj sA (.at_ h2) g4) λkd ni=>aF (a5 .BitAnd kd kc ni) λl0 fC=>aj (bW .NotEq l0 (L.int 0) fC) λny=>VZ C ny e9 fC h2 kc self k
theorem Yw(h:let C:=aw n;aj (aV self hO H) λaz=>aj (aV az v7 H) λaT=>aj (bW .LtE aT bC H) λeT=>dU eT (aj (aV self hO H) λc7=>aj (aV c7 mG H) λeG=>aj (bW .Lt bC eG H) λuX=>dU (!uX) (False) (aj (aV self hO H) λmE=>aj (bx mE (z "bit_of") H) λlh=>bB False C lh [bC] H λKW h7=>kz KW h7 3 λvt=>fP vt λdY Js=>fP Js λh2 agk=>fP agk λkc Rd=>V0 C self h7 dY h2 kc k)) (False)):aw (n+1) 384 [self,bC] H k:=bZ (by kernel_rfl) h
def V1(C:cM)(self:L)(cx:an)(dc gx:L)(k:b3):Prop:=aj (bx self (z "take_block") cx) λpq=>bB False C pq [] cx λeV fv=>aj (aV dc eC fv) λv3=>aj (fS v3 (.at_ gx) eV fv) λg3=>aj (aV dc eC g3) λBG=>aF (cj BG (.at_ gx) g3) λlv g5=>k lv g5
def V2(C:cM)(dc:L)(H:an)(gx nH self:L)(k:b3):Prop:=aj (aV dc eC H) λc7=>aF (cj c7 (.at_ gx) H) λgB cx=>aj (bW .Eq gB (L.int 0) cx) λhw=>bo .And hw (aj (aV dc eC cx) λpV=>aF (cj pV (.at_ gx) cx) λkR h7=>k kR h7) (aj (ky nH) λnv=>bo .And nv (aj (aV dc eC cx) λmC=>aF (cj mC (.at_ gx) cx) λil jg=>k il jg) (V1 C self cx dc gx k))
def V3(C:cM)(self:L)(hr:an)(dc aT gx nH:L)(k:b3):Prop:=aj (bx self (z "take_block") hr) λHt=>bB False C Ht [] hr λKR iJ=>aj (aV dc eC iJ) λarP=>aj (fS arP (.at_ aT) KR iJ) λkW=>aj (bx self (z "named_block") kW) λaaS=>aj (aV dc eC kW) λMi=>aF (cj Mi (.at_ aT) kW) λBs nj=>aF (a5 .Sub gx aT nj) λLG ro=>bB False C aaS [Bs,LG,nH] ro λKT o3=>k KT o3
def V4(C:cM)(dc:L)(fC:an)(aT nH self gx:L)(k:b3):Prop:=aj (aV dc eC fC) λBH=>aF (cj BH (.at_ aT) fC) λsr hr=>aj (bW .Eq sr (L.int 0) hr) λi4=>dU i4 (aj (ky nH) λzX=>dU (!zX) (k (L.int 0) hr) (V3 C self hr dc aT gx nH k)) (aj (bx self (z "named_block") hr) λaa1=>aj (aV dc eC hr) λarU=>aF (cj arU (.at_ aT) hr) λvT nk=>aF (a5 .Sub gx aT nk) λLI rq=>bB False C aa1 [vT,LI,nH] rq λSY uj=>k SY uj)
def V5(C:cM)(gx aT:L)(H:an)(dc nH self:L)(k:b3):Prop:=aj (bW .Lt gx aT H) λeT=>dU eT (V2 C dc H gx nH self k) (aj (aV self hO H) λpU=>aj (bx pU (z "most_blocks") H) λow=>bB False C ow [] H λvE fC=>aj (bW .GtE gx vE fC) λny=>dU ny (False) (V4 C dc fC aT nH self gx k))
theorem Yx(h:let C:=aw n;aj (aV self hO H) λaz=>aj (aV az lA H) λaT=>V5 C gx aT H dc nH self k):aw (n+1) 398 [self,dc,gx,nH] H k:=bZ (by kernel_rfl) h
def jm:ds:=(dO (aL 23 17)).names
theorem aja{ct:List cD}(h:aj (bW .Lt dA (L.int 0) H) λnv=>dU nv (False) (aF (cI (.builtin "len") [bR] H) λoP gt=>aF (a5 .Add dA oP gt) λh2 fb=>aj (aV self hO fb) λnW=>aj (bx nW (z "most_size") fb) λnw=>bB False C nw [] fb λtS g3=>aj (bW .Gt h2 tS g3) λnx=>dU nx (False) (b1 False C ct jm [(bQ,self),(h5,dc),(gT,dA),(d2,bR),(hC,(L.int 0))] g3 K))):b1 False C (bw (aW (aL 23 17)) 0::bw (aW (aL 23 17)) 1::bw (aW (aL 23 17)) 2::ct) jm [(bQ,self),(h5,dc),(gT,dA),(d2,bR)] H K:=bZ (by kernel_rfl) h
theorem Yy(h:let C:=aw n;aj (bW .Lt dA (L.int 0) H) λnv=>dU nv (False) (aF (cI (.builtin "len") [bR] H) λoP gt=>aF (a5 .Add dA oP gt) λh2 fb=>aj (aV self hO fb) λnW=>aj (bx nW (z "most_size") fb) λnw=>bB False C nw [] fb λtS g3=>aj (bW .Gt h2 tS g3) λnx=>dU nx (False) (b1 False C ((aW (aL 23 17)).drop 3) jm [(bQ,self),(h5,dc),(gT,dA),(d2,bR),(hC,(L.int 0))] g3 (dM k)))):aw (n+1) 419 [self,dc,dA,bR] H k:=Bk (st:=aL 23 17) (ss:=bw (aW (aL 23 17)) 0::bw (aW (aL 23 17)) 1::bw (aW (aL 23 17)) 2::((aW (aL 23 17)).drop 3)) (m:=[(bQ,self),(h5,dc),(gT,dA),(d2,bR)]) (by kernel_rfl) (by decide) (by kernel_rfl) (by kernel_rfl) (by kernel_rfl) (aja h)
theorem TF{q:Bool->an->Prop}(h:let C:=aw n;aF (cI (.builtin "len") [bR] H) λxv g5=>aj (bW .Lt ap xv g5) λtr=>bo .And tr (q aA g5) (aj (aV self hl g5) λmD=>aj (bx mD (z "left") g5) λuU=>bB False C uU [] g5 λD8 hE=>aj (bW .GtE D8 (L.int 4) hE) λHr=>bo .And Hr (q aA hE) (q ae hE))):ge False (aw n) (fD (bw (aW (aL 23 17)) 3) 0) (λH k=>bO False (aw n) (fD (bw (aW (aL 23 17)) 3) 0) jm [(bQ,self),(h5,dc),(gT,dA),(d2,bR),(hC,ap)] H k) jm [(bQ,self),(h5,dc),(gT,dA),(d2,bR),(hC,ap)] H q:=bZ (by kernel_rfl) h
def Ol(C:cM)(oQ:L)(mb:an)(self dc dA bR ap:L)(q:ez):Prop:=aj (bW .Eq oQ (L.int 0) mb) λHu=>dU Hu (q .brk [(bQ,self),(h5,dc),(gT,dA),(d2,bR),(hC,ap),(mJ,oQ)] mb) (aF (a5 .Add ap oQ mb) λmy iw=>q .next [(bQ,self),(h5,dc),(gT,dA),(d2,bR),(hC,my),(mJ,oQ)] iw)
theorem aqE(h:let C:=aw n;aj (bx self (z "write_part") H) λHs=>aF (a5 .Add dA ap H) λnS i0=>bB False C Hs [dc,nS,bR,ap] i0 λoQ mb=>Ol C oQ mb self dc dA bR ap q):b1 False (aw n) (ei (bw (aW (aL 23 17)) 3)) jm [(bQ,self),(h5,dc),(gT,dA),(d2,bR),(hC,ap)] H q:=bZ (by kernel_rfl) h
theorem TG{q:Bool->an->Prop}(h:let C:=aw n;aF (cI (.builtin "len") [bR] H) λSU i1=>aj (bW .Lt ap SU i1) λHw=>bo .And Hw (q aA i1) (aj (aV self hl i1) λarR=>aj (bx arR (z "left") i1) λaaW=>bB False C aaW [] i1 λKS ro=>aj (bW .GtE KS (L.int 4) ro) λHy=>bo .And Hy (q aA ro) (q ae ro))):ge False (aw n) (fD (bw (aW (aL 23 17)) 3) 0) (λH k=>bO False (aw n) (fD (bw (aW (aL 23 17)) 3) 0) jm [(bQ,self),(h5,dc),(gT,dA),(d2,bR),(hC,ap),(mJ,part)] H k) jm [(bQ,self),(h5,dc),(gT,dA),(d2,bR),(hC,ap),(mJ,part)] H q:=bZ (by kernel_rfl) h
theorem aqF(h:let C:=aw n;aj (bx self (z "write_part") H) λHz=>aF (a5 .Add dA ap H) λBt ui=>bB False C Hz [dc,Bt,bR,ap] ui λanC nk=>Ol C anC nk self dc dA bR ap q):b1 False (aw n) (ei (bw (aW (aL 23 17)) 3)) jm [(bQ,self),(h5,dc),(gT,dA),(d2,bR),(hC,ap),(mJ,part)] H q:=bZ (by kernel_rfl) h
theorem agw{C:a1->List L->an->(L->an->Prop)->Prop}(h:l3 False (λm H q=>ge False C (fD (bw (aW (aL 23 17)) 3) 0) (λH k=>bO False C (fD (bw (aW (aL 23 17)) 3) 0) jm m H k) jm m H q) (λm H q=>b1 False C (ei (bw (aW (aL 23 17)) 3)) jm m H q) f6 m H (ed C ((aW (aL 23 17)).drop 4) jm q)):b1 False C ((aW (aL 23 17)).drop 3) jm m H q:=EX (st:=(bw (aW (aL 23 17)) 3)) (by kernel_rfl) (by kernel_rfl) h
def Om(C:cM)(ap:L)(H:an)(self dc dA:L)(k:b3):Prop:=aj (bW .Gt ap (L.int 0) H) λuV=>bo .And uV (aj (bx self q9 H) λzZ=>bB False C zZ [dc] H λS0 ul=>k ap ul) (aF (a5 .Add dA ap H) λLK o4=>aj (aV dc dH o4) λMl=>aj (bW .Gt LK Ml o4) λz0=>bo .And z0 (aj (bx self q9 o4) λHC=>bB False C HC [dc] o4 λanD FN=>k ap FN) (aF (a5 .Add dA ap o4) λLL FP=>aj (ft dc dH LL FP) λkX=>aj (bx self q9 kX) λz1=>bB False C z1 [dc] kX λS2 y4=>k ap y4))
theorem WV(h:let C:=aw n;Om C ap H self dc dA k):(let C:=aw n;ed C ((aW (aL 23 17)).drop 4) jm (dM k) .next [(bQ,self),(h5,dc),(gT,dA),(d2,bR),(hC,ap)] H):=bZ (by kernel_rfl) h
theorem WW(h:let C:=aw n;Om C ap H self dc dA k):(let C:=aw n;ed C ((aW (aL 23 17)).drop 4) jm (dM k) .next [(bQ,self),(h5,dc),(gT,dA),(d2,bR),(hC,ap),(mJ,part)] H):=bZ (by kernel_rfl) h
def V6(C:cM)(self:L)(kW:an)(sd e9:L)(k:b3):Prop:=aj (aV self hl kW) λarQ=>aj (bx arQ mK kW) λHw=>bB False C Hw [sd] kW λSV nj=>aj (aV self fU nj) λMj=>aj (bx Mj o0 nj) λHx=>bB False C Hx [sd] nj λKT o3=>k e9 o3
def V7(C:cM)(ap e9:L)(mN:an)(bR sd fT self:L)(k:b3):Prop:=aF (a5 .Add ap e9 mN) λmx hE=>jJ (eA ap) (eA mx) λapC Lo=>aF (cj bR (.sl apC Lo) hE) λnS i0=>aj (aV sd gf i0) λv4=>aF (a5 .Add fT e9 i0) λiG fJ=>jJ (eA fT) (eA iG) λapE Lp=>aj (fS v4 (.sl apE Lp) nS fJ) λkW=>V6 C self kW sd e9 k
def V8(C:cM)(self:L)(eh:an)(fT bR ap hd:L)(k:b3):Prop:=aj (aV self hO eh) λmC=>aj (aV mC iY eh) λBF=>aF (a5 .Sub BF fT eh) λh2 fb=>aF (cI (.builtin "len") [bR] fb) λeV fv=>aF (a5 .Sub eV ap fv) λpR g3=>aF (cI (.builtin "min") [h2,pR] g3) λe9 g4=>aj (aV self fU g4) λsA=>aj (bx sA nY g4) λtr=>bB False C tr [hd] g4 λsd mN=>V7 C ap e9 mN bR sd fT self k
theorem Yz(h:let C:=aw n;aj (bx self (z "block_of") H) λdv=>aj (aV self hO H) λaT=>aj (aV aT iY H) λca=>aF (a5 .FloorDiv dA ca H) λnU eQ=>bB False C dv [dc,nU,(L.bool ae)] eQ λhd dr=>aj (aV self hO dr) λpV=>aj (aV pV iY dr) λlx=>aF (a5 .Mod dA lx dr) λfT eh=>V8 C self eh fT bR ap hd k):aw (n+1) 426 [self,dc,dA,bR,ap] H k:=bZ (by kernel_rfl) h
def o9:ds:=(dO (aL 23 19)).names
def Fb:aU:=nP (bw (aW (aL 23 19)) 1)
def Uu:aU:=nP (DO (bw (aW (aL 23 19)) 3) 0)
theorem YA(h:let C:=aw n;aj (aV self hO H) λaz=>aj (aV az lA H) λaT=>aj (lV [aT]) λr8=>gR False o9 Fb (λm H q=>b1 False C (ei (bw (aW (aL 23 19)) 1)) o9 m H q) (.items r8) f6 0 [(bQ,self),(h5,dc),(lA,aT)] H (ed C ((aW (aL 23 19)).drop 2) o9 (dM k))):aw (n+1) 433 [self,dc] H k:=bZ (by kernel_rfl) h
def V9(C:cM)(self:L)(cx:an)(dc gx nA:L)(q:ez):Prop:=aj (bx self (z "give_block") cx) λlh=>aj (aV dc eC cx) λlx=>aF (cj lx (.at_ gx) cx) λfT eh=>bB False C lh [fT] eh λoP gt=>q .next [(bQ,self),(h5,dc),(lA,nA),(mI,gx)] gt
theorem TX(h:let C:=aw n;aj (aV dc eC H) λc7=>aF (cj c7 (.at_ gx) H) λgB cx=>aj (bW .NotEq gB (L.int 0) cx) λhw=>dU hw (V9 C self cx dc gx nA q) (q .next [(bQ,self),(h5,dc),(lA,nA),(mI,gx)] cx)):b1 False (aw n) (ei (bw (aW (aL 23 19)) 1)) o9 [(bQ,self),(h5,dc),(lA,nA),(mI,gx)] H q:=bZ (by kernel_rfl) h
def Wa(C:cM)(kg:an)(nA dc self:L)(k:b3):Prop:=eq kg (.list [(L.int 0)]) λiX hP=>aF (a5 .Add nA (L.int 1) hP) λkQ mN=>aF (a5 .Mult iX kQ mN) λmx hE=>aj (ft dc eC mx hE) λjh=>aj (ft dc dH (L.int 0) jh) λgD=>aj (bx self q9 gD) λrT=>bB False C rT [dc] gD λse iI=>k L.none iI
def Wb(C:cM)(self:L)(iJ:an)(Bq dc nA gx:L)(k:b3):Prop:=aj (bx self (z "names_in") iJ) λzY=>bB False C zY [Bq] iJ λBh kC=>lp Bh kC λafE=>gR False o9 Uu (λm H q=>b1 False C (ei (bw (vm (bw (aW (aL 23 19)) 3)) 0)) o9 m H q) (.lst afE) f6 0 [(bQ,self),(h5,dc),(lA,nA),(mI,gx),(z "names",Bq)] kC (ed C ((vm (bw (aW (aL 23 19)) 3)).drop 1) o9 (ed C ((aW (aL 23 19)).drop 4) o9 (dM k)))
theorem WX(h:let C:=aw n;aj (aV dc eC H) λBJ=>aF (cj BJ (.at_ nA) H) λBq iJ=>aj (bW .NotEq Bq (L.int 0) iJ) λHv=>dU Hv (Wb C self iJ Bq dc nA gx k) (Wa C iJ nA dc self k)):(let C:=aw n;ed C ((aW (aL 23 19)).drop 2) o9 (dM k) .next [(bQ,self),(h5,dc),(lA,nA),(mI,gx)] H):=bZ (by kernel_rfl) h
theorem YB(h:let C:=aw n;aj (ft self bS bC H) λbI=>aF (cI (.type "bytearray") [bR] bI) λdG cg=>aj (ft self gf dG cg) λeD=>aj (ft self iZ (L.int 0) eD) λeQ=>aj (ft self nc (L.int 0) eQ) λcx=>k L.none cx):aw (n+1) 459 [self,bC,bR] H k:=bZ (by kernel_rfl) h
theorem YC(h:let C:=aw n;aj (aV self iZ H) λaz=>aj (bW .Eq az (L.int 0) H) λdy=>dU dy (aj (aV self nc H) λca=>aj (bW .Eq ca (L.int 0) H) λhX=>k (L.bool hX) H) (k (L.bool dy) H)):aw (n+1) 466 [self] H k:=bZ (by kernel_rfl) h
theorem YD(h:let C:=aw n;aj (aV self gf H) λaz=>aF (cI (.type "bytes") [az] H) λdG cg=>k dG cg):aw (n+1) 473 [self] H k:=bZ (by kernel_rfl) h
theorem YE(h:let C:=aw n;aF (cI (.builtin "len") [bR] H) λb9 cN=>aj (aV self gf cN) λca=>aF (cI (.builtin "len") [ca] cN) λnM eQ=>aj (bW .NotEq b9 nM eQ) λuX=>dU uX (False) (aj (aV self gf eQ) λmE=>jJ (eA L.none) (eA L.none) λdi apP=>aj (fS mE (.sl di apP) bR eQ) λh7=>k L.none h7)):aw (n+1) 501 [self,bR] H k:=bZ (by kernel_rfl) h
theorem YF(h:let C:=aw n;aj (aV self gf H) λaz=>aF (cI (.builtin "len") [az] H) λdG cg=>aF (cI (.type "bytes") [dG] cg) λnM eQ=>aj (aV self gf eQ) λh4=>jJ (eA L.none) (eA L.none) λLr di=>aj (fS h4 (.sl Lr di) nM eQ) λdN=>k L.none dN):aw (n+1) 508 [self] H k:=bZ (by kernel_rfl) h
theorem YG(h:let C:=aw n;aF (cI (.builtin "isinstance") [bC,(L.st (.type "int"))] H) λb9 cN=>aj (ky b9) λeT=>bo .Or (!eT) (False) (aj (bW .LtE (L.int 0) bC cN) λhX=>dU hX (aj (aV self dP cN) λeG=>aj (aV eG mG cN) λh4=>aj (bW .Lt bC h4 cN) λhw=>bo .Or (!hw) (False) (k L.none cN)) (False))):aw (n+1) 564 [self,bC] H k:=bZ (by kernel_rfl) h
theorem YH(h:let C:=aw n;aj (aV self sD H) λaz=>aj (bx az nY H) λdy=>aj (aV e8 bS H) λca=>bB False C dy [ca] H λnM eQ=>aj (bW .IsNot nM e8 eQ) λuX=>bo .Or uX (False) (aj (aV e8 iZ eQ) λmE=>aj (bW .Eq mE (L.int 0) eQ) λlh=>bo .Or lh (False) (k L.none eQ))):aw (n+1) 571 [self,e8] H k:=bZ (by kernel_rfl) h
def Wc(C:cM)(self:L)(hP:an)(eV:L)(k:b3):Prop:=aj (aV self jc hP) λmD=>aj (bx mD l4 hP) λuU=>bB False C uU [eV] hP λD8 hE=>aj (aV eV iZ hE) λOE=>kp OE (L.int 1) (a5 .Add OE (L.int 1) hE) λsr hr=>aj (ft eV iZ sr hr) λi0=>k eV i0
def Wd(C:cM)(self:L)(fv:an)(bC eV:L)(k:b3):Prop:=aj (aV self (z "reads") fv) λOC=>kp OC (L.int 1) (a5 .Add OC (L.int 1) fv) λvQ lD=>aj (ft self (z "reads") vQ lD) λg4=>aj (aV self sD g4) λsA=>aj (fS sA (.at_ bC) eV g4) λhP=>Wc C self hP eV k
def We(C:cM)(self:L)(dr:an)(bC:L)(k:b3):Prop:=aj (bx self (z "make_room") dr) λuY=>bB False C uY [] dr λm7 eh=>aj (aV self dP eh) λmC=>aj (bx mC (z "read") eh) λpo=>bB False C po [bC] eh λvD fb=>bB False C (.cls 539 459) [bC,vD] fb λeV fv=>Wd C self fv bC eV k
def Wf(C:cM)(self:L)(dr:an)(hd:L)(k:b3):Prop:=aj (aV self (z "hits") dr) λzO=>kp zO (L.int 1) (a5 .Add zO (L.int 1) dr) λiG fJ=>aj (ft self (z "hits") iG fJ) λiJ=>aj (aV hd iZ iJ) λOF=>kp OF (L.int 1) (a5 .Add OF (L.int 1) iJ) λnT i1=>aj (ft hd iZ nT i1) λkC=>k hd kC
theorem YI(h:let C:=aw n;aj (bx self (z "need_block") H) λdv=>bB False C dv [bC] H λdG cg=>aj (aV self sD cg) λc7=>aj (bx c7 nY cg) λkK=>bB False C kK [bC] cg λhd dr=>aj (bW .Is hd L.none dr) λlh=>dU lh (We C self dr bC k) (Wf C self dr hd k)):aw (n+1) 578 [self,bC] H k:=bZ (by kernel_rfl) h
def rv:ds:=(dO (aL 26 4)).names
def BN:aU:=nP (bw (aW (aL 26 4)) 1)
theorem YJ(h:let C:=aw n;aj (aV self jc H) λaz=>aF (cI (.builtin "len") [az] H) λdG cg=>aj (aV self nZ cg) λc7=>aj (bW .Lt dG c7 cg) λkK=>dU kK (k L.none cg) (aj (aV self jc cg) λh4=>lp h4 cg λJb=>gR False rv BN (λm H q=>b1 False C (ei (bw (aW (aL 26 4)) 1)) rv m H q) (.enum Jb) f6 0 [(bQ,self)] cg (ed C ((aW (aL 26 4)).drop 2) rv (dM k)))):aw (n+1) 585 [self] H k:=bZ (by kernel_rfl) h
def Wg(C:cM)(self:L)(h7:an)(e8 er:L)(q:ez):Prop:=aj (aV self sD h7) λmC=>aj (aV e8 bS h7) λBF=>aj (pv mC BF h7) λjg=>aj (aV self jc jg) λL7=>aj (pv L7 er jg) λkg=>q (.ret L.none) [(bQ,self),(dQ,er),(oZ,e8)] kg
theorem aqG(h:let C:=aw n;aj (bx e8 (z "is_free") H) λlh=>bB False C lh [] H λKW h7=>aj (ky KW) λnv=>dU nv (Wg C self h7 e8 er q) (q .next [(bQ,self),(dQ,er),(oZ,e8)] h7)):b1 False (aw n) (ei (bw (aW (aL 26 4)) 1)) rv [(bQ,self),(dQ,er),(oZ,e8)] H q:=bZ (by kernel_rfl) h
def Wh(C:cM)(self:L)(dr:an)(e8:L)(k:b3):Prop:=aj (aV self jc dr) λsx=>aj (bx sx (z "remove") dr) λnv=>bB False C nv [e8] dr λoP gt=>aj (aV self jc gt) λL6=>aj (bx L6 l4 gt) λpq=>bB False C pq [e8] gt λeV fv=>k L.none fv
def Wi(C:cM)(e8:L)(cg:an)(self:L)(k:b3):Prop:=aj (aV e8 iZ cg) λlf=>kp lf (L.int 1) (a5 .Sub lf (L.int 1) cg) λgB cx=>aj (ft e8 iZ gB cx) λdr=>aj (aV e8 iZ dr) λpV=>aj (bW .Eq pV (L.int 0) dr) λuY=>dU uY (Wh C self dr e8 k) (k L.none dr)
theorem YK(h:let C:=aw n;aj (bx self (z "need_held") H) λdv=>bB False C dv [e8] H λdG cg=>Wi C e8 cg self k):aw (n+1) 592 [self,e8] H k:=bZ (by kernel_rfl) h
theorem YL(h:let C:=aw n;aj (bx self (z "need_held") H) λdv=>bB False C dv [e8] H λdG cg=>aj (aV e8 nc cg) λlf=>kp lf (L.int 1) (a5 .Add lf (L.int 1) cg) λgB cx=>aj (ft e8 nc gB cx) λdr=>k L.none dr):aw (n+1) 599 [self,e8] H k:=bZ (by kernel_rfl) h
def Wj(C:cM)(gJ:L)(eD:an)(k:b3):Prop:=aj (bW .Is gJ L.none eD) λkK=>bo .Or kK (False) (aj (aV gJ nc eD) λh4=>aj (bW .Eq h4 (L.int 0) eD) λhw=>bo .Or hw (False) (aj (aV gJ nc eD) λrO=>kp rO (L.int 1) (a5 .Sub rO (L.int 1) eD) λkR h7=>aj (ft gJ nc kR h7) λeh=>k L.none eh))
theorem YM(h:let C:=aw n;aj (aV self sD H) λaz=>aj (bx az nY H) λdy=>bB False C dy [bC] H λgJ eD=>Wj C gJ eD k):aw (n+1) 606 [self,bC] H k:=bZ (by kernel_rfl) h
def Wk(C:cM)(self:L)(cg:an)(e8:L)(k:b3):Prop:=aj (aV self dP cg) λc7=>aj (bx c7 mK cg) λkK=>aj (aV e8 bS cg) λh4=>aj (bx e8 d2 cg) λhw=>bB False C hw [] cg λnN dN=>bB False C kK [h4,nN] dN λm7 eh=>aj (aV self eX eh) λOz=>kp Oz (L.int 1) (a5 .Add Oz (L.int 1) eh) λil jg=>aj (ft self eX il jg) λfb=>k L.none fb
theorem YN(h:let C:=aw n;aj (bx self (z "need_held") H) λdv=>bB False C dv [e8] H λdG cg=>Wk C self cg e8 k):aw (n+1) 613 [self,e8] H k:=bZ (by kernel_rfl) h
theorem YO(h:let C:=aw n;aj (aV self dP H) λaz=>aj (bx az q7 H) λdy=>bB False C dy [] H λgJ eD=>k L.none eD):aw (n+1) 620 [self] H k:=bZ (by kernel_rfl) h
theorem YP(h:let C:=aw n;aj (bx self nY H) λdv=>bB False C dv [bC] H λdG cg=>aj (bx dG d2 cg) λhX=>bB False C hX [] cg λqT cx=>aj (bx self o0 cx) λhw=>bB False C hw [dG] cx λnN dN=>k qT dN):aw (n+1) 627 [self,bC] H k:=bZ (by kernel_rfl) h
def Wl(C:cM)(dG:L)(cg:an)(bR self:L)(k:b3):Prop:=aj (bx dG (z "fill") cg) λhX=>bB False C hX [bR] cg λqT cx=>aj (bx self mK cx) λhw=>bB False C hw [dG] cx λnN dN=>aj (bx self o0 dN) λpn=>bB False C pn [dG] dN λanm o1=>k L.none o1
theorem YQ(h:let C:=aw n;aj (bx self nY H) λdv=>bB False C dv [bC] H λdG cg=>Wl C dG cg bR self k):aw (n+1) 634 [self,bC,bR] H k:=bZ (by kernel_rfl) h
theorem YR(h:let C:=aw n;aj (aV self (z "is_dead") H) λaz=>aj (ky az) λdy=>dU dy (False) (k L.none H)):aw (n+1) 683 [self] H k:=bZ (by kernel_rfl) h
theorem YS(h:let C:=aw n;aF (cI (.builtin "isinstance") [bC,(L.st (.type "int"))] H) λb9 cN=>aj (ky b9) λeT=>bo .Or (!eT) (False) (aj (bW .LtE (L.int 0) bC cN) λhX=>dU hX (aj (aV self mG cN) λeG=>aj (bW .Lt bC eG cN) λuX=>bo .Or (!uX) (False) (k L.none cN)) (False))):aw (n+1) 690 [self,bC] H k:=bZ (by kernel_rfl) h
def Wm(C:cM)(self:L)(cg:an)(bC:L)(k:b3):Prop:=aj (bx self (z "need_block") cg) λhX=>bB False C hX [bC] cg λqT cx=>aj (aV self (z "latest") cx) λmE=>aj (bx mE nY cx) λlh=>aj (aV self dH cx) λlx=>aF (cI (.type "bytes") [lx] cx) λm7 eh=>bB False C lh [bC,m7] eh λoP gt=>k oP gt
theorem YT(h:let C:=aw n;aj (bx self (z "need_power") H) λdv=>bB False C dv [] H λdG cg=>Wm C self cg bC k):aw (n+1) 697 [self,bC] H k:=bZ (by kernel_rfl) h
def GM(C:cM)(bR:L)(kg:an)(self bC:L)(k:b3):Prop:=aF (cI (.type "bytes") [bR] kg) λKC lC=>aj (aV self (z "latest") lC) λsy=>aj (fS sy (.at_ bC) KC lC) λlD=>aj (aV self pY lD) λMd=>aj (bx Md l4 lD) λaaK=>aF (cI (.type "bytes") [bR] lD) λanw ni=>eq ni (.tup [bC,anw]) λl0 fC=>bB False C aaK [l0] fC λKN jh=>k L.none jh
def Wo(C:cM)(self:L)(gi:an)(bR bC:L)(k:b3):Prop:=aj (bx self (z "fail") gi) λaa3=>bB False C aa3 [] gi λas3 sH=>aj (aV self eX sH) λOG=>kp OG (L.int 1) (a5 .Add OG (L.int 1) sH) λLJ uj=>aj (ft self eX LJ uj) λy1=>GM C bR y1 self bC k
def Wp(C:cM)(self:L)(gi:an)(bR bC:L)(k:b3):Prop:=aj (aV self (z "last") gi) λv2=>aj (bW .IsNot v2 L.none gi) λrS=>bo .And rS (aj (aV self eX gi) λOA=>kp OA (L.int 1) (a5 .Add OA (L.int 1) gi) λh2 fb=>aj (ft self eX h2 fb) λkg=>GM C bR kg self bC k) (aj (aV self eX gi) λMh=>aj (aV self (z "last") gi) λBI=>aj (bW .GtE Mh BI gi) λi4=>bo .And i4 (aj (aV self eX gi) λzO=>kp zO (L.int 1) (a5 .Add zO (L.int 1) gi) λiG fJ=>aj (ft self eX iG fJ) λiJ=>GM C bR iJ self bC k) (Wo C self gi bR bC k))
def Wq(C:cM)(self:L)(cg:an)(bC bR:L)(k:b3):Prop:=aj (bx self (z "need_block") cg) λhX=>bB False C hX [bC] cg λqT cx=>aF (cI (.builtin "len") [bR] cx) λS3 gi=>aj (aV self dH gi) λlx=>aj (bW .NotEq S3 lx gi) λpn=>dU pn (False) (Wp C self gi bR bC k)
theorem YU(h:let C:=aw n;aj (bx self (z "need_power") H) λdv=>bB False C dv [] H λdG cg=>Wq C self cg bC bR k):aw (n+1) 704 [self,bC,bR] H k:=bZ (by kernel_rfl) h
def sR:ds:=(dO (aL 28 6)).names
def Fc:aU:=nP (bw (aW (aL 28 6)) 3)
def GN(C:cM)(self:L)(dN:an)(k:b3):Prop:=aj (aV self pY dN) λsx=>lp sx dN λafz=>gR False sR Fc (λm H q=>b1 False C (ei (bw (aW (aL 28 6)) 3)) sR m H q) (.lst afz) f6 0 [(bQ,self)] dN (ed C ((aW (aL 28 6)).drop 4) sR (dM k))
def Wr(C:cM)(self:L)(cg:an)(k:b3):Prop:=aj (bx self (z "fail") cg) λzW=>bB False C zW [] cg λKJ hP=>aj (aV self pX hP) λOD=>kp OD (L.int 1) (a5 .Add OD (L.int 1) hP) λl0 fC=>aj (ft self pX l0 fC) λhE=>GN C self hE k
def Ws(C:cM)(self:L)(cg:an)(k:b3):Prop:=aj (aV self yP cg) λc7=>aj (bW .IsNot c7 L.none cg) λkK=>bo .And kK (aj (aV self pX cg) λtg=>kp tg (L.int 1) (a5 .Add tg (L.int 1) cg) λnV gi=>aj (ft self pX nV gi) λdN=>GN C self dN k) (aj (aV self pX cg) λmC=>aj (aV self yP cg) λBF=>aj (bW .GtE mC BF cg) λHa=>bo .And Ha (aj (aV self pX cg) λOB=>kp OB (L.int 1) (a5 .Add OB (L.int 1) cg) λkc fv=>aj (ft self pX kc fv) λlC=>GN C self lC k) (Wr C self cg k))
theorem YV(h:let C:=aw n;aj (bx self (z "need_power") H) λdv=>bB False C dv [] H λdG cg=>Ws C self cg k):aw (n+1) 718 [self] H k:=bZ (by kernel_rfl) h
theorem aqH(h:let C:=aw n;aj (aV self (z "kept") H) λBI=>aj (fS BI (.at_ bC) bR H) λi0=>q .next [(bQ,self),(bS,bC),(d2,bR)] i0):b1 False (aw n) (ei (bw (aW (aL 28 6)) 3)) sR [(bQ,self),(bS,bC),(d2,bR)] H q:=bZ (by kernel_rfl) h
theorem WY(h:let C:=aw n;eq H (.list []) λLD mb=>aj (ft self pY LD mb) λfJ=>k L.none fJ):(let C:=aw n;ed C ((aW (aL 28 6)).drop 4) sR (dM k) .next [(bQ,self)] H):=bZ (by kernel_rfl) h
theorem WZ(h:let C:=aw n;eq H (.list []) λmy iw=>aj (ft self pY my iw) λkW=>k L.none kW):(let C:=aw n;ed C ((aW (aL 28 6)).drop 4) sR (dM k) .next [(bQ,self),(bS,bC),(d2,bR)] H):=bZ (by kernel_rfl) h
def qa:ds:=(dO (bf 33)).names
def BO:aU:=nP (bw (aW (bf 33)) 2)
def sG:aU:=(j8 (j8 (fD (DO (bw (aW (bf 33)) 2) 0) 0) 1) 1)
def BP:aU:=vO sG
def p4:ds:=gF (dO (bf 33)).names (vG sG).names
def Wt(C:cM)(ik:L)(dN:an)(jP nN:L)(k:b3):Prop:=aF (cI (.builtin "len") [ik] dN) λm7 eh=>eq eh (.list [m7]) λdY gt=>aF (cI (.type "list") [ik] gt) λvD fb=>aF (a5 .Add dY vD fb) λkc fv=>lp kc fv λJa=>gR False qa BO (λm H q=>b1 False C (ei (bw (aW (bf 33)) 2)) qa m H q) (.lst Ja) f6 0 [(e5,ik),(dH,jP),(na,nN)] fv (ed C ((aW (bf 33)).drop 3) qa (dM k))
theorem YW(h:let C:=aw n;aF (cI (.builtin "len") [ik] H) λb9 cN=>aF (a5 .Add b9 (L.int 1) cN) λl1 eD=>aF (a5 .Mult (L.int 4) l1 eD) λgB cx=>aj (bW .Gt gB jP cx) λhw=>dU hw (False) (aF (cI (.type "bytearray") [] cx) λnN dN=>Wt C ik dN jP nN k)):aw (n+1) 763 [ik,jP] H k:=bZ (by kernel_rfl) h
theorem aqI(h:let C:=aw n;aj (bx qz (z "extend") H) λuT=>aj (lV [(L.int 4)]) λJt=>jX False p4 BP (λm H q=>jb False C (m0 sG) p4 m H q) (λm H q=>bO False C (j8 sG 0) p4 m H q) (.items Jt) f6 0 [(hm,kS)] H [] λAR g5=>eq g5 (.list AR) λkd ni=>aF (cI (.type "bytes") [kd] ni) λvE fC=>bB False C uT [vE] fC λKN jh=>q .next [(e5,ik),(dH,jP),(na,qz),(hm,kS)] jh):b1 False (aw n) (ei (bw (aW (bf 33)) 2)) qa [(e5,ik),(dH,jP),(na,qz),(hm,kS)] H q:=bZ (by kernel_rfl) h
def On(C:cM)(qz:L)(H:an)(jP:L)(k:b3):Prop:=aF (cI (.type "bytes") [qz] H) λKQ hr=>aF (cI (.builtin "len") [qz] hr) λse iI=>aF (a5 .Sub jP se iI) λiG fJ=>aF (cI (.type "bytes") [iG] fJ) λBg iw=>aF (a5 .Add KQ Bg iw) λnT i1=>k nT i1
theorem W0(h:let C:=aw n;On C qz H jP k):(let C:=aw n;ed C ((aW (bf 33)).drop 3) qa (dM k) .next [(e5,ik),(dH,jP),(na,qz)] H):=bZ (by kernel_rfl) h
theorem W1(h:let C:=aw n;On C qz H jP k):(let C:=aw n;ed C ((aW (bf 33)).drop 3) qa (dM k) .next [(e5,ik),(dH,jP),(na,qz),(hm,kS)] H):=bZ (by kernel_rfl) h
theorem acL{q:b3}(h:let C:=aw n;aF (a5 .Mult (L.int 8) aN H) λBu sH=>aF (a5 .RShift kS Bu sH) λmA wh=>aF (a5 .BitAnd mA (L.int 255) wh) λoX y1=>q oX y1):bO False (aw n) (j8 sG 0) p4 [(hm,kS),(e4,aN)] H q:=bZ (by kernel_rfl) h
theorem adp{q:Bool->an->Prop}(h:let C:=aw n;q ae H):jb False (aw n) (m0 sG) p4 [(hm,kS),(e4,aN)] H q:=bZ (by kernel_rfl) h
theorem YX(h:let C:=aw n;aj (aV self q8 H) λaz=>aj (bW .LtE az bC H) λdy=>dU dy (aj (aV self q8 H) λca=>aj (aV self dH H) λc7=>aF (a5 .Add ca c7 H) λgB cx=>aj (bW .Lt bC gB cx) λhw=>k (L.bool hw) cx) (k (L.bool aA) H)):aw (n+1) 785 [self,bC] H k:=bZ (by kernel_rfl) h
theorem YY(h:let C:=aw n;aj (aV self e5 H) λaz=>aF (cI (.builtin "len") [az] H) λdG cg=>aj (aV self mH cg) λc7=>aF (a5 .Add c7 (L.int 1) cg) λgB cx=>aj (aV self (z "each") cx) λmE=>aF (a5 .Mult gB mE cx) λi9 dN=>aF (a5 .Add dG i9 dN) λfT eh=>aj (aV self nZ eh) λmC=>aj (bW .LtE fT mC eh) λpo=>k (L.bool po) eh):aw (n+1) 792 [self] H k:=bZ (by kernel_rfl) h
theorem YZ(h:let C:=aw n;aj (aV self nZ H) λaz=>aj (aV self e5 H) λaT=>aF (cI (.builtin "len") [aT] H) λgJ eD=>aF (a5 .Sub az gJ eD) λgB cx=>k gB cx):aw (n+1) 799 [self] H k:=bZ (by kernel_rfl) h
theorem Y0(h:let C:=aw n;aj (bx self yO H) λdv=>bB False C dv [] H λdG cg=>aj (ky dG) λhX=>dU (!hX) (False) (aj (aV self mH cg) λqs=>kp qs (L.int 1) (a5 .Add qs (L.int 1) cg) λlw dr=>aj (ft self mH lw dr) λgi=>k L.none gi)):aw (n+1) 806 [self] H k:=bZ (by kernel_rfl) h
def Wu(C:cM)(self:L)(hP:an)(e8:L)(k:b3):Prop:=aj (aV self e5 hP) λmD=>aF (cI (.builtin "len") [mD] hP) λvE fC=>aj (aV self t0 fC) λMg=>aj (aV e8 bS fC) λBH=>aj (fS Mg (.at_ BH) vE fC) λgD=>aj (aV self e5 gD) λBI=>aj (bx BI l4 gD) λi4=>aj (aV e8 bS gD) λv4=>bB False C i4 [v4] gD λD9 fJ=>k L.none fJ
def Wv(C:cM)(self:L)(cx:an)(e8:L)(k:b3):Prop:=aj (aV self e5 cx) λL7=>aF (cI (.builtin "len") [L7] cx) λeV fv=>aj (aV self nZ fv) λv3=>aj (bW .GtE eV v3 fv) λuT=>dU uT (False) (aj (aV self fU fv) λBG=>aj (bx BG (z "pin") fv) λzW=>bB False C zW [e8] fv λKJ hP=>Wu C self hP e8 k)
def Ww(C:cM)(e8:L)(cx:an)(self:L)(k:b3):Prop:=aj (aV e8 bS cx) λpV=>aj (aV self t0 cx) λlx=>aj (bW .In pV lx cx) λpn=>dU pn (aj (aV self fU cx) λv2=>aj (bx v2 (z "need_held") cx) λrS=>bB False C rS [e8] cx λxu jg=>k L.none jg) (Wv C self cx e8 k)
theorem Y1(h:let C:=aw n;aj (aV self mH H) λaz=>aj (bW .Eq az (L.int 0) H) λdy=>dU dy (False) (aj (bx self (z "is_own") H) λeT=>aj (aV e8 bS H) λc7=>bB False C eT [c7] H λqT cx=>aj (ky qT) λhw=>dU hw (False) (Ww C e8 cx self k))):aw (n+1) 813 [self,e8] H k:=bZ (by kernel_rfl) h
def Wx(C:cM)(self:L)(cx:an)(k:b3):Prop:=aj (aV self mH cx) λmE=>aj (bW .Eq mE (L.int 0) cx) λlh=>bo .And lh (k L.none cx) (aj (aV self e5 cx) λlx=>eq cx (.list []) λfT eh=>aj (bW .NotEq lx fT eh) λrS=>bo .And rS (k L.none eh) (aj (bx self (z "commit") eh) λpo=>bB False C po [] eh λvD fb=>k L.none fb))
theorem OY(h:let C:=aw n;aj (aV self mH H) λaz=>aj (bW .Eq az (L.int 0) H) λdy=>dU dy (False) (aj (aV self mH H) λkn=>kp kn (L.int 1) (a5 .Sub kn (L.int 1) H) λnU eQ=>aj (ft self mH nU eQ) λcx=>Wx C self cx k)):aw (n+1) 820 [self] H k:=bZ (by kernel_rfl) h
def qb:ds:=(dO (aL 34 7)).names
def BQ:aU:=nP (bw (aW (aL 34 7)) 4)
def Wy(C:cM)(self:L)(kg:an)(k:b3):Prop:=aj (aV self e5 kg) λarM=>lp arM kg λJa=>gR False qb BQ (λm H q=>b1 False C (ei (bw (aW (aL 34 7)) 4)) qb m H q) (.lst Ja) f6 0 [(bQ,self)] kg (ed C ((aW (aL 34 7)).drop 5) qb (dM k))
def Wz(C:cM)(self:L)(dr:an)(k:b3):Prop:=aj (bx self (z "install") dr) λlh=>aj (aV self e5 dr) λlx=>bB False C lh [lx,(L.bool aA)] dr λm7 eh=>aj (bx self (z "write_head") eh) λrS=>eq eh (.list []) λil jg=>bB False C rS [il] jg λSS kg=>Wy C self kg k
theorem Y2(h:let C:=aw n;aj (bx self (z "fill_log") H) λdv=>bB False C dv [] H λdG cg=>aj (bx self (z "write_head") cg) λhX=>aj (aV self e5 cg) λeG=>bB False C hX [eG] cg λhd dr=>Wz C self dr k):aw (n+1) 827 [self] H k:=bZ (by kernel_rfl) h
theorem aqJ(h:let C:=aw n;aj (aV self fU H) λsy=>aj (bx sy (z "unpin") H) λnx=>bB False C nx [bC] H λxv g5=>q .next [(bQ,self),(bS,bC)] g5):b1 False (aw n) (ei (bw (aW (aL 34 7)) 4)) qb [(bQ,self),(bS,bC)] H q:=bZ (by kernel_rfl) h
def Oo(C:cM)(mN:an)(self:L)(k:b3):Prop:=eq mN (.dict []) λmx hE=>aj (ft self t0 mx hE) λjh=>aj (aV self sE jh) λzN=>kp zN (L.int 1) (a5 .Add zN (L.int 1) jh) λnS i0=>aj (ft self sE nS i0) λiI=>k L.none iI
theorem W2(h:let C:=aw n;eq H (.list []) λkd ni=>aj (ft self e5 kd ni) λmN=>Oo C mN self k):(let C:=aw n;ed C ((aW (aL 34 7)).drop 5) qb (dM k) .next [(bQ,self)] H):=bZ (by kernel_rfl) h
theorem W3(h:let C:=aw n;eq H (.list []) λiG fJ=>aj (ft self e5 iG fJ) λiJ=>Oo C iJ self k):(let C:=aw n;ed C ((aW (aL 34 7)).drop 5) qb (dM k) .next [(bQ,self),(bS,bC)] H):=bZ (by kernel_rfl) h
def qc:ds:=(dO (aL 34 8)).names
def BR:aU:=nP (bw (aW (aL 34 8)) 0)
theorem Y3(h:let C:=aw n;aj (aV self e5 H) λaz=>lp az H λlQ=>gR False qc BR (λm H q=>b1 False C (ei (bw (aW (aL 34 8)) 0)) qc m H q) (.enum lQ) f6 0 [(bQ,self)] H (ed C ((aW (aL 34 8)).drop 1) qc (dM k))):aw (n+1) 834 [self] H k:=bZ (by kernel_rfl) h
theorem aqK(h:let C:=aw n;aj (aV self fU H) λca=>aj (bx ca (z "poke") H) λhX=>aj (aV self q8 H) λeG=>aF (a5 .Add eG (L.int 1) H) λlw dr=>aF (a5 .Add lw er dr) λi9 dN=>aj (aV self fU dN) λsx=>aj (bx sx (z "peek") dN) λnv=>bB False C nv [bC] dN λoP gt=>bB False C hX [i9,oP] gt λvD fb=>q .next [(bQ,self),(dQ,er),(bS,bC)] fb):b1 False (aw n) (ei (bw (aW (aL 34 8)) 0)) qc [(bQ,self),(dQ,er),(bS,bC)] H q:=bZ (by kernel_rfl) h
theorem W4(h:let C:=aw n;aj (aV self fU H) λnW=>aj (bx nW q7 H) λnw=>bB False C nw [] H λtS g3=>k L.none g3):(let C:=aw n;ed C ((aW (aL 34 8)).drop 1) qc (dM k) .next [(bQ,self)] H):=bZ (by kernel_rfl) h
theorem W5(h:let C:=aw n;aj (aV self fU H) λBG=>aj (bx BG q7 H) λzW=>bB False C zW [] H λKJ hP=>k L.none hP):(let C:=aw n;ed C ((aW (aL 34 8)).drop 1) qc (dM k) .next [(bQ,self),(dQ,er),(bS,bC)] H):=bZ (by kernel_rfl) h
theorem Y4(h:let C:=aw n;aj (aV self fU H) λaz=>aj (bx az (z "poke") H) λdy=>aj (aV self q8 H) λca=>aj (aV self fU H) λc7=>aj (aV c7 dH H) λeG=>C 763 [ik,eG] H λhd dr=>bB False C dy [ca,hd] dr λnN dN=>aj (aV self fU dN) λsx=>aj (bx sx q7 dN) λnv=>bB False C nv [] dN λoP gt=>k L.none gt):aw (n+1) 841 [self,ik] H k:=bZ (by kernel_rfl) h
def np:ds:=(dO (aL 34 10)).names
def yR:aU:=nP (bw (aW (aL 34 10)) 0)
theorem Y5(h:let C:=aw n;lp ik H λkM=>gR False np yR (λm H q=>b1 False C (ei (bw (aW (aL 34 10)) 0)) np m H q) (.enum kM) f6 0 [(bQ,self),(e5,ik),(nX,mY)] H (ed C ((aW (aL 34 10)).drop 1) np (dM k))):aw (n+1) 848 [self,ik,mY] H k:=bZ (by kernel_rfl) h
def CI(C:cM)(self:L)(eh:an)(bC m7 ik mY er:L)(q:ez):Prop:=aj (aV self fU eh) λmC=>aj (bx mC (z "poke") eh) λpo=>bB False C po [bC,m7] eh λvD fb=>q .next [(bQ,self),(e5,ik),(nX,mY),(dQ,er),(bS,bC),(d2,m7)] fb
theorem aqL(h:let C:=aw n;aj (aV self fU H) λaT=>aj (bx aT (z "peek") H) λeT=>aj (ky mY) λhX=>dU hX (aj (aV self q8 H) λeG=>aF (a5 .Add eG (L.int 1) H) λlw dr=>aF (a5 .Add lw er dr) λi9 dN=>bB False C eT [i9] dN λm7 eh=>CI C self eh bC m7 ik mY er q) (bB False C eT [bC] H λeV fv=>CI C self fv bC eV ik mY er q)):b1 False (aw n) (ei (bw (aW (aL 34 10)) 0)) np [(bQ,self),(e5,ik),(nX,mY),(dQ,er),(bS,bC)] H q:=bZ (by kernel_rfl) h
theorem aqM(h:let C:=aw n;aj (aV self fU H) λsA=>aj (bx sA (z "peek") H) λtr=>aj (ky mY) λow=>dU ow (aj (aV self q8 H) λMf=>aF (a5 .Add Mf (L.int 1) H) λmx hE=>aF (a5 .Add mx er hE) λsq gD=>bB False C tr [sq] gD λanx i0=>CI C self i0 bC anx ik mY er q) (bB False C tr [bC] H λanz kW=>CI C self kW bC anz ik mY er q)):b1 False (aw n) (ei (bw (aW (aL 34 10)) 0)) np [(bQ,self),(e5,ik),(nX,mY),(dQ,er),(bS,bC),(d2,bR)] H q:=bZ (by kernel_rfl) h
theorem W6(h:let C:=aw n;aj (aV self fU H) λMj=>aj (bx Mj q7 H) λHx=>bB False C Hx [] H λKT o3=>k L.none o3):(let C:=aw n;ed C ((aW (aL 34 10)).drop 1) np (dM k) .next [(bQ,self),(e5,ik),(nX,mY)] H):=bZ (by kernel_rfl) h
theorem W7(h:let C:=aw n;aj (aV self fU H) λMk=>aj (bx Mk q7 H) λaa6=>bB False C aa6 [] H λSY uj=>k L.none uj):(let C:=aw n;ed C ((aW (aL 34 10)).drop 1) np (dM k) .next [(bQ,self),(e5,ik),(nX,mY),(dQ,er),(bS,bC),(d2,bR)] H):=bZ (by kernel_rfl) h
def wb:aU:=(fD (bw (aW (bf 36)) 0) 0)
def Fd:aU:=vO wb
def t9:ds:=gF (dO (bf 36)).names (vG wb).names
theorem Y6(h:let C:=aw n;aj (lV [PG]) λgn=>jX False t9 Fd (λm H q=>jb False C (m0 wb) t9 m H q) (λm H q=>bO False C (j8 wb 0) t9 m H q) (.items gn) f6 0 [(hm,kS)] H [] λfY cg=>eq cg (.list fY) λnU eQ=>k nU eQ):aw (n+1) 874 [kS,PG] H k:=bZ (by kernel_rfl) h
theorem acM{q:b3}(h:let C:=aw n;aF (a5 .Mult (L.int 8) aN H) λlw dr=>aF (a5 .RShift kS lw dr) λi9 dN=>aF (a5 .BitAnd i9 (L.int 255) dN) λfT eh=>q fT eh):bO False (aw n) (j8 wb 0) t9 [(hm,kS),(e4,aN)] H q:=bZ (by kernel_rfl) h
theorem adq{q:Bool->an->Prop}(h:let C:=aw n;q ae H):jb False (aw n) (m0 wb) t9 [(hm,kS),(e4,aN)] H q:=bZ (by kernel_rfl) h
def sS:ds:=(dO (bf 37)).names
def Fe:aU:=nP (bw (aW (bf 37)) 1)
def WA(C:cM)(tQ:L)(cx:an)(b0 bC jP gB:L)(k:b3):Prop:=lp tQ cx λJb=>gR False sS Fe (λm H q=>b1 False C (ei (bw (aW (bf 37)) 1)) sS m H q) (.lst Jb) f6 0 [(cu,b0),(bS,bC),(eC,tQ),(dH,jP),(jc,gB)] cx (ed C ((aW (bf 37)).drop 2) sS (dM k))
theorem Y7(h:let C:=aw n;eq H (.list [(L.int 2),(L.int 0),(L.int 0),(L.int 0),(L.int 0),(L.int 0),(L.int 1),(L.int 0)]) λgK cN=>C 874 [jP,(L.int 4)] cN λgJ eD=>aF (a5 .Add gK gJ eD) λgB cx=>WA C tQ cx b0 bC jP gB k):aw (n+1) 881 [b0,bC,tQ,jP] H k:=bZ (by kernel_rfl) h
theorem LV(h:let C:=aw n;C 874 [er,(L.int 4)] H λnN dN=>aF (a5 .Add row nN dN) λfT eh=>q .next [(cu,b0),(bS,bC),(eC,tQ),(dH,jP),(jc,fT),(dQ,er)] eh):b1 False (aw n) (ei (bw (aW (bf 37)) 1)) sS [(cu,b0),(bS,bC),(eC,tQ),(dH,jP),(jc,row),(dQ,er)] H q:=bZ (by kernel_rfl) h
def WB(C:cM)(b0 kd:L)(g4:an)(l0 row:L)(k:b3):Prop:=aF (cj b0 (.at_ kd) g4) λvR jh=>jJ (eA L.none) (eA l0) λLo apD=>aF (cj vR (.sl Lo apD) jh) λvS iI=>aF (a5 .Add vS row iI) λiG fJ=>aF (cj b0 (.at_ kd) fJ) λmy iw=>aF (a5 .Add l0 (L.int 24) iw) λnT i1=>jJ (eA nT) (eA L.none) λapG apH=>aF (cj my (.sl apG apH) i1) λl2 rn=>aF (a5 .Add iG l2 rn) λmz rp=>aj (fS b0 (.at_ kd) mz rp) λo3=>k kd o3
def WC(C:cM)(bC:L)(H:an)(b0 row:L)(k:b3):Prop:=aF (a5 .FloorDiv bC (L.int 2) H) λdY gt=>aF (a5 .Add (L.int 11) dY gt) λh2 fb=>aF (a5 .Mod bC (L.int 2) fb) λkc fv=>aF (a5 .Mult kc (L.int 24) fv) λpR g3=>eq g3 (.tup [h2,pR]) λLu g4=>kz Lu g4 2 λJu=>fP Ju λkd AS=>fP AS λl0 asQ=>WB C b0 kd g4 l0 row k
theorem W8(h:let C:=aw n;WC C bC H b0 row k):(let C:=aw n;ed C ((aW (bf 37)).drop 2) sS (dM k) .next [(cu,b0),(bS,bC),(eC,tQ),(dH,jP),(jc,row),(dQ,er)] H):=bZ (by kernel_rfl) h
def wc:aU:=(j8 (fD (bw (aW (bf 39)) 0) 0) 0)
def Ff:aU:=vO wc
def ua:ds:=gF (dO (bf 39)).names (vG wc).names
def WD(C:cM)(b0:L)(dr:an)(lw cZ:L)(k:b3):Prop:=aF (cj b0 (.at_ (L.int 13)) dr) λi9 dN=>aF (a5 .FloorDiv lw (L.int 8) dN) λfT eh=>aF (cj i9 (.at_ fT) eh) λdY gt=>aF (a5 .Mod lw (L.int 8) gt) λh2 fb=>aF (a5 .LShift (L.int 1) h2 fb) λkc fv=>aF (a5 .BitOr dY kc fv) λpR g3=>aF (cj b0 (.at_ (L.int 13)) g3) λLu g4=>aF (a5 .FloorDiv lw (L.int 8) g4) λiX hP=>aj (fS Lu (.at_ iX) pR hP) λni=>eq ni (.list [(L.int 0)]) λl0 fC=>aF (a5 .Mult l0 (L.int 48) fC) λvR jh=>aj (fS b0 (.at_ lw) vR jh) λgD=>aj (bx cZ l4 gD) λrT=>bB False C rT [(L.int 13)] gD λse iI=>k lw iI
theorem Y8(h:let C:=aw n;aj (lV [(L.int 14),(L.int 22)]) λgn=>jX False ua Ff (λm H q=>jb False C (m0 wc) ua m H q) (λm H q=>bO False C (j8 wc 0) ua m H q) (.items gn) f6 0 [(cu,b0)] H [] λfY cg=>eq cg (.list fY) λnU eQ=>aF (cj nU (.at_ (L.int 0)) eQ) λlw dr=>WD C b0 dr lw cZ k):aw (n+1) 891 [b0,cZ] H k:=bZ (by kernel_rfl) h
theorem acN{q:b3}(h:let C:=aw n;q one H):bO False (aw n) (j8 wc 0) ua [(cu,b0),(nb,one)] H q:=bZ (by kernel_rfl) h
theorem adr{q:Bool->an->Prop}(h:let C:=aw n;aF (cj b0 (.at_ (L.int 13)) H) λiG fJ=>aF (a5 .FloorDiv one (L.int 8) fJ) λmy iw=>aF (cj iG (.at_ my) iw) λnT i1=>aF (a5 .Mod one (L.int 8) i1) λq4 y0=>aF (a5 .RShift nT q4 y0) λl2 rn=>aF (a5 .BitAnd l2 (L.int 1) rn) λmz rp=>aj (bW .Eq mz (L.int 0) rp) λHz=>dU Hz (q ae rp) (q aA rp)):jb False (aw n) (m0 wc) ua [(cu,b0),(nb,one)] H q:=bZ (by kernel_rfl) h
def ki:ds:=(dO (bf 40)).names
theorem ajb{ct:List cD}(h:b1 False C ct ki [(cu,b0),(iH,fe),(gT,dA),(d2,bR),(ey,cZ),(hC,(L.int 0))] H K):b1 False C (bw (aW (bf 40)) 0::ct) ki [(cu,b0),(iH,fe),(gT,dA),(d2,bR),(ey,cZ)] H K:=bZ (by kernel_rfl) h
theorem Y9(h:let C:=aw n;b1 False C ((aW (bf 40)).drop 1) ki [(cu,b0),(iH,fe),(gT,dA),(d2,bR),(ey,cZ),(hC,(L.int 0))] H (dM k)):aw (n+1) 898 [b0,fe,dA,bR,cZ] H k:=Bk (st:=bf 40) (ss:=bw (aW (bf 40)) 0::((aW (bf 40)).drop 1)) (m:=[(cu,b0),(iH,fe),(gT,dA),(d2,bR),(ey,cZ)]) (by kernel_rfl) (by decide) (by kernel_rfl) (by kernel_rfl) (by kernel_rfl) (ajb h)
theorem TH{q:Bool->an->Prop}(h:let C:=aw n;aF (cI (.builtin "len") [bR] H) λb9 cN=>aj (bW .Lt ap b9 cN) λeT=>bo .And eT (q aA cN) (aF (cI (.type "set") [cZ] cN) λnM eQ=>aF (cI (.builtin "len") [nM] eQ) λhd dr=>aF (a5 .Sub (L.int 8) hd dr) λi9 dN=>aj (bW .GtE i9 (L.int 4) dN) λpn=>bo .And pn (q aA dN) (q ae dN))):ge False (aw n) (fD (bw (aW (bf 40)) 1) 0) (λH k=>bO False (aw n) (fD (bw (aW (bf 40)) 1) 0) ki [(cu,b0),(iH,fe),(gT,dA),(d2,bR),(ey,cZ),(hC,ap)] H k) ki [(cu,b0),(iH,fe),(gT,dA),(d2,bR),(ey,cZ),(hC,ap)] H q:=bZ (by kernel_rfl) h
def WE(C:cM)(cZ:L)(BY:an)(mA ap oX b0 fe dA bR iX kQ:L)(q:ez):Prop:=aj (bx cZ l4 BY) λabj=>bB False C abj [mA] BY λas6 y9=>aF (a5 .Add ap oX y9) λaqr U2=>q .next [(cu,b0),(iH,fe),(gT,dA),(d2,bR),(ey,cZ),(hC,aqr),(mI,iX),(e4,kQ),(iY,mA),(mJ,oX)] U2
def WF(C:cM)(b0 mA:L)(nk:an)(kQ ap oX bR cZ fe dA iX:L)(q:ez):Prop:=aF (cj b0 (.at_ mA) nk) λaqn ul=>jJ (eA L.none) (eA kQ) λapI apJ=>aF (cj aqn (.sl apI apJ) ul) λBv y2=>aF (a5 .Add ap oX y2) λBw uo=>jJ (eA ap) (eA Bw) λapL apM=>aF (cj bR (.sl apL apM) uo) λaqq kX=>aF (a5 .Add Bv aqq kX) λBx y3=>aF (cj b0 (.at_ mA) y3) λBy y5=>aF (a5 .Add kQ oX y5) λBz y6=>jJ (eA Bz) (eA L.none) λapN apO=>aF (cj By (.sl apN apO) y6) λBA y7=>aF (a5 .Add Bx BA y7) λBB y8=>aj (fS b0 (.at_ mA) BB y8) λBY=>WE C cZ BY mA ap oX b0 fe dA bR iX kQ q
def Op(C:cM)(fe:L)(iJ:an)(iX kQ bR ap b0 cZ dA:L)(q:ez):Prop:=aF (cj fe (.at_ (L.str eC)) iJ) λLF kW=>aF (cj LF (.at_ iX) kW) λBr kC=>aF (a5 .Sub (L.int 48) kQ kC) λBs nj=>aF (cI (.builtin "len") [bR] nj) λKS ro=>aF (a5 .Sub KS ap ro) λLH o3=>aF (cI (.builtin "min") [Bs,LH] o3) λanB ui=>eq ui (.tup [Br,anB]) λvT nk=>kz vT nk 2 λagy=>fP agy λmA agz=>fP agz λoX asT=>WF C b0 mA nk kQ ap oX bR cZ fe dA iX q
def Oq(C:cM)(fe:L)(lD:an)(iX b0 cZ kQ bR ap dA:L)(q:ez):Prop:=aF (cj fe (.at_ (L.str eC)) lD) λmx hE=>aF (cj mx (.at_ iX) hE) λsq gD=>aj (bW .Eq sq (L.int 0) gD) λrT=>dU rT (C 891 [b0,cZ] gD λse iI=>aF (cj fe (.at_ (L.str eC)) iI) λiG fJ=>aj (fS iG (.at_ iX) se fJ) λiJ=>Op C fe iJ iX kQ bR ap b0 cZ dA q) (Op C fe gD iX kQ bR ap b0 cZ dA q)
theorem aqN(h:let C:=aw n;aF (a5 .Add dA ap H) λkP o1=>aF (a5 .FloorDiv kP (L.int 48) o1) λil jg=>aF (a5 .Add dA ap jg) λso kg=>aF (a5 .Mod so (L.int 48) kg) λsp lC=>eq lC (.tup [il,sp]) λvQ lD=>kz vQ lD 2 λAR=>fP AR λiX Jv=>fP Jv λkQ ago=>Oq C fe lD iX b0 cZ kQ bR ap dA q):b1 False (aw n) (ei (bw (aW (bf 40)) 1)) ki [(cu,b0),(iH,fe),(gT,dA),(d2,bR),(ey,cZ),(hC,ap)] H q:=bZ (by kernel_rfl) h
theorem TI{q:Bool->an->Prop}(h:let C:=aw n;aF (cI (.builtin "len") [bR] H) λano Ft=>aj (bW .Lt ap ano Ft) λaaC=>bo .And aaC (q aA Ft) (aF (cI (.type "set") [cZ] Ft) λanp US=>aF (cI (.builtin "len") [anp] US) λanq UT=>aF (a5 .Sub (L.int 8) anq UT) λaqc Fu=>aj (bW .GtE aqc (L.int 4) Fu) λaaD=>bo .And aaD (q aA Fu) (q ae Fu))):ge False (aw n) (fD (bw (aW (bf 40)) 1) 0) (λH k=>bO False (aw n) (fD (bw (aW (bf 40)) 1) 0) ki [(cu,b0),(iH,fe),(gT,dA),(d2,bR),(ey,cZ),(hC,ap),(mI,gx),(e4,aN),(iY,uQ),(mJ,part)] H k) ki [(cu,b0),(iH,fe),(gT,dA),(d2,bR),(ey,cZ),(hC,ap),(mI,gx),(e4,aN),(iY,uQ),(mJ,part)] H q:=bZ (by kernel_rfl) h
theorem aqO(h:let C:=aw n;aF (a5 .Add dA ap H) λaqd UU=>aF (a5 .FloorDiv aqd (L.int 48) UU) λaqe UV=>aF (a5 .Add dA ap UV) λaqf UW=>aF (a5 .Mod aqf (L.int 48) UW) λaqg UX=>eq UX (.tup [aqe,aqg]) λaqh MG=>kz aqh MG 2 λagl=>fP agl λaqi agm=>fP agm λaqj asO=>Oq C fe MG aqi b0 cZ aqj bR ap dA q):b1 False (aw n) (ei (bw (aW (bf 40)) 1)) ki [(cu,b0),(iH,fe),(gT,dA),(d2,bR),(ey,cZ),(hC,ap),(mI,gx),(e4,aN),(iY,uQ),(mJ,part)] H q:=bZ (by kernel_rfl) h
theorem agA{C:a1->List L->an->(L->an->Prop)->Prop}(h:l3 False (λm H q=>ge False C (fD (bw (aW (bf 40)) 1) 0) (λH k=>bO False C (fD (bw (aW (bf 40)) 1) 0) ki m H k) ki m H q) (λm H q=>b1 False C (ei (bw (aW (bf 40)) 1)) ki m H q) f6 m H (ed C ((aW (bf 40)).drop 2) ki q)):b1 False C ((aW (bf 40)).drop 1) ki m H q:=EX (st:=(bw (aW (bf 40)) 1)) (by kernel_rfl) (by kernel_rfl) h
def Os(C:cM)(fe:L)(H:an)(dA ap:L)(k:b3):Prop:=aF (cj fe (.at_ (L.str dH)) H) λLB FI=>aF (a5 .Add dA ap FI) λLC FJ=>aF (cI (.builtin "max") [LB,LC] FJ) λKO FK=>aj (fS fe (.at_ (L.str dH)) KO FK) λFL=>k ap FL
theorem W9(h:let C:=aw n;aj (bW .Gt ap (L.int 0) H) λHq=>dU Hq (Os C fe H dA ap k) (k ap H)):(let C:=aw n;ed C ((aW (bf 40)).drop 2) ki (dM k) .next [(cu,b0),(iH,fe),(gT,dA),(d2,bR),(ey,cZ),(hC,ap)] H):=bZ (by kernel_rfl) h
theorem Xa(h:let C:=aw n;aj (bW .Gt ap (L.int 0) H) λaaO=>dU aaO (Os C fe H dA ap k) (k ap H)):(let C:=aw n;ed C ((aW (bf 40)).drop 2) ki (dM k) .next [(cu,b0),(iH,fe),(gT,dA),(d2,bR),(ey,cZ),(hC,ap),(mI,gx),(e4,aN),(iY,uQ),(mJ,part)] H):=bZ (by kernel_rfl) h
def pc:ds:=(dO (bf 41)).names
def Fg:aU:=nP (DO (bw (aW (bf 41)) 2) 0)
def wd:aU:=(fD (DO (bw (aW (bf 41)) 2) 0) 0)
def Fh:aU:=vO wd
def ub:ds:=gF (dO (bf 41)).names (vG wd).names
def WG(C:cM)(lv:L)(fC:an)(b0 ep fg cZ fT dY kd:L)(k:b3):Prop:=aF (cj lv (.at_ (L.str eC)) fC) λsq gD=>lp sq gD λafB=>jX False ub Fh (λm H q=>jb False C (m0 wd) ub m H q) (λm H q=>bO False C (j8 wd 0) ub m H q) (.lst afB) f6 0 [] gD [] λagq iI=>eq iI (.list agq) λiG fJ=>lp iG fJ λafD=>gR False pc Fg (λm H q=>b1 False C (ei (bw (vm (bw (aW (bf 41)) 2)) 0)) pc m H q) (.lst afD) f6 0 [(cu,b0),(ew,ep),(fV,fg),(ey,cZ),(bS,fT),(sF,dY),(iH,lv),(gC,kd)] fJ (ed C ((vm (bw (aW (bf 41)) 2)).drop 1) pc (ed C ((aW (bf 41)).drop 3) pc (dM k)))
def Ot(C:cM)(cZ:L)(wi:an)(lv b0 fT KU:L)(k:b3):Prop:=aj (bx cZ l4 wi) λHA=>aF (cj lv (.at_ (L.str eC)) wi) λBv y2=>aF (cj lv (.at_ (L.str dH)) y2) λBw uo=>C 881 [b0,fT,Bv,Bw] uo λKV FO=>bB False C HA [KV] FO λS1 kX=>k KU kX
def WH(C:cM)(dY:L)(fC:an)(b0 lv cZ fT:L)(k:b3):Prop:=aF (a5 .FloorDiv dY (L.int 300) fC) λLF kW=>aF (a5 .Mod LF (L.int 26) kW) λBr kC=>aF (a5 .Add (L.int 65) Br kC) λBs nj=>eq nj (.list [Bs]) λLG ro=>aF (a5 .FloorDiv dY (L.int 300) ro) λLH o3=>aF (a5 .Mod LH (L.int 20) o3) λBt ui=>aF (a5 .Add (L.int 1) Bt ui) λvT nk=>aF (a5 .Mult LG vT nk) λLI rq=>aF (a5 .FloorDiv dY (L.int 5) rq) λLJ uj=>aF (a5 .Mod LJ (L.int 60) uj) λaqm uk=>C 898 [b0,lv,aqm,LI,cZ] uk λKU wi=>Ot C cZ wi lv b0 fT KU k
def WI(C:cM)(fT:L)(gi:an)(ep dY b0 fg cZ:L)(k:b3):Prop:=aF (a5 .Sub fT (L.int 1) gi) λh2 fb=>aF (cj ep (.at_ h2) fb) λkc fv=>eq fv (.tup [kc,L.none]) λpR g3=>kz pR g3 2 λJt=>fP Jt λlv Ju=>fP Ju λkd AS=>aF (a5 .Mod dY (L.int 5) g3) λl0 fC=>aj (bW .Eq l0 (L.int 4) fC) λny=>dU ny (WG C lv fC b0 ep fg cZ fT dY kd k) (WH C dY fC b0 lv cZ fT k)
theorem Za(h:let C:=aw n;aF (a5 .Mod fg (L.int 2) H) λgK cN=>aF (a5 .Add (L.int 1) gK cN) λl1 eD=>aF (a5 .FloorDiv fg (L.int 2) eD) λgB cx=>eq cx (.tup [l1,gB]) λnV gi=>kz nV gi 2 λJx=>fP Jx λfT vt=>fP vt λdY Js=>WI C fT gi ep dY b0 fg cZ k):aw (n+1) 903 [b0,ep,fg,cZ] H k:=bZ (by kernel_rfl) h
def WJ(C:cM)(cZ:L)(up:an)(b0 ep fg bC ct fe gS er:L)(q:ez):Prop:=aj (bx cZ l4 up) λHH=>bB False C HH [(L.int 13)] up λanE za=>q .next [(cu,b0),(ew,ep),(fV,fg),(ey,cZ),(bS,bC),(sF,ct),(iH,fe),(gC,gS),(dQ,er)] za
theorem EW(h:let C:=aw n;aF (cj b0 (.at_ (L.int 13)) H) λBx y3=>aF (a5 .FloorDiv er (L.int 8) y3) λBy y5=>aF (cj Bx (.at_ By) y5) λBz y6=>aF (a5 .Mod er (L.int 8) y6) λLM FQ=>aF (a5 .LShift (L.int 1) LM FQ) λBA y7=>aF (a5 .Sub Bz BA y7) λBB y8=>aF (cj b0 (.at_ (L.int 13)) y8) λLN FR=>aF (a5 .FloorDiv er (L.int 8) FR) λLO y9=>aj (fS LN (.at_ LO) BB y9) λup=>WJ C cZ up b0 ep fg bC ct fe gS er q):b1 False (aw n) (ei (bw (vm (bw (aW (bf 41)) 2)) 0)) pc [(cu,b0),(ew,ep),(fV,fg),(ey,cZ),(bS,bC),(sF,ct),(iH,fe),(gC,gS),(dQ,er)] H q:=bZ (by kernel_rfl) h
def Ou(C:cM)(H:an)(fe cZ b0 bC gS:L)(k:b3):Prop:=eq H (.list [(L.int 0),(L.int 0),(L.int 0)]) λBC zb=>eq zb (.tup [BC,(L.int 0)]) λBD uq=>kz BD uq 2 λAT=>fP AT λLP Jy=>aj (fS fe (.at_ (L.str eC)) LP uq) λur=>fP Jy λBE agC=>aj (fS fe (.at_ (L.str dH)) BE ur) λB0=>Ot C cZ B0 fe b0 bC gS k
theorem Xb(h:let C:=aw n;Ou C H fe cZ b0 bC gS k):(let C:=aw n;ed C ((vm (bw (aW (bf 41)) 2)).drop 1) pc (ed C ((aW (bf 41)).drop 3) pc (dM k)) .next [(cu,b0),(ew,ep),(fV,fg),(ey,cZ),(bS,bC),(sF,ct),(iH,fe),(gC,gS)] H):=bZ (by kernel_rfl) h
theorem GS(h:let C:=aw n;Ou C H fe cZ b0 bC gS k):(let C:=aw n;ed C ((vm (bw (aW (bf 41)) 2)).drop 1) pc (ed C ((aW (bf 41)).drop 3) pc (dM k)) .next [(cu,b0),(ew,ep),(fV,fg),(ey,cZ),(bS,bC),(sF,ct),(iH,fe),(gC,gS),(dQ,er)] H):=bZ (by kernel_rfl) h
theorem acO{q:b3}(h:let C:=aw n;q one H):bO False (aw n) (j8 wd 0) ub [(nb,one)] H q:=bZ (by kernel_rfl) h
theorem ads{q:Bool->an->Prop}(h:let C:=aw n;aj (bW .Gt one (L.int 0) H) λaaA=>dU aaA (q ae H) (q aA H)):jb False (aw n) (m0 wd) ub [(nb,one)] H q:=bZ (by kernel_rfl) h
def WK(C:cM)(fT:L)(fb:an)(dY:L)(k:b3):Prop:=aj (bx fT mK fb) λnx=>aF (a5 .FloorDiv dY (L.int 5) fb) λlv g5=>aF (a5 .Mod lv (L.int 60) g5) λkd ni=>aF (a5 .FloorDiv dY (L.int 300) ni) λl0 fC=>aF (a5 .Mod l0 (L.int 26) fC) λvR jh=>aF (a5 .Add (L.int 65) vR jh) λsr hr=>eq hr (.list [sr]) λvS iI=>aF (a5 .FloorDiv dY (L.int 300) iI) λiG fJ=>aF (a5 .Mod iG (L.int 20) fJ) λmy iw=>aF (a5 .Add (L.int 1) my iw) λnT i1=>aF (a5 .Mult vS nT i1) λq4 y0=>aF (cI (.type "bytes") [q4] y0) λSW rn=>bB False C nx [kd,SW] rn λanA rp=>k anA rp
theorem Zb(h:let C:=aw n;aF (a5 .Mod fg (L.int 2) H) λgK cN=>aF (cj fG (.at_ gK) cN) λl1 eD=>aF (a5 .FloorDiv fg (L.int 2) eD) λgB cx=>eq cx (.tup [l1,gB]) λnV gi=>kz nV gi 2 λJx=>fP Jx λfT vt=>fP vt λdY Js=>aF (a5 .Mod dY (L.int 5) gi) λh2 fb=>aj (bW .Eq h2 (L.int 4) fb) λHd=>dU Hd (aj (bx fT (z "truncate") fb) λnw=>bB False C nw [] fb λtS g3=>k tS g3) (WK C fT fb dY k)):aw (n+1) 910 [fG,fg] H k:=bZ (by kernel_rfl) h
def lF:ds:=(dO (bf 44)).names
def Fi:aU:=nP (bw (aW (bf 44)) 4)
def WL(C:cM)(pair:L)(gD:an)(ev e3 fG b0 ep kP il so sp:L)(k:b3):Prop:=lp pair gD λafC=>gR False lF Fi (λm H q=>b1 False C (ei (bw (aW (bf 44)) 4)) lF m H q) (.lst afC) f6 0 [(dP,ev),(eB,e3),(eP,fG),(cu,b0),(ew,ep),(iq,pair),(gC,kP),(io,il),(ey,so),(eX,sp)] gD (ed C ((aW (bf 44)).drop 5) lF (dM k))
def WM(C:cM)(e3:L)(g5:an)(pair ev fG b0 ep kP il so sp:L)(k:b3):Prop:=aj (aV e3 hl g5) λpU=>aj (bx pU sC g5) λow=>bB False C ow [] g5 λvE fC=>aj (aV e3 hl fC) λMg=>C 917 [Mg] fC λKP gD=>aj (ky KP) λrT=>dU rT (k (L.bool aA) gD) (WL C pair gD ev e3 fG b0 ep kP il so sp k)
theorem Zc(h:let C:=aw n;eq H (.list []) λgK cN=>eq cN (.list []) λl1 eD=>eq eD (.list []) λgB cx=>aj (aV ev eX cx) λmE=>eq cx (.tup [gK,l1,gB,mE]) λi9 dN=>kz i9 dN 4 λDQ=>fP DQ λkP Jr=>fP Jr λil Rc=>fP Rc λso agn=>fP agn λsp asP=>aj (aV e3 hl dN) λsy=>aj (bx sy sC dN) λnx=>bB False C nx [] dN λxv g5=>WM C e3 g5 pair ev fG b0 ep kP il so sp k):aw (n+1) 922 [ev,e3,fG,b0,ep,pair] H k:=bZ (by kernel_rfl) h
def WN(C:cM)(i6:L)(iw:an)(b0 ep fg cZ ev e3 fG pair gS h3:L)(q:ez):Prop:=aj (bx i6 l4 iw) λzY=>C 903 [b0,ep,fg,cZ] iw λBh kC=>bB False C zY [Bh] kC λSV nj=>q .next [(dP,ev),(eB,e3),(eP,fG),(cu,b0),(ew,ep),(iq,pair),(gC,gS),(io,i6),(ey,cZ),(eX,h3),(fV,fg)] nj
theorem LX(h:let C:=aw n;aj (bx gS l4 H) λzX=>C 910 [fG,fg] H λD9 fJ=>bB False C zX [D9] fJ λBg iw=>WN C i6 iw b0 ep fg cZ ev e3 fG pair gS h3 q):b1 False (aw n) (ei (bw (aW (bf 44)) 4)) lF [(dP,ev),(eB,e3),(eP,fG),(cu,b0),(ew,ep),(iq,pair),(gC,gS),(io,i6),(ey,cZ),(eX,h3),(fV,fg)] H q:=bZ (by kernel_rfl) h
theorem ajc{ct:List cD}(h:aj (aV e3 hl H) λL8=>aj (bx L8 (z "end") H) λHf=>bB False C Hf [] H λant kV=>aj (bW .NotEq gS i6 kV) λHg=>bo .Or Hg (K (.ret (L.bool aA)) [(dP,ev),(eB,e3),(eP,fG),(cu,b0),(ew,ep),(iq,pair),(gC,gS),(io,i6),(ey,cZ),(eX,h3),(fV,fg)] kV) (aj (aV ev eX kV) λL9=>aj (bW .NotEq L9 h3 kV) λHh=>bo .Or Hh (K (.ret (L.bool aA)) [(dP,ev),(eB,e3),(eP,fG),(cu,b0),(ew,ep),(iq,pair),(gC,gS),(io,i6),(ey,cZ),(eX,h3),(fV,fg)] kV) (aj (aV e3 hl kV) λMa=>aj (bx Ma (z "left") kV) λHi=>bB False C Hi [] kV λKD Fy=>aF (cI (.type "set") [cZ] Fy) λKF Fz=>aF (cI (.builtin "len") [KF] Fz) λKG FA=>aF (a5 .Sub (L.int 8) KG FA) λLv o2=>aj (bW .NotEq KD Lv o2) λHj=>bo .Or Hj (K (.ret (L.bool aA)) [(dP,ev),(eB,e3),(eP,fG),(cu,b0),(ew,ep),(iq,pair),(gC,gS),(io,i6),(ey,cZ),(eX,h3),(fV,fg)] o2) (aj (aV e3 hl o2) λMb=>aj (bx Mb (z "end") o2) λHk=>bB False C Hk [] o2 λanv yZ=>aj (aV ev eX yZ) λMc=>aF (a5 .Add h3 (L.int 2) yZ) λLw FC=>aF (cI (.type "set") [cZ] FC) λKH FD=>aF (cI (.builtin "len") [KH] FD) λKI FE=>aF (a5 .Mult (L.int 2) KI FE) λLx FF=>aF (a5 .Add Lw Lx FF) λLy rk=>aj (bW .NotEq Mc Ly rk) λHl=>bo .Or Hl (K (.ret (L.bool aA)) [(dP,ev),(eB,e3),(eP,fG),(cu,b0),(ew,ep),(iq,pair),(gC,gS),(io,i6),(ey,cZ),(eX,h3),(fV,fg)] rk) (aj (aV ev pY rk) λMe=>eq rk (.list []) λLz rl=>aj (bW .NotEq Me Lz rl) λHm=>bo .Or Hm (K (.ret (L.bool aA)) [(dP,ev),(eB,e3),(eP,fG),(cu,b0),(ew,ep),(iq,pair),(gC,gS),(io,i6),(ey,cZ),(eX,h3),(fV,fg)] rl) (aj (bx ev (z "read") rl) λHn=>bB False C Hn [(L.int 2)] rl λKL FG=>jJ (eA L.none) (eA (L.int 4)) λLn q1=>aF (cj KL (.sl Ln q1) FG) λLA FH=>aF (cI (.type "bytes") [(L.int 4)] FH) λKM uh=>aj (bW .NotEq LA KM uh) λHo=>bo .Or Ho (K (.ret (L.bool aA)) [(dP,ev),(eB,e3),(eP,fG),(cu,b0),(ew,ep),(iq,pair),(gC,gS),(io,i6),(ey,cZ),(eX,h3),(fV,fg)] uh) (b1 False C ct lF [(dP,ev),(eB,e3),(eP,fG),(cu,b0),(ew,ep),(iq,pair),(gC,gS),(io,i6),(ey,cZ),(eX,h3),(fV,fg)] uh K))))))):b1 False C (bw (aW (bf 44)) 5::bw (aW (bf 44)) 6::bw (aW (bf 44)) 7::bw (aW (bf 44)) 8::ct) lF [(dP,ev),(eB,e3),(eP,fG),(cu,b0),(ew,ep),(iq,pair),(gC,gS),(io,i6),(ey,cZ),(eX,h3),(fV,fg)] H K:=bZ (by kernel_rfl) h
theorem Xc(h:let C:=aw n;aj (aV e3 hl H) λL8=>aj (bx L8 (z "end") H) λHf=>bB False C Hf [] H λant kV=>aj (bW .NotEq gS i6 kV) λHg=>bo .Or Hg ((dM k) (.ret (L.bool aA)) [(dP,ev),(eB,e3),(eP,fG),(cu,b0),(ew,ep),(iq,pair),(gC,gS),(io,i6),(ey,cZ),(eX,h3),(fV,fg)] kV) (aj (aV ev eX kV) λL9=>aj (bW .NotEq L9 h3 kV) λHh=>bo .Or Hh ((dM k) (.ret (L.bool aA)) [(dP,ev),(eB,e3),(eP,fG),(cu,b0),(ew,ep),(iq,pair),(gC,gS),(io,i6),(ey,cZ),(eX,h3),(fV,fg)] kV) (aj (aV e3 hl kV) λMa=>aj (bx Ma (z "left") kV) λHi=>bB False C Hi [] kV λKD Fy=>aF (cI (.type "set") [cZ] Fy) λKF Fz=>aF (cI (.builtin "len") [KF] Fz) λKG FA=>aF (a5 .Sub (L.int 8) KG FA) λLv o2=>aj (bW .NotEq KD Lv o2) λHj=>bo .Or Hj ((dM k) (.ret (L.bool aA)) [(dP,ev),(eB,e3),(eP,fG),(cu,b0),(ew,ep),(iq,pair),(gC,gS),(io,i6),(ey,cZ),(eX,h3),(fV,fg)] o2) (aj (aV e3 hl o2) λMb=>aj (bx Mb (z "end") o2) λHk=>bB False C Hk [] o2 λanv yZ=>aj (aV ev eX yZ) λMc=>aF (a5 .Add h3 (L.int 2) yZ) λLw FC=>aF (cI (.type "set") [cZ] FC) λKH FD=>aF (cI (.builtin "len") [KH] FD) λKI FE=>aF (a5 .Mult (L.int 2) KI FE) λLx FF=>aF (a5 .Add Lw Lx FF) λLy rk=>aj (bW .NotEq Mc Ly rk) λHl=>bo .Or Hl ((dM k) (.ret (L.bool aA)) [(dP,ev),(eB,e3),(eP,fG),(cu,b0),(ew,ep),(iq,pair),(gC,gS),(io,i6),(ey,cZ),(eX,h3),(fV,fg)] rk) (aj (aV ev pY rk) λMe=>eq rk (.list []) λLz rl=>aj (bW .NotEq Me Lz rl) λHm=>bo .Or Hm ((dM k) (.ret (L.bool aA)) [(dP,ev),(eB,e3),(eP,fG),(cu,b0),(ew,ep),(iq,pair),(gC,gS),(io,i6),(ey,cZ),(eX,h3),(fV,fg)] rl) (aj (bx ev (z "read") rl) λHn=>bB False C Hn [(L.int 2)] rl λKL FG=>jJ (eA L.none) (eA (L.int 4)) λLn q1=>aF (cj KL (.sl Ln q1) FG) λLA FH=>aF (cI (.type "bytes") [(L.int 4)] FH) λKM uh=>aj (bW .NotEq LA KM uh) λHo=>bo .Or Ho ((dM k) (.ret (L.bool aA)) [(dP,ev),(eB,e3),(eP,fG),(cu,b0),(ew,ep),(iq,pair),(gC,gS),(io,i6),(ey,cZ),(eX,h3),(fV,fg)] uh) (b1 False C ((aW (bf 44)).drop 9) lF [(dP,ev),(eB,e3),(eP,fG),(cu,b0),(ew,ep),(iq,pair),(gC,gS),(io,i6),(ey,cZ),(eX,h3),(fV,fg)] uh (dM k)))))))):(let C:=aw n;ed C ((aW (bf 44)).drop 5) lF (dM k) .next [(dP,ev),(eB,e3),(eP,fG),(cu,b0),(ew,ep),(iq,pair),(gC,gS),(io,i6),(ey,cZ),(eX,h3),(fV,fg)] H):=XY (ss:=bw (aW (bf 44)) 5::bw (aW (bf 44)) 6::bw (aW (bf 44)) 7::bw (aW (bf 44)) 8::((aW (bf 44)).drop 9)) (by kernel_rfl) (ajc h)
end
end Mine.Internal.P
end
noncomputable section
open PySem PySem.W PyProof.Rows PySem.Calls
namespace Mine.Internal.P
section
variable {A B:Prop}{H:an}{b:Bool}
noncomputable abbrev bh:=Nat×Nat
noncomputable abbrev bh.scr:bh:=(0,0)
noncomputable abbrev bh.c:bh:=(1,0)
noncomputable abbrev bh.d:bh:=(2,0)
noncomputable abbrev bh.j:bh:=(3,0)
noncomputable abbrev bh.s:bh:=(4,0)
noncomputable abbrev bh.n:bh:=(5,0)
noncomputable abbrev bh.row:bh:=(6,0)
noncomputable abbrev bh.bn:bh:=(7,0)
noncomputable abbrev bh.la:bh:=(8,0)
noncomputable abbrev bh.ke:bh:=(9,0)
noncomputable abbrev bh.un:bh:=(10,0)
noncomputable abbrev bh.ns:bh:=(11,0)
noncomputable abbrev bh.nt:bh:=(12,0)
noncomputable abbrev bh.tp:bh:=(13,0)
noncomputable abbrev bh.bo(k:Nat):bh:=(14,k)
noncomputable abbrev bh.bd(k:Nat):bh:=(15,k)
noncomputable abbrev bh.nd(k:Nat):bh:=(16,k)
noncomputable abbrev bh.pl(k:Nat):bh:=(17,k)
noncomputable abbrev bh.im:bh:=(18,0)
noncomputable abbrev bh.ir(k:Nat):bh:=(19,k)
noncomputable abbrev bh.fd(k:Nat):bh:=(20,k)
noncomputable abbrev bh.fp(k:Nat):bh:=(21,k)
noncomputable abbrev bh.to:bh:=(22,0)
noncomputable abbrev bh.tb:bh:=(23,0)
noncomputable abbrev bh.fs:bh:=(24,0)
noncomputable abbrev bh.x(k:Nat):bh:=(25,k)
theorem aC{a b:bh}(e:kG a.1 b.1=aA):¬a=b:=λh=>by subst h;exact b8 (e.symm.trans (Nat.beq_refl a.1))
abbrev dB:=List (bh×bt)
noncomputable def ao(K:dB):an:=K.map (·.2)
section
variable {K:dB}{i j:Nat}{r fR:bh}{o o' vy:bt}{C:cM}
theorem mo:(ao K).length=K.length:=d0 ..
theorem d8(e:K[i]? =J (r,o)):(ao K)[i]? =J o:=by unfold ao;exact G kZ (G e rfl)
theorem adg(e:K[i]? =J (r,vy)):(ao K).set i o=ao (K.set i (r,o)):=by unfold ao;(exact G MT rfl)
theorem nB:ao K++[o]=ao (K++[(r,o)]):=by unfold ao;exact G p8 rfl
theorem A1(e:K[i]? =J (r,o)):i<K.length:=(kF.mp e).1
theorem aI(e:K[i]? =J (r,vy))(e2:K[j]? =J (fR,o'))(h:¬r=fR):(K.set i (r,o))[j]? =J (fR,o'):=by
 exact G (MP (λz=>h (by subst z;rw [e] at e2;cases e2;rfl))) e2
theorem fo(e:K[i]? =J (r,vy)):(K.set i (r,o))[i]? =J (r,o):=Vh (A1 e)
theorem cf(e:K[i]? =J (r,o)){l:dB}:(K++l)[i]? =J (r,o):=G (sM (A1 e)) e
theorem c2:(K++[(r,o)])[K.length]? =J (r,o):=by simp
def gW(K:dB):Prop:=∃o,K[0]? =J (.scr,o)
theorem gW.set(fk:gW K)(e:K[i]? =J (r,vy))(h:¬r=.scr):gW (K.set i (r,o)):=cm fk λo z=>⟨o,aI e z h⟩
theorem gW.app(fk:gW K){l:dB}:gW (K++l):=cm fk λo z=>⟨o,cf z⟩
theorem q5(fk:gW K)(e:K[i]? =J (r,vy))(h:¬r=.scr):wr (ao K) i o=J (ao (K.set i (r,o))):=by
 unfold wr;(exact G (a8 (λz=>by subst z;obtain⟨o,z⟩:=fk;rw [e] at z;cases z;exact h rfl)) (G (adg e) rfl))
theorem au{ay:Type}{p:Option ay}{a:ay}{k:ay->Prop}(e:p=J a)(h:k a):aj p k:=by subst e;exact h
theorem a3{ay bF:Type}{p:Option (ay×bF)}{a:ay}{b:bF}{k:ay->bF->Prop}(e:p=J (a,b))(h:k a b):aF p k:=by subst e;exact h
theorem gz(r:bh){k:b3}(h:k (.new K.length) (ao (K++[(r,o)]))):eq (ao K) o k:=by unfold eq;exact G mo (G (nB (r:=r)) h)
theorem nR{l:List L}{n:Nat}{k:List L->Prop}(e:K[i]? =J (r,.tup l))(aQ:l.length=n)(h:k l):kz (.new i) (ao K) n k:=by
 unfold kz;simp only [d8 e,aQ,if_true];exact h
theorem pH{l:List L}{k:Nat->Prop}(e:K[i]? =J (r,.list l))(h:k i):lp (.new i) (ao K) k:=by
 have e:listOf (.new i) (ao K)=J i:=by
  show(((ao K)[i]?.bind AX).bind λ_=>J i)=_
  rw [d8 e];rfl
 unfold lp;rw [e];exact h
theorem jq(e:b=ae)(h:A):dU b A B:=by subst e;exact h
theorem g7(e:b=aA)(h:B):dU b A B:=by subst e;exact h
theorem lr(e:b=aA)(h:B):bo .Or b A B:=by subst e;exact h
theorem ai4(e:b=ae)(h:A):bo .Or b A B:=by subst e;exact h
theorem pj(e:b=ae)(h:B):bo .And b A B:=by subst e;exact h
theorem ot(e:b=aA)(h:A):bo .And b A B:=by subst e;exact h
noncomputable def aip:L->Bool
 | .st _=>aA
 |_=>ae
variable {c:a1}{l:List (Str×L)}{x:Str}{v:L}
theorem aN(e:K[i]? =J (r,.inst c l))(e2:cy l x=J v)(aP:aip v=ae):aV (.new i) x (ao K)=J v:=by
 unfold aV;simp only [d8 e,e2];rcases v<;>first |rfl|exact b8 aP
theorem c1{f:a1}(e:K[i]? =J (r,.inst c l))(e2:cy l x=ac)(aP:cy (qv c) x=J f):bx (.new i) x (ao K)=J (.fn f [.new i]):=by
 unfold bx;simp only [d8 e,e2,aP];rfl
theorem iV{l':List (Str×L)}(fk:gW K)(e:K[i]? =J (r,.inst c l))(h:¬r=.scr)(aQ:bH l.length=ae)(e2:fA l x v=l'):ft (.new i) x v (ao K)=J (ao (K.set i (r,.inst c l'))):=by
 unfold ft;simp only [d8 e,aQ,if_true,e2];exact q5 fk e h
theorem CW{l:List (L×L)}(e:K[i]? =J (r,.dict l)):bx (.new i) "get" (ao K)=J (.me (.new i) "get"):=by
 unfold bx;simp only [d8 e];rfl
theorem qu{l:List L}(e:K[i]? =J (r,.list l)):bx (.new i) "append" (ao K)=J (.me (.new i) "append"):=by
 unfold bx;simp only [d8 e];rfl
theorem abQ{l:List L}(e:K[i]? =J (r,.list l)):bx (.new i) "remove" (ao K)=J (.me (.new i) "remove"):=by
 unfold bx;simp only [d8 e];rfl
theorem abJ{l:dI}(e:K[i]? =J (r,.ba l)):bx (.new i) "extend" (ao K)=J (.me (.new i) "extend"):=by
 unfold bx;simp only [d8 e];rfl
variable {k:b3}{u w:L}
theorem lS{o:L}{n:Str}{vs:List L}{bb:an}(e:lT o n vs H=J (v,bb))(h:k v bb):bB False C (.me o n) vs H k:=by
 unfold bB;simp only [e];exact h
theorem JI{l:List (L×L)}(e:K[i]? =J (r,.dict l))(hk:fX u=ae):lT (.new i) "get" [u] (ao K)=J ((dV l u).getD .none,ao K):=by
 unfold lT;simp only [d8 e];refine G (aY trivial) ?_;simp only [hk,if_true]
theorem ahF{l:List (L×L)}(e:K[i]? =J (r,.dict l))(hk:fX u=ae):lT (.new i) "get" [u,w] (ao K)=J ((dV l u).getD w,ao K):=by
 unfold lT;simp only [d8 e];refine G (aY trivial) ?_;simp only [hk,if_true]
theorem tN{l:List L}(fk:gW K)(e:K[i]? =J (r,.list l))(h:¬r=.scr)(aQ:bH l.length=ae):lT (.new i) "append" [u] (ao K)=J (.none,ao (K.set i (r,.list (l++[u])))):=by
 unfold lT;simp only [d8 e];refine G (aY trivial) ?_;simp only [aQ,if_true,q5 fk e h];rfl
theorem ahE{l b:dI}(fk:gW K)(e:K[i]? =J (r,.ba l))(h:¬r=.scr)(aQ:bH (l.length+b.length)=ae):lT (.new i) "extend" [.bytes b] (ao K)=J (.none,ao (K.set i (r,.ba (l++b)))):=by
 unfold lT;simp only [d8 e];refine G (aY trivial) ?_;simp only [aQ,if_true,q5 fk e h];rfl
theorem ahG{l:List L}{q:Nat}(fk:gW K)(e:K[i]? =J (r,.list l))(h:¬r=.scr)(aQ:bH l.length=ae)(hb:l.all (oE (ao K))=ae)(aq:tz (.new j) l=J q):
  lT (.new i) "remove" [.new j] (ao K)=J (.none,ao (K.set i (r,.list (l.eraseIdx q)))):=by
 unfold lT;simp only [d8 e];refine G (a8 (by decide)) (G (aY trivial) ?_)
 simp only [aQ,hb,aq,Mx,if_true,Na,q5 fk e h];rfl
theorem fE{n:Nat}(h:n<=65536):bH n=ae:=decide_eq_true h
theorem pE{l:List L}(e:K[i]? =J (r,.list l))(aQ:bH l.length=ae):cI (.builtin "len") [.new i] (ao K)=J (.int l.length,ao K):=by
 show((ao K)[i]?).bind _=_
 rw [d8 e];exact aY aQ
theorem aha{l:List L}(e:K[i]? =J (r,.set l))(aQ:bH l.length=ae):cI (.builtin "len") [.new i] (ao K)=J (.int l.length,ao K):=by
 show((ao K)[i]?).bind _=_
 rw [d8 e];exact aY aQ
theorem JD{l:dI}(e:K[i]? =J (r,.ba l))(aQ:bH l.length=ae):cI (.builtin "len") [.new i] (ao K)=J (.int l.length,ao K):=by
 show((ao K)[i]?).bind _=_
 rw [d8 e];exact aY aQ
theorem AW{l:dI}(aQ:bH l.length=ae):cI (.builtin "len") [.bytes l] H=J (.int l.length,H):=
 aY aQ
theorem Pd{l:dI}(e:K[i]? =J (r,.ba l))(aQ:bH l.length=ae):cI (.type "bytes") [.new i] (ao K)=J (.bytes l,ao K):=by
 show((ao K)[i]?).bind _=_
 rw [d8 e];exact aY aQ
theorem Pe{l:dI}(aQ:bH l.length=ae):cI (.type "bytes") [.bytes l] H=J (.bytes l,H):=
 aY aQ
theorem G8{l:List L}{b:dI}(e:K[i]? =J (r,.list l))(aQ:bH l.length=ae)(aR:bR l=J b):cI (.type "bytes") [.new i] (ao K)=J (.bytes b,ao K):=by
 show((ao K)[i]?).bind _=_
 rw [d8 e];show(if bH l.length then(bR l).map (L.bytes ·,ao K) else ac)=_
 exact G (aY aQ) (G aR rfl)
theorem CQ{n:Int}(h:0<=n/\n<=65536):cI (.type "bytes") [.int n] H=J (.bytes (f9 n.toNat 0),H):=
 aY h
theorem Zo{l:dI}(aQ:bH l.length=ae)(r:bh):cI (.type "bytearray") [.bytes l] (ao K)=J (.new K.length,ao (K++[(r,.ba l)])):=by
 show(if bH l.length then J (L.new (ao K).length,ao K++[.ba l]) else ac)=_
 (exact G (aY aQ) (G (nB (r:=r)) (G mo rfl)))
end
end
variable {H:an}{K:dB}{i j:Nat}{r:bh}{o o':bt}{C:cM}{v u:L}
section
variable {S:bh->Bool}{l:List (L×L)}
theorem D1{ay:Type}[DecidableEq ay]:∀ {l m:List ay},l.Nodup->(∀x∈l,x∈m)->l.length<=m.length
 | [],_,_,_=>hf _
 |x::l,m,hn,h=>by
  have aO:=h x fK;have cO:=D1 (m:=m.erase x) (n5.mp hn).2 λy hy=>(List.mem_erase_of_ne (λz=>(n5.mp hn).1 (by exact cT z hy))).mpr (h y (f8 _ hy))
  exact G sO (XB (List.length_erase_of_mem aO▸cO) (List.length_pos_of_mem aO))
theorem C7(l:List (L×L))(k v fO:L):dV (g9 l k v) fO=if k=fO then J v else dV l fO:=by
 induction l with
 |nil=>rfl
 |cons p l ih=>
  obtain⟨y,u⟩:=p;rw [tw];by_cases h:y=k
  ·refine G (aY h) ?_;subst h;refine G oz (G (oz (v:=u)) ?_);by_cases ak:y=fO
   ·(exact G (aY ak) (G (aY ak) rfl))
   ·(exact G (a8 ak) (G (a8 ak) (G (a8 ak) rfl)))
  ·refine G (a8 h) (G oz (G oz ?_));by_cases ak:y=fO
   ·(exact G (aY ak) (G (aY ak) (G (a8 (λz=>h (ak.trans z.symm))) rfl)))
   ·(exact G (a8 ak) (G (a8 ak) (G ih rfl)))
theorem PW(l:List (L×L))(k v:L):(g9 l k v).map (·.1)=if k∈l.map (·.1) then l.map (·.1) else l.map (·.1)++[k]:=by
 induction l with
 |nil=>rfl
 |cons p l ih=>
  obtain⟨y,u⟩:=p;rw [tw];by_cases h:y=k
  ·exact G (aY h) (G (aY (by rw [h9];exact h▸fK)) rfl)
  ·refine G (a8 h) (G h9 (G ih (G h9 ?_)));have e:(k∈y::l.map (·.1))=(k∈l.map (·.1)):=propext ⟨λz=>(fw.mp z).resolve_left λq=>h q.symm,λz=>f8 _ z⟩
   simp only [e];by_cases ak:k∈l.map (·.1)
   ·(exact G (aY ak) (G (aY ak) rfl))
   ·exact G (a8 ak) (G (a8 ak) rfl)
theorem PT{k:L}(h:k∉l.map (·.1)):dV l k=ac:=by
 induction l with
 |nil=>rfl
 |cons p l ih=>
  refine G oz ?_;rw [h9,fw,not_or] at h;(exact G (a8 (λz=>h.1 z.symm)) (G (ih h.2) rfl))
theorem PO(l:List (L×L))(k:L):(li l k).map (·.1)=(l.map (·.1)).erase k:=by
 induction l with
 |nil=>rfl
 |cons p l ih=>
  obtain⟨y,u⟩:=p;rw [PN];refine G h9 (G List.erase_cons ?_);by_cases h:y=k
  ·(exact G (aY h) (G (aY (by simpa using h)) rfl))
  ·(exact G (a8 h) (G (a8 (by simpa using h)) (G h9 (G ih rfl))))
theorem acm{k fO:L}(hn:(l.map (·.1)).Nodup):dV (li l k) fO=if k=fO then ac else dV l fO:=by
 induction l with
 |nil=>exact(ite_self _).symm
 |cons p l ih=>
  obtain⟨y,u⟩:=p;rw [h9,n5] at hn;rw [PN];by_cases h:y=k
  ·refine G (aY h) ?_;subst h;by_cases ak:y=fO
   ·refine G (aY ak) ?_;subst ak;exact PT hn.1
   ·refine G (a8 ak) (G (oz (v:=u)) ?_);(exact G (a8 ak) rfl)
  ·refine G (a8 h) (G oz (G oz ?_));by_cases ak:y=fO
   ·(exact G (aY ak) (G (aY ak) (G (a8 (λz=>h (ak.trans z.symm))) rfl)))
   ·(exact G (a8 ak) (G (a8 ak) (G (ih hn.2) rfl)))
def Jp:List L:=(nn 22).map λ(n:Nat)=>.int (n:Int)
structure jj(l:List (L×L)):Prop where
 nd:(l.map (·.1)).Nodup
 sub:∀x∈l.map (·.1),x∈Jp
theorem age{n:Nat}(h:n<22):L.int (n:Int)∈Jp:=hQ.mpr ⟨n,MU.mpr h,rfl⟩
theorem jj.le(h:jj l):l.length<=22:=by
 have :=D1 h.nd h.sub;rwa [d0] at this
theorem jj.fits(h:jj l):bH l.length=ae:=fE (cQ h.le (by decide))
theorem jj.put(h:jj l){n:Nat}(hn:n<22)(v:L):jj (g9 l (.int n) v):=by
 constructor
 ·refine G (PW ..) ?_;split
  ·exact h.nd
  ·rename_i ak;exact F7.mpr ⟨h.nd,by simp,λa ha b hb=>G (jk.mp hb) (λz=>ak (z▸ha))⟩
 ·refine G (PW ..) ?_;split
  ·exact h.sub
  ·exact λx aO=>by
    rcases md.mp aO with aO|aO
    ·exact h.sub x aO
    ·exact G (jk.mp aO) (age hn)
theorem jj.del(h:jj l)(k:L):jj (li l k):=by
 constructor
 ·exact G (PO ..) (h.nd.erase _)
 ·exact G (PO ..) (λx aO=>h.sub x (List.mem_of_mem_erase aO))
theorem xe{a b:Nat}(h:¬a=b):¬L.int (a:Int)=L.int (b:Int):=λz=>h (by injection z with z;exact Int.ofNat.inj z)
structure g1 where
 (s d c j n row bn la ke tb:Nat)
structure e6 where
 (o dt num:Nat) (data:dI) (ho pi:Int)
structure hq where
 (hits reads cw:Int) (bs:List e6) (bnl:List (L×L)) (held:Option Nat) (pd:List Nat)
structure gj where
 (lal kel:List (L×L)) (un:Nat) (unl:List (Nat×Nat×List UInt8)) (writes flushes:Int) (ns:Nat) (nums:List Nat) (nt:Nat) (ntl:List (L×L)) (calls commits:Int)
abbrev aob:bt:=.inst 192 [(iY,.int 48),(mG,.int 22),(z "inodes",.int 4),(z "log",.int 9),(lA,.int 2),(jc,.int 24),(eP,.int 2),(z "indirect",.int 12),(z "log_start",.int 2),(BM,.int 11),(BL,.int 13),(v7,.int 14)]
abbrev CU(A:g1)(al:hq):bt:=.inst 658 [(dP,.new A.d),(nZ,.int 14),(dH,.int 48),(jc,.new A.row),(sD,.new A.bn),(z "hits",.int al.hits),(z "reads",.int al.reads),(eX,.int al.cw)]
abbrev HY(A:g1)(re:gj):bt:=.inst 754 [(mG,.int 22),(dH,.int 48),(z "kept",.new A.ke),(z "latest",.new A.la),(pY,.new re.un),(eX,.int re.writes),(pX,.int re.flushes),(z "last",.none),(yP,.none),(z "is_dead",.bool aA)]
abbrev DL(A:g1)(re:gj):bt:=.inst 865 [(fU,.new A.c),(q8,.int 2),(dH,.int 9),(eC,.int 8),(nZ,.int 8),(z "each",.int 4),(e5,.new re.ns),(t0,.new re.nt),(mH,.int re.calls),(sE,.int re.commits)]
abbrev ahZ(A:g1):bt:=.inst 441 [(hl,.new A.j),(fU,.new A.c),(hO,.new A.s),(z "table",.new A.tb)]
abbrev wP(b:e6):bt:=.inst 539 [(bS,.int b.num),(gf,.new b.dt),(iZ,.int b.ho),(nc,.int b.pi)]
structure bP(A:g1)(al:hq)(re:gj)(K:dB):Prop where
 z:gW K
 s:K[A.s]? =J (.s,aob)
 n:K[A.n]? =J (.n,ahZ A)
 c:K[A.c]? =J (.c,CU A al)
 d:K[A.d]? =J (.d,HY A re)
 j:K[A.j]? =J (.j,DL A re)
 row:K[A.row]? =J (.row,.list (al.bs.map λb=>.new b.o))
 bn:K[A.bn]? =J (.bn,.dict al.bnl)
 la:K[A.la]? =J (.la,.dict re.lal)
 ke:K[A.ke]? =J (.ke,.dict re.kel)
 un:K[re.un]? =J (.un,.list (re.unl.map λt=>.new t.1))
 ut:∀t∈re.unl,K[t.1]? =J (.tp,.tup [.int (t.2.1:Nat),.bytes t.2.2])
 ns:K[re.ns]? =J (.ns,.list (re.nums.map λ(n:Nat)=>.int (n:Int)))
 nt:K[re.nt]? =J (.nt,.dict re.ntl)
 bo:∀b∈al.bs,K[b.o]? =J (.bo b.num,wP b)
 bd:∀b∈al.bs,K[b.dt]? =J (.bd b.num,.ba b.data)
theorem O8{n a b:Nat}(h:a<=b)(e:Cg n b=aA):Cg n a=aA:=by
 rcases aB:Cg n a
 ·rfl
 ·exact b8 (e.symm.trans (Nat.ble_eq_true_of_le (cQ (mQ aB) h)))
noncomputable def fN(r:bh):Bool:=Cg r.1 16
def Fr(S:bh->Bool)(K aX:dB):Prop:=∀(i:Nat) (r:bh) (o:bt),K[i]? =J (r,o)->S r=aA->aX[i]? =J (r,o)
theorem Fr.refl(K:dB):Fr S K K:=λ_ _ _ e _=>e
theorem Fr.trans{K cp dZ:dB}(a:Fr S K cp)(b:Fr S cp dZ):Fr S K dZ:=λi r o e h=>b i r o (a i r o e h) h
theorem Fr.app(K l:dB):Fr S K (K++l):=λ_ _ _ e _=>cf e
theorem Fr.set{K:dB}{i:Nat}{r:bh}{o o':bt}(e:K[i]? =J (r,o))(h:S r=ae):Fr S K (K.set i (r,o')):=λj fR en e2 ak=>aI e e2 λz=>by rw [z,ak] at h;exact b8 h
section
variable {A:g1}{al:hq}{re:gj}
theorem bP.app(S:bP A al re K)(l:dB):bP A al re (K++l):=
 ⟨S.z.app,cf S.s,cf S.n,cf S.c,cf S.d,cf S.j,cf S.row,cf S.bn,cf S.la,cf S.ke,cf S.un,λt h=>cf (S.ut t h),cf S.ns,cf S.nt,λb h=>cf (S.bo b h),λb h=>cf (S.bd b h)⟩
theorem lR{r fR:bh}(h:fN r=aA)(ak:fN fR=ae):¬r=fR:=λz=>by rw [z,ak] at h;exact b8 h.symm
theorem bP.set(S:bP A al re K)(e:K[i]? =J (r,o))(h:fN r=aA):bP A al re (K.set i (r,o')):=
 ⟨S.z.set e (lR h rfl),aI e S.s (lR h rfl),aI e S.n (lR h rfl),aI e S.c (lR h rfl),aI e S.d (lR h rfl),aI e S.j (lR h rfl),aI e S.row (lR h rfl),aI e S.bn (lR h rfl),
  aI e S.la (lR h rfl),aI e S.ke (lR h rfl),aI e S.un (lR h rfl),λt q=>aI e (S.ut t q) (lR h rfl),aI e S.ns (lR h rfl),aI e S.nt (lR h rfl),λb q=>aI e (S.bo b q) (lR h rfl),λb q=>aI e (S.bd b q) (lR h rfl)⟩
theorem bP.setC(S:bP A al re K)(AE Bi cw:Int):bP A {al with hits:=AE,reads:=Bi,cw:=cw} re (K.set A.c (.c,CU A {al with hits:=AE,reads:=Bi,cw:=cw})):=
 ⟨S.z.set S.c (aC rfl),aI S.c S.s (aC rfl),aI S.c S.n (aC rfl),fo S.c,aI S.c S.d (aC rfl),aI S.c S.j (aC rfl),aI S.c S.row (aC rfl),aI S.c S.bn (aC rfl),aI S.c S.la (aC rfl),aI S.c S.ke (aC rfl),aI S.c S.un (aC rfl),λt q=>aI S.c (S.ut t q) (aC rfl),
  aI S.c S.ns (aC rfl),aI S.c S.nt (aC rfl),λb q=>aI S.c (S.bo b q) (aC rfl),λb q=>aI S.c (S.bd b q) (aC rfl)⟩
theorem bP.setD(S:bP A al re K)(h3 Qf:Int):bP A al {re with writes:=h3,flushes:=Qf} (K.set A.d (.d,HY A {re with writes:=h3,flushes:=Qf})):=
 ⟨S.z.set S.d (aC rfl),aI S.d S.s (aC rfl),aI S.d S.n (aC rfl),aI S.d S.c (aC rfl),fo S.d,aI S.d S.j (aC rfl),aI S.d S.row (aC rfl),aI S.d S.bn (aC rfl),aI S.d S.la (aC rfl),aI S.d S.ke (aC rfl),aI S.d S.un (aC rfl),λt q=>aI S.d (S.ut t q) (aC rfl),
  aI S.d S.ns (aC rfl),aI S.d S.nt (aC rfl),λb q=>aI S.d (S.bo b q) (aC rfl),λb q=>aI S.d (S.bd b q) (aC rfl)⟩
theorem bP.setUn(S:bP A al re K){u:Nat}(e:K[u]? =J (.un,.list [])):bP A al {re with un:=u,unl:=[]} (K.set A.d (.d,HY A {re with un:=u,unl:=[]})):=
 ⟨S.z.set S.d (aC rfl),aI S.d S.s (aC rfl),aI S.d S.n (aC rfl),aI S.d S.c (aC rfl),fo S.d,aI S.d S.j (aC rfl),aI S.d S.row (aC rfl),aI S.d S.bn (aC rfl),aI S.d S.la (aC rfl),aI S.d S.ke (aC rfl),aI S.d e (aC rfl),(λ_ h=>absurd h jl),
  aI S.d S.ns (aC rfl),aI S.d S.nt (aC rfl),λb q=>aI S.d (S.bo b q) (aC rfl),λb q=>aI S.d (S.bd b q) (aC rfl)⟩
theorem bP.setJ(S:bP A al re K)(calls C4:Int):bP A al {re with calls:=calls,commits:=C4} (K.set A.j (.j,DL A {re with calls:=calls,commits:=C4})):=
 ⟨S.z.set S.j (aC rfl),aI S.j S.s (aC rfl),aI S.j S.n (aC rfl),aI S.j S.c (aC rfl),aI S.j S.d (aC rfl),fo S.j,aI S.j S.row (aC rfl),aI S.j S.bn (aC rfl),aI S.j S.la (aC rfl),aI S.j S.ke (aC rfl),aI S.j S.un (aC rfl),λt q=>aI S.j (S.ut t q) (aC rfl),
  aI S.j S.ns (aC rfl),aI S.j S.nt (aC rfl),λb q=>aI S.j (S.bo b q) (aC rfl),λb q=>aI S.j (S.bd b q) (aC rfl)⟩
theorem bP.setNs(S:bP A al re K){u:Nat}(e:K[u]? =J (.ns,.list [])):bP A al {re with ns:=u,nums:=[]} (K.set A.j (.j,DL A {re with ns:=u,nums:=[]})):=
 ⟨S.z.set S.j (aC rfl),aI S.j S.s (aC rfl),aI S.j S.n (aC rfl),aI S.j S.c (aC rfl),aI S.j S.d (aC rfl),fo S.j,aI S.j S.row (aC rfl),aI S.j S.bn (aC rfl),aI S.j S.la (aC rfl),aI S.j S.ke (aC rfl),aI S.j S.un (aC rfl),λt q=>aI S.j (S.ut t q) (aC rfl),
  aI S.j e (aC rfl),aI S.j S.nt (aC rfl),λb q=>aI S.j (S.bo b q) (aC rfl),λb q=>aI S.j (S.bd b q) (aC rfl)⟩
theorem bP.setNt(S:bP A al re K){u:Nat}(e:K[u]? =J (.nt,.dict [])):bP A al {re with nt:=u,ntl:=[]} (K.set A.j (.j,DL A {re with nt:=u,ntl:=[]})):=
 ⟨S.z.set S.j (aC rfl),aI S.j S.s (aC rfl),aI S.j S.n (aC rfl),aI S.j S.c (aC rfl),aI S.j S.d (aC rfl),fo S.j,aI S.j S.row (aC rfl),aI S.j S.bn (aC rfl),aI S.j S.la (aC rfl),aI S.j S.ke (aC rfl),aI S.j S.un (aC rfl),λt q=>aI S.j (S.ut t q) (aC rfl),
  aI S.j S.ns (aC rfl),aI S.j e (aC rfl),λb q=>aI S.j (S.bo b q) (aC rfl),λb q=>aI S.j (S.bd b q) (aC rfl)⟩
theorem bP.setRow(S:bP A al re K){bs:List e6}(ai:∀b∈bs,K[b.o]? =J (.bo b.num,wP b))(ak:∀b∈bs,K[b.dt]? =J (.bd b.num,.ba b.data)):bP A {al with bs:=bs} re (K.set A.row (.row,.list (bs.map λb=>.new b.o))):=
 ⟨S.z.set S.row (aC rfl),aI S.row S.s (aC rfl),aI S.row S.n (aC rfl),aI S.row S.c (aC rfl),aI S.row S.d (aC rfl),aI S.row S.j (aC rfl),fo S.row,aI S.row S.bn (aC rfl),aI S.row S.la (aC rfl),aI S.row S.ke (aC rfl),aI S.row S.un (aC rfl),λt q=>aI S.row (S.ut t q) (aC rfl),
  aI S.row S.ns (aC rfl),aI S.row S.nt (aC rfl),λb q=>aI S.row (ai b q) (aC rfl),λb q=>aI S.row (ak b q) (aC rfl)⟩
theorem bP.setBn(S:bP A al re K)(l:List (L×L)):bP A {al with bnl:=l} re (K.set A.bn (.bn,.dict l)):=
 ⟨S.z.set S.bn (aC rfl),aI S.bn S.s (aC rfl),aI S.bn S.n (aC rfl),aI S.bn S.c (aC rfl),aI S.bn S.d (aC rfl),aI S.bn S.j (aC rfl),aI S.bn S.row (aC rfl),fo S.bn,aI S.bn S.la (aC rfl),aI S.bn S.ke (aC rfl),aI S.bn S.un (aC rfl),λt q=>aI S.bn (S.ut t q) (aC rfl),
  aI S.bn S.ns (aC rfl),aI S.bn S.nt (aC rfl),λb q=>aI S.bn (S.bo b q) (aC rfl),λb q=>aI S.bn (S.bd b q) (aC rfl)⟩
theorem bP.setLa(S:bP A al re K)(l:List (L×L)):bP A al {re with lal:=l} (K.set A.la (.la,.dict l)):=
 ⟨S.z.set S.la (aC rfl),aI S.la S.s (aC rfl),aI S.la S.n (aC rfl),aI S.la S.c (aC rfl),aI S.la S.d (aC rfl),aI S.la S.j (aC rfl),aI S.la S.row (aC rfl),aI S.la S.bn (aC rfl),fo S.la,aI S.la S.ke (aC rfl),aI S.la S.un (aC rfl),λt q=>aI S.la (S.ut t q) (aC rfl),
  aI S.la S.ns (aC rfl),aI S.la S.nt (aC rfl),λb q=>aI S.la (S.bo b q) (aC rfl),λb q=>aI S.la (S.bd b q) (aC rfl)⟩
theorem bP.setKe(S:bP A al re K)(l:List (L×L)):bP A al {re with kel:=l} (K.set A.ke (.ke,.dict l)):=
 ⟨S.z.set S.ke (aC rfl),aI S.ke S.s (aC rfl),aI S.ke S.n (aC rfl),aI S.ke S.c (aC rfl),aI S.ke S.d (aC rfl),aI S.ke S.j (aC rfl),aI S.ke S.row (aC rfl),aI S.ke S.bn (aC rfl),aI S.ke S.la (aC rfl),fo S.ke,aI S.ke S.un (aC rfl),λt q=>aI S.ke (S.ut t q) (aC rfl),
  aI S.ke S.ns (aC rfl),aI S.ke S.nt (aC rfl),λb q=>aI S.ke (S.bo b q) (aC rfl),λb q=>aI S.ke (S.bd b q) (aC rfl)⟩
theorem bP.addUn(S:bP A al re K)(t:Nat×Nat×List UInt8)(e:K[t.1]? =J (.tp,.tup [.int (t.2.1:Nat),.bytes t.2.2])):bP A al {re with unl:=re.unl++[t]} (K.set re.un (.un,.list ((re.unl++[t]).map λt=>.new t.1))):=
 ⟨S.z.set S.un (aC rfl),aI S.un S.s (aC rfl),aI S.un S.n (aC rfl),aI S.un S.c (aC rfl),aI S.un S.d (aC rfl),aI S.un S.j (aC rfl),aI S.un S.row (aC rfl),aI S.un S.bn (aC rfl),aI S.un S.la (aC rfl),aI S.un S.ke (aC rfl),fo S.un,
  λvM q=>by
   rcases md.mp q with q|q
   ·exact aI S.un (S.ut vM q) (aC rfl)
   ·refine G (jk.mp q) ?_;exact aI S.un e (aC rfl),
  aI S.un S.ns (aC rfl),aI S.un S.nt (aC rfl),λb q=>aI S.un (S.bo b q) (aC rfl),λb q=>aI S.un (S.bd b q) (aC rfl)⟩
theorem bP.addNs(S:bP A al re K)(n:Nat):bP A al {re with nums:=re.nums++[n]} (K.set re.ns (.ns,.list ((re.nums++[n]).map λ(n:Nat)=>.int (n:Int)))):=
 ⟨S.z.set S.ns (aC rfl),aI S.ns S.s (aC rfl),aI S.ns S.n (aC rfl),aI S.ns S.c (aC rfl),aI S.ns S.d (aC rfl),aI S.ns S.j (aC rfl),aI S.ns S.row (aC rfl),aI S.ns S.bn (aC rfl),aI S.ns S.la (aC rfl),aI S.ns S.ke (aC rfl),aI S.ns S.un (aC rfl),λt q=>aI S.ns (S.ut t q) (aC rfl),
  fo S.ns,aI S.ns S.nt (aC rfl),λb q=>aI S.ns (S.bo b q) (aC rfl),λb q=>aI S.ns (S.bd b q) (aC rfl)⟩
theorem bP.putNt(S:bP A al re K)(l:List (L×L)):bP A al {re with ntl:=l} (K.set re.nt (.nt,.dict l)):=
 ⟨S.z.set S.nt (aC rfl),aI S.nt S.s (aC rfl),aI S.nt S.n (aC rfl),aI S.nt S.c (aC rfl),aI S.nt S.d (aC rfl),aI S.nt S.j (aC rfl),aI S.nt S.row (aC rfl),aI S.nt S.bn (aC rfl),aI S.nt S.la (aC rfl),aI S.nt S.ke (aC rfl),aI S.nt S.un (aC rfl),λt q=>aI S.nt (S.ut t q) (aC rfl),
  aI S.nt S.ns (aC rfl),fo S.nt,λb q=>aI S.nt (S.bo b q) (aC rfl),λb q=>aI S.nt (S.bd b q) (aC rfl)⟩
noncomputable def hB(n:Nat)(f:e6->e6)(bs:List e6):List e6:=bs.map λb=>if b.num=n then f b else b
theorem bP.setBo(S:bP A al re K)(hn:(al.bs.map (·.num)).Nodup){b:e6}(hb:b∈al.bs)(aR SI:Int):bP A {al with bs:=hB b.num (λb=> {b with ho:=aR,pi:=SI}) al.bs} re (K.set b.o (.bo b.num,wP {b with ho:=aR,pi:=SI})):=by
 have e:=S.bo b hb;have key:∀ck∈al.bs,ck.num=b.num->ck=b:=λck av q=>by
  obtain⟨i,hi,rfl⟩:=ux hb;obtain⟨j,cY,rfl⟩:=ux av;have :=(MQ (h₀:=by exact G (d0 ..) cY) (h₁:=by exact G (d0 ..) hi) hn (i:=j) (j:=i)).mp (G (zn ..) (G (zn ..) q))
  simp only [this]
 refine⟨S.z.set e (aC rfl),aI e S.s (aC rfl),aI e S.n (aC rfl),aI e S.c (aC rfl),aI e S.d (aC rfl),aI e S.j (aC rfl),?_,aI e S.bn (aC rfl),aI e S.la (aC rfl),aI e S.ke (aC rfl),aI e S.un (aC rfl),λt q=>aI e (S.ut t q) (aC rfl),aI e S.ns (aC rfl),aI e S.nt (aC rfl),λck q=>?_,λck q=>?_⟩
 ·refine G (aI e S.row (aC rfl)) ?_;simp only [hB,B8];congr 4
  funext ck
  simp only [yW];split<;>rfl
 ·refine bU (hQ.mp q) λhH bu alH=>?_;obtain rfl:=alH
  by_cases h:hH.num=b.num
  ·exact G (aY h) (G (key hH bu h) (fo e))
  ·exact G (a8 h) (aI e (S.bo hH bu) λz=>h (congrArg rA z).symm)
 ·refine bU (hQ.mp q) λhH bu alI=>?_;obtain rfl:=alI
  by_cases h:hH.num=b.num
  ·exact G (aY h) (G (key hH bu h) (aI e (S.bd b hb) (aC rfl)))
  ·exact G (a8 h) (aI e (S.bd hH bu) (aC rfl))
theorem bP.setBd(S:bP A al re K)(hn:(al.bs.map (·.num)).Nodup){b:e6}(hb:b∈al.bs)(x:dI):bP A {al with bs:=hB b.num (λb=> {b with data:=x}) al.bs} re (K.set b.dt (.bd b.num,.ba x)):=by
 have e:=S.bd b hb;have key:∀ck∈al.bs,ck.num=b.num->ck=b:=λck av q=>by
  obtain⟨i,hi,rfl⟩:=ux hb;obtain⟨j,cY,rfl⟩:=ux av;have :=(MQ (h₀:=by exact G (d0 ..) cY) (h₁:=by exact G (d0 ..) hi) hn (i:=j) (j:=i)).mp (G (zn ..) (G (zn ..) q))
  simp only [this]
 refine⟨S.z.set e (aC rfl),aI e S.s (aC rfl),aI e S.n (aC rfl),aI e S.c (aC rfl),aI e S.d (aC rfl),aI e S.j (aC rfl),?_,aI e S.bn (aC rfl),aI e S.la (aC rfl),aI e S.ke (aC rfl),aI e S.un (aC rfl),λt q=>aI e (S.ut t q) (aC rfl),aI e S.ns (aC rfl),aI e S.nt (aC rfl),λck q=>?_,λck q=>?_⟩
 ·refine G (aI e S.row (aC rfl)) ?_;simp only [hB,B8];congr 4
  funext ck
  simp only [yW];split<;>rfl
 ·refine bU (hQ.mp q) λhH bu alJ=>?_;obtain rfl:=alJ
  by_cases h:hH.num=b.num
  ·exact G (aY h) (G (key hH bu h) (aI e (S.bo b hb) (aC rfl)))
  ·exact G (a8 h) (aI e (S.bo hH bu) (aC rfl))
 ·refine bU (hQ.mp q) λhH bu alK=>?_;obtain rfl:=alK
  by_cases h:hH.num=b.num
  ·exact G (aY h) (G (key hH bu h) (fo e))
  ·exact G (a8 h) (aI e (S.bd hH bu) λz=>h (congrArg rA z).symm)
end
end
variable {A:g1}{al:hq}{re:gj}
section
variable {f:e6->e6}
noncomputable def jv:List UInt8:=f9 48 0
noncomputable def e0(re:gj)(n:Nat):List UInt8:=match dV re.lal (.int n) with
 |J (.bytes x)=>x
 |_=>jv
noncomputable def gP(n:Nat)(bs:List e6):Option e6:=bs.find? (λb=>b.num==n)
noncomputable def cnt(al:hq)(re:gj)(n:Nat):List UInt8:=match gP n al.bs with
 |J b=>b.data
 |ac=>e0 re n
structure Inv(al:hq)(re:gj):Prop where
 nd:(al.bs.map (·.num)).Nodup
 lt:∀b∈al.bs,b.num<22
 len:∀b∈al.bs,b.data.length=48
 cap:al.bs.length<=14
 bn:∀n:Nat,dV al.bnl (.int n)=(gP n al.bs).map λb=>.new b.o
 bnk:jj al.bnl
 lak:jj re.lal
 kek:jj re.kel
 ntk:jj re.ntl
 lav:∀(n:Nat) (v:L),dV re.lal (.int n)=J v->∃x,v=.bytes x/\x.length=48
 ntv:∀n:Nat,(dV re.ntl (.int n)).isSome=re.nums.contains n
 pdd:al.pd.Nodup
 pd8:al.pd.length<=8
 pdb:∀n∈al.pd,∃b∈al.bs,b.num=n
 pin:∀b∈al.bs,b.pi=if b.num∈al.pd then 1 else 0
 ho:∀b∈al.bs,b.ho=if al.held=J b.num then 1 else 0
 coh:∀b∈al.bs,b.num∉al.pd->al.held≠J b.num->b.data=e0 re b.num
 unb:∀t∈re.unl,t.2.1<22
section
variable {k:b3}{n m:Nat}{b ck:e6}{bs:List e6}
theorem w1(e:gP m bs=J b):b∈bs/\b.num=m:=⟨List.mem_of_find?_eq_some e,by have :=List.find?_some e;simpa using this⟩
theorem Df(e:gP m bs=ac):∀b∈bs,¬b.num=m:=λb hb=>by have :=List.find?_eq_none.mp e b hb;simpa using this
theorem xC(hn:(bs.map (·.num)).Nodup)(hb:b∈bs)(tE:ck∈bs)(q:ck.num=b.num):ck=b:=by
 obtain⟨i,hi,rfl⟩:=ux hb;obtain⟨j,cY,rfl⟩:=ux tE;have :=(MQ (h₀:=by exact G (d0 ..) cY) (h₁:=by exact G (d0 ..) hi) hn (i:=j) (j:=i)).mp (G (zn ..) (G (zn ..) q))
 simp only [this]
theorem u6(hn:(bs.map (·.num)).Nodup)(hb:b∈bs):gP b.num bs=J b:=by
 cases e:gP b.num bs with
 |none=>exact absurd rfl (Df e b hb)
 |some ck=>refine cz (w1 e) λai ak=>?_;(exact G (xC hn hb ai ak) rfl)
theorem Im(h:∀b∈bs,¬b.num=m):gP m bs=ac:=List.find?_eq_none.mpr λb hb=>by simpa using h b hb
theorem H1(am:Inv al re):(e0 re m).length=48:=by
 unfold e0;cases e:dV re.lal (.int m) with
 |none=>rfl
 |some v=>refine bU (am.lav m v e) λx alL aO=>?_;obtain rfl:=alL;exact aO
theorem C2(am:Inv al re):(cnt al re m).length=48:=by
 unfold cnt;cases e:gP m al.bs with
 |none=>exact H1 am
 |some b=>exact am.len b (w1 e).1
theorem u0(am:Inv al re)(hb:b∈al.bs):cnt al re b.num=b.data:=by unfold cnt;(exact G (u6 am.nd hb) rfl)
noncomputable def kx(n:Nat)(bs:List e6):List e6:=bs.filter λb=>b.num !=n
theorem m2:b∈kx m bs↔b∈bs/\ ¬b.num=m:=by unfold kx;refine fB List.mem_filter ?_;simp
theorem S9(hn:(bs.map (·.num)).Nodup):((kx m bs).map (·.num)).Nodup:=Ve (List.Sublist.map _ List.filter_sublist) hn
theorem H9:∀ {bs:List e6} {p:Nat},(bs.map (·.num)).Nodup->bs[p]? =J b->bs.eraseIdx p=kx b.num bs
 | [],_,_,e=>by simp at e
 |a::bs,0,hn,e=>by
  simp at e;subst e
  rw [h9,n5] at hn;show bs=List.filter _ (a::bs)
  refine G kE (G (a8 (by simp)) ?_)
  exact(Vg.mpr λb hb=>by simpa using λz=>hn.1 (hQ.mpr ⟨b,hb,z⟩)).symm
 |a::bs,p+1,hn,e=>by
  rw [h9,n5] at hn;have cU:bs[p]? =J b:=by simpa using e
  show a::bs.eraseIdx p=List.filter _ (a::bs)
  refine G kE (G (aY (by simpa using λz=>hn.1 (hQ.mpr ⟨b,zr cU,z.symm⟩))) (G (H9 hn.2 cU) ?_))
  rfl
theorem Dg:gP n (kx m bs)=if n=m then ac else gP n bs:=by
 by_cases h:n=m
 ·exact G (aY h) (Im λb hb=>h▸(m2.mp hb).2)
 ·refine G (a8 h) ?_;unfold gP kx;refine G List.find?_filter ?_;congr 1
  funext b
  by_cases q:b.num=n
  ·simp [q,h]
  ·simp [q]
theorem HF(S:bP A al re K)(h:k .none (ao K)):aw (n+1) 683 [.new A.d] (ao K) k:=YR (au (aN S.d rfl rfl) h)
theorem Q0{i:Int}{H:an}:cI (.builtin "isinstance") [.int i,(L.st (.type "int"))] H=J (.bool ae,H):=by rfl
theorem Rn{m:Nat}:eg ((0:Int)<=(m:Int))=ae:=decide_eq_true (ht m)
theorem RD(bc:m<22):(!eg ((m:Int)<22))=aA:=G (decide_eq_true (mc.mpr ‹_›)) rfl
theorem Pk(S:bP A al re K)(bc:m<22)(h:k .none (ao K)):aw (n+1) 690 [.new A.d,.int m] (ao K) k:=by
 refine YS (a3 Q0 (au rfl (lr rfl (au rfl (jq Rn ?_)))));exact au (aN S.d rfl rfl) (au rfl (lr (RD bc) h))
theorem aa7(S:bP A al re K)(bc:m<22)(h:k .none (ao K)):aw (n+1) 564 [.new A.c,.int m] (ao K) k:=by
 refine YG (a3 Q0 (au rfl (lr rfl (au rfl (jq Rn ?_)))));exact au (aN S.c rfl rfl) (au (aN S.d rfl rfl) (au rfl (lr (RD bc) h)))
theorem acC(am:Inv al re):(dV re.lal (.int m)).getD (.bytes (f9 (48:Int).toNat 0))=.bytes (e0 re m):=by
 unfold e0;cases e:dV re.lal (.int m) with
 |none=>rfl
 |some v=>refine bU (am.lav m v e) λx alM _=>?_;obtain rfl:=alM;rfl
theorem HG(S:bP A al re K)(am:Inv al re)(bc:m<22)(h:k (.bytes (e0 re m)) (ao K)):aw (n+2) 697 [.new A.d,.int m] (ao K) k:=by
 refine YT (au (c1 S.d rfl rfl) (HF S (au (c1 S.d rfl rfl) (Pk S bc ?_))));refine au (aN S.d rfl rfl) (au (CW S.la) (au (aN S.d rfl rfl) (a3 (CQ ⟨by decide,by decide⟩) ?_)))
 exact lS (ahF S.la rfl) (G (acC am) (h))
theorem aa2{i:Nat}{r:bh}(e:K[i]? =J (r,wP b))(h:k (.bool (b.ho==0&&b.pi==0)) (ao K)):aw (n+1) 466 [.new i] (ao K) k:=by
 refine YC (au (aN e rfl rfl) (au (a:=b.ho==0) rfl ?_));cases q:b.ho==0
 ·rw [q] at h;exact h
 ·rw [q] at h;exact au (aN e rfl rfl) (au rfl h)
theorem afX{i:Nat}{r:bh}{c:a1}{l:List (Str×L)}(e:K[i]? =J (r,.inst c l)):bW .IsNot (.new i) (.new i) (ao K)=J aA:=by
 show(if qK (ao K) i&&qK (ao K) i then J (i==i) else ac).map (!·)=_
 have :qK (ao K) i=ae:=by unfold qK;(exact G (d8 e) rfl)
 refine G this ?_;simp
theorem Pb(am:Inv al re)(hb:b∈al.bs):(dV al.bnl (.int b.num)).getD .none=.new b.o:=by(refine G (am.bn ..) ?_;rw [u6 am.nd hb]);rfl
theorem CS(S:bP A al re K)(am:Inv al re)(hb:b∈al.bs)(a6:al.held=J b.num)(h:k .none (ao K)):aw (n+1) 571 [.new A.c,.new b.o] (ao K) k:=by
 refine YH (au (aN S.c rfl rfl) (au (CW S.bn) (au (aN (S.bo b hb) rfl rfl) (lS (JI S.bn rfl) ?_))));refine G (Pb am hb) (au (afX (S.bo b hb)) (lr rfl (au (aN (S.bo b hb) rfl rfl) (au (a:=b.ho==0) rfl (lr ?_ h)))));exact G (am.ho b hb) (G (aY a6) rfl)
theorem Ph(S:bP A al re K)(am:Inv al re)(hb:b∈al.bs)(h:k (.bytes b.data) (ao K)):aw (n+1) 473 [.new b.o] (ao K) k:=
 YD (au (aN (S.bo b hb) rfl rfl) (a3 (Pd (S.bd b hb) (G (am.len b hb) rfl)) h))
theorem TQ(aq:∀b,(f b).num=b.num):(hB m f bs).map (·.num)=bs.map (·.num):=by
 unfold hB;refine G B8 ?_;congr 1;funext b;simp only [yW];split;exact aq b;rfl
theorem q2{x:e6}(h:x∈hB m f bs):∃b∈bs,x=if b.num=m then f b else b:=bU (hQ.mp h) λb ai ak=>⟨b,ai,ak.symm⟩
theorem ET(aq:∀b,(f b).num=b.num):gP n (hB m f bs)=(gP n bs).map λb=>if b.num=m then f b else b:=by
 unfold gP hB;refine G List.find?_map ?_;congr 2
 funext b
 simp only [yW];split
 ·(exact G (aq b) rfl)
 ·rfl
theorem Inv.turn(am:Inv al re){f:e6->e6}(aq:∀b,(f b).num=b.num)(bA:∀b,(f b).data=b.data/\(f b).o=b.o){held:Option Nat}{pd:List Nat}{re':gj}(da:∀x,e0 re' x=e0 re x)
  (d1:jj re'.lal) (g2:jj re'.kel) (hx:jj re'.ntl) (u9:∀(n:Nat) (v:L),dV re'.lal (.int n)=J v->∃x,v=.bytes x/\x.length=48) (qB:∀n:Nat,(dV re'.ntl (.int n)).isSome=re'.nums.contains n) (At:∀t∈re'.unl,t.2.1<22)
  (p1:pd.Nodup) (p2:pd.length<=8) (ka:∀n∈pd,∃b∈al.bs,b.num=n)
  (aM:∀b∈al.bs,(if b.num=m then f b else b).pi=if b.num∈pd then 1 else 0) (a7:∀b∈al.bs,(if b.num=m then f b else b).ho=if held=J b.num then 1 else 0)
  (q3:∀b∈al.bs,b.num∉pd->held≠J b.num->b.data=e0 re b.num):Inv {al with bs:=hB m f al.bs,held:=held,pd:=pd} re':=by
 have N:∀b:e6,(if b.num=m then f b else b).num=b.num:=λb=>by split;exact aq b;rfl
 have D:∀b:e6,(if b.num=m then f b else b).data=b.data:=λb=>by split;exact(bA b).1;rfl
 refine⟨by refine G (TQ aq) ?_;exact am.nd,?_,?_,by unfold hB;refine G (d0 ..) ?_;exact am.cap,λx=>?_,am.bnk,d1,g2,hx,u9,qB,p1,p2,?_,?_,?_,?_,At⟩
 ·rintro x aO;refine bU (q2 aO) λb hb alN=>?_;obtain rfl:=alN;refine G (N ..) ?_;exact am.lt b hb
 ·rintro x aO;refine bU (q2 aO) λb hb alO=>?_;obtain rfl:=alO;exact G (D ..) (am.len b hb)
 ·refine G (ET aq) (G (am.bn ..) (G (Option.map_map ..) ?_));congr 1;funext b;simp only [yW];split
  ·(exact G ((bA b).2) rfl)
  ·rfl
 ·rintro x aO;refine bU (ka x aO) λb hb e=>?_;exact⟨_,rt hb,G (N ..) e⟩
 ·rintro x aO;refine bU (q2 aO) λb hb alP=>?_;obtain rfl:=alP;exact G (N ..) (aM b hb)
 ·rintro x aO;refine bU (q2 aO) λb hb alQ=>?_;obtain rfl:=alQ;exact G (N ..) (a7 b hb)
 ·rintro x aO;refine bU (q2 aO) λb hb alR=>?_;obtain rfl:=alR;exact G (N ..) (G (D ..) (G (da ..) (q3 b hb)))
theorem C3(aq:∀b,(f b).num=b.num)(bA:∀b,(f b).data=b.data){held:Option Nat}{pd:List Nat}{re':gj}(da:∀x,e0 re' x=e0 re x)(x:Nat):cnt {al with bs:=hB m f al.bs,held:=held,pd:=pd} re' x=cnt al re x:=by
 unfold cnt;simp only [ET aq,da];cases gP x al.bs with
 |none=>rfl
 |some b=>simp only [Cn];split;exact bA b;rfl
end
end
variable {n m:Nat}{b ck:e6}{bs:List e6}
section
variable {l:List L}{p:Nat}
section
variable {k:b3}
theorem acn{l:List (L×L)}(fk:gW K)(e:K[i]? =J (r,.dict l))(h:¬r=.scr)(ai:fX u=ae)(ak:bH l.length=ae)(aZ:(dV l u).isSome=ae):pv (.new i) u (ao K)=J (ao (K.set i (r,.dict (li l u)))):=by
 unfold pv;simp only [d8 e,ai,ak,aZ,Mx,if_true,q5 fk e h]
theorem aco{q:Nat}(fk:gW K)(e:K[i]? =J (r,.list l))(h:¬r=.scr)(ak:bH l.length=ae)(aZ:q<l.length):pv (.new i) (.int q) (ao K)=J (ao (K.set i (r,.list (l.eraseIdx q)))):=by
 unfold pv;simp only [d8 e];exact G (aY ⟨ak,ht _,mc.mpr ‹_›⟩) (q5 fk e h)
theorem vH{l:List (L×L)}(fk:gW K)(e:K[i]? =J (r,.dict l))(h:¬r=.scr)(ai:fX u=ae)(ak:bH l.length=ae):fS (.new i) (.at_ u) v (ao K)=J (ao (K.set i (r,.dict (g9 l u v)))):=by
 unfold fS;simp only [d8 e,ai,ak,Mx,if_true,q5 fk e h]
theorem Eb(am:Inv al re){ay:Type}{f:e6->ay}:bH (al.bs.map f).length=ae:=G (d0 ..) (fE (cQ am.cap (by decide)))
theorem Inv.rm(am:Inv al re)(hb:b∈al.bs)(ai:b.num∉al.pd)(ak:al.held≠J b.num):Inv {al with bs:=kx b.num al.bs,bnl:=li al.bnl (.int b.num)} re/\(∀x,cnt {al with bs:=kx b.num al.bs,bnl:=li al.bnl (.int b.num)} re x=cnt al re x)/\(kx b.num al.bs).length<al.bs.length:=by
 refine⟨⟨S9 am.nd,λx aO=>am.lt x (m2.mp aO).1,λx aO=>am.len x (m2.mp aO).1,cQ (F4 _ _) am.cap,λx=>?_,am.bnk.del _,am.lak,am.kek,am.ntk,am.lav,am.ntv,am.pdd,am.pd8,λx aO=>?_,
  λx aO=>am.pin x (m2.mp aO).1,λx aO=>am.ho x (m2.mp aO).1,λx aO=>am.coh x (m2.mp aO).1,am.unb⟩,λx=>?_,?_⟩
 ·refine G (acm am.bnk.nd) (G Dg ?_);by_cases q:x=b.num
  ·subst q;exact G (aY rfl) (G (aY rfl) rfl)
  ·(exact G ((a8 (xe λz=>q z.symm)) ..) (G (a8 q) (G (am.bn ..) rfl)))
 ·exact bU (am.pdb x aO) λy hy e=>⟨y,m2.mpr ⟨hy,λz=>ai (z▸e▸aO)⟩,e⟩
 ·unfold cnt;simp only [Dg];by_cases q:x=b.num
  ·subst q;exact G (aY rfl) (G (u6 am.nd hb) ((am.coh b hb ai ak).symm))
  ·(exact G (a8 q) rfl)
 ·refine Ci (F4 _ _) λz=>?_
  have :=Vi.mp z b hb;simp at this
theorem JJ{ay bF:Type}(f:ay->bF):∀ {l:List ay} {p:Nat},(l.map f).eraseIdx p=(l.eraseIdx p).map f
 | [],_=>rfl
 |_::_,0=>rfl
 |_::l,p+1=>congrArg _ (JJ f (l:=l) (p:=p))
noncomputable def Aq(b:e6):Bool:=b.ho==0&&b.pi==0
theorem aoE(am:Inv al re)(a6:al.held=ac)(aD:9<=al.bs.length):∃(p:Nat) (b:e6),al.bs[p]? =J b/\Aq b=ae:=by
 have :∃b∈al.bs,b.num∉al.pd:=by
  refine Uv λh=>?_
  have av:∀x∈al.bs.map (·.num),x∈al.pd:=λx aO=>by
   refine bU (hQ.mp aO) λb hb alS=>?_;obtain rfl:=alS
   exact Uv λz=>h ⟨b,hb,z⟩
  have :=D1 am.nd av;rw [d0] at this;have :=am.pd8;lia
 refine bU this λb hb hp=>?_
 obtain⟨p,iR,rfl⟩:=ux hb;refine⟨p,_,iy iR,?_⟩;unfold Aq;exact G (am.ho _ hb) (G (am.pin _ hb) (G (a8 hp) (G a6 (G (a8 (by nofun)) rfl))))
theorem Zt{a:L}:eu rv BN (.pair u v) [(bQ,a)] H=J [(bQ,a),(dQ,u),(oZ,v)]:=by kernel_rfl
theorem Zu{a ef aJ:L}:eu rv BN (.pair u v) [(bQ,a),(dQ,ef),(oZ,aJ)] H=J [(bQ,a),(dQ,u),(oZ,v)]:=by kernel_rfl
theorem iQ{ax:ds}{t:aU}{body:Loc->an->(jw->Loc->an->Prop)->Prop}{s:kJ}{f:Nat}{mm mm':Loc}{q:ez}{it:n4}(e1:itemAt s p H=J (J it))(e2:eu ax t it mm H=J mm')
  (h:body mm' H λdn m H=>match dn with
   | .next| .cont=>gR False ax t body s f (p+1) m H q
   | .brk=>q .next m H
   | .ret v=>q (.ret v) m H):gR False ax t body s (f+1) p mm H q:=by
 show(match itemAt s p H with |ac=>False|J ac=>q .next mm H|J (J it)=>match eu ax t it mm H with |ac=>False|J m=>body m H λdn m H=>match dn with
  | .next| .cont=>gR False ax t body s f (p+1) m H q
  | .brk=>q .next m H
  | .ret v=>q (.ret v) m H)
 refine G e1 ?_;dsimp only;exact G e2 h
theorem mr{ax:ds}{t:aU}{body:Loc->an->(jw->Loc->an->Prop)->Prop}{s:kJ}{f:Nat}{mm:Loc}{q:ez}(e1:itemAt s p H=J ac)(h:q .next mm H):gR False ax t body s (f+1) p mm H q:=by
 show(match itemAt s p H with |ac=>False|J ac=>q .next mm H|J (J it)=>match eu ax t it mm H with |ac=>False|J m=>body m H λdn m H=>match dn with
  | .next| .cont=>gR False ax t body s f (p+1) m H q
  | .brk=>q .next m H
  | .ret v=>q (.ret v) m H)
 exact G e1 h
theorem vp(e:K[i]? =J (r,.list l))(e2:l[p]? =J v):itemAt (.enum i) p (ao K)=J (J (.pair (.int p) v)):=by
 unfold itemAt;simp only [d8 e,e2,Cn]
theorem nG(e:K[i]? =J (r,.list l))(e2:l[p]? =J v):itemAt (.lst i) p (ao K)=J (J (.one v)):=by
 unfold itemAt;simp only [d8 e,e2,Cn]
theorem Ji(e:K[i]? =J (r,.list l))(e2:l.length<=p):itemAt (.enum i) p (ao K)=J ac:=by
 unfold itemAt;simp only [d8 e,mP e2,Option.map_none]
theorem qM(e:K[i]? =J (r,.list l))(e2:l.length<=p):itemAt (.lst i) p (ao K)=J ac:=by
 unfold itemAt;simp only [d8 e,mP e2,Option.map_none]
abbrev N4(A:g1)(al:hq)(re:gj)(K:dB)(k:b3):Prop:=∀bJ aX,bP A bJ re aX->Inv bJ re->bJ.held=ac->bJ.pd=al.pd->bJ.bs.length<14->(∀x,cnt bJ re x=cnt al re x)->(∀x,gP x al.bs=ac->gP x bJ.bs=ac)->Fr fN K aX->k .none (ao aX)
theorem ahU(S:bP A al re K)(am:Inv al re)(a6:al.held=ac)(h:N4 A al re K k):∀(f p:Nat) (mm:Loc),(mm=[(bQ,.new A.c)]\/ ∃u v,mm=[(bQ,.new A.c),(dQ,u),(oZ,v)])->(∃(q:Nat) (b:e6),p<=q/\q<p+f/\al.bs[q]? =J b/\Aq b=ae)->
    gR False rv BN (λm H q=>b1 False (aw (n+1)) (ei (bw (aW (aL 26 4)) 1)) rv m H q) (.enum A.row) f p mm (ao K) (ed (aw (n+1)) ((aW (aL 26 4)).drop 2) rv (dM k))
 :=by
  intro f;induction f with
  |zero=>
   exact λp mm _ z=>by
    obtain⟨q,b,ai,ak,_⟩:=z;lia
  |succ f ih=>
   exact λp mm bc eH=>by
    refine tY eH λq b ai ak aZ cC=>?_
    have lP:p<al.bs.length:=eI ai (kF.mp aZ).1;have hp:al.bs[p]? =J al.bs[p]:=iy lP;have hb:al.bs[p]∈al.bs:=zo lP;have aQ:(al.bs.map λb=>L.new b.o)[p]? =J (.new al.bs[p].o):=G kZ (G hp rfl)
    refine iQ (vp S.row aQ) (mm':=[(bQ,.new A.c),(dQ,.int p),(oZ,.new al.bs[p].o)]) ?_ ?_
    ·rcases bc with rfl|⟨u,v,rfl⟩
     ·exact Zt
     ·exact Zu
    refine aqG (au (c1 (S.bo _ hb) rfl rfl) (aa2 (S.bo _ hb) (au rfl ?_)));cases aq:Aq al.bs[p]
    ·refine g7 aq (ih (p+1) _ (.inr ⟨_,_,rfl⟩) ⟨q,b,?_,rP ak,aZ,cC⟩);rcases Nat.eq_or_lt_of_le ai with z|z
     ·subst z;rw [hp] at aZ;obtain rfl:=ci aZ;rw [aq] at cC;exact b8 cC
     ·exact z
    ·refine jq aq ?_;have n1:al.bs[p].num∉al.pd:=λz=>by
      unfold Aq at aq;rw [am.pin _ hb,aY z,he] at aq;cases aq.2
     have n2:al.held≠J al.bs[p].num:=by refine G a6 ?_;nofun
     refine dS (am.rm hb n1 n2) λkD aD xc=>au (aN S.c rfl rfl) (au (aN (S.bo _ hb) rfl rfl) (au (acn S.z S.bn (aC rfl) rfl am.bnk.fits (G (am.bn ..) (G (u6 am.nd hb ..) rfl))) ?_))
     have b6:=S.setBn (li al.bnl (.int al.bs[p].num));refine au (aN b6.c rfl rfl) (au (aco b6.z b6.row (aC rfl) (Eb am) (G (d0 ..) lP)) ?_);have e1:(al.bs.map λb=>L.new b.o).eraseIdx p=(kx al.bs[p].num al.bs).map λb=>L.new b.o:=by(exact G (JJ ..) (G (H9 am.nd hp ..) rfl))
     have cc:=b6.setRow (bs:=kx al.bs[p].num al.bs) (λb hb=>b6.bo b (m2.mp hb).1) (λb hb=>b6.bd b (m2.mp hb).1)
     rw [<-e1] at cc;exact h _ _ cc kD a6 rfl (eE xc am.cap) aD (λx q=>by refine G Dg ?_;split;rfl;exact q) ((Fr.set S.bn rfl).trans (Fr.set b6.row rfl))
theorem aa9(S:bP A al re K)(am:Inv al re)(a6:al.held=ac)(h:N4 A al re K k):aw (n+2) 585 [.new A.c] (ao K) k:=by
 refine YJ (au (aN S.c rfl rfl) (a3 (pE S.row (Eb am)) (au (aN S.c rfl rfl) (au rfl ?_))));refine G (d0 ..) ?_;by_cases q:al.bs.length<14
 ·refine jq (decide_eq_true (mc.mpr ‹_›)) (h al K S am a6 rfl q (λ_=>rfl) (λ_ x=>x) (.refl K))
 ·refine g7 (decide_eq_false (by lia)) (au (aN S.c rfl rfl) (pH S.row ?_))
  refine mF (aoE am a6 (by lia)) λp b ai ak=>?_
  exact ahU S am a6 h 1000 0 _ (.inl rfl) ⟨p,b,hf _,by have :=(kF.mp ai).1;have :=am.cap;lia,ai,ak⟩
end
end
variable {l:List L}{p:Nat}
section
variable {k:b3}
theorem mU{a c:Int}{p:Option (L×an)}{v:L}{H:an}(e:p=J (v,H))(h:k v H):kp (.int a) (.int c) p k:=by subst e;exact h
theorem bP.gh(S:bP A al re K)(held:Option Nat)(pd:List Nat):bP A {al with held:=held,pd:=pd} re K:=
 ⟨S.z,S.s,S.n,S.c,S.d,S.j,S.row,S.bn,S.la,S.ke,S.un,S.ut,S.ns,S.nt,S.bo,S.bd⟩
theorem bP.frame{aX:dB}(S:bP A al re K)(h:∀(j:Nat) (fR:bh) (o:bt),K[j]? =J (fR,o)->¬fR=.bo m->aX[j]? =J (fR,o))(bc:∀b∈al.bs,¬b.num=m):bP A al re aX:=
 ⟨cm S.z λo z=>⟨o,h _ _ _ z (aC rfl)⟩,h _ _ _ S.s (aC rfl),h _ _ _ S.n (aC rfl),h _ _ _ S.c (aC rfl),h _ _ _ S.d (aC rfl),h _ _ _ S.j (aC rfl),h _ _ _ S.row (aC rfl),h _ _ _ S.bn (aC rfl),h _ _ _ S.la (aC rfl),h _ _ _ S.ke (aC rfl),h _ _ _ S.un (aC rfl),λt q=>h _ _ _ (S.ut t q) (aC rfl),
  h _ _ _ S.ns (aC rfl),h _ _ _ S.nt (aC rfl),λb q=>h _ _ _ (S.bo b q) λz=>bc b q (congrArg rA z),λb q=>h _ _ _ (S.bd b q) (aC rfl)⟩
theorem aa0{x:dI}(fk:gW K)(e:K[i]? =J (.bo m,.inst 539 []))(aO:x.length=48)
  (h:∀aX,aX[i]? =J (.bo m,wP ⟨i,K.length,m,x,0,0⟩)->aX[K.length]? =J (.bd m,.ba x)->(∀(j:Nat) (fR:bh) (o:bt),K[j]? =J (fR,o)->¬fR=.bo m->aX[j]? =J (fR,o))->k .none (ao aX)):aw (n+1) 459 [.new i,.int m,.bytes x] (ao K) k:=by
 refine YB (au (iV (l':=[(bS,.int m)]) fk e (aC rfl) rfl rfl) (a3 (Zo (G aO rfl) (.bd m)) ?_));refine G zp ?_;have e1:=cf (fo (o:=.inst 539 [(bS,.int m)]) e) (l:=[(.bd m,.ba x)]);have uL:=(fk.set (o:=.inst 539 [(bS,.int m)]) e (aC rfl)).app (l:=[(.bd m,.ba x)]);refine au (iV (l':=[(bS,.int m),(gf,.new K.length)]) uL e1 (aC rfl) rfl rfl) (au (iV (l':=[(bS,.int m),(gf,.new K.length),(iZ,.int 0)]) (uL.set e1 (aC rfl)) (fo e1) (aC rfl) rfl rfl) (au (iV (l':=[(bS,.int m),(gf,.new K.length),(iZ,.int 0),(nc,.int 0)]) ((uL.set e1 (aC rfl)).set (fo e1) (aC rfl)) (fo (fo e1)) (aC rfl) rfl rfl) (h _ ?_ ?_ ?_)))
 ·have :=fo (o:=wP ⟨i,K.length,m,x,0,0⟩) (fo (o:=.inst 539 [(bS,.int m),(gf,.new K.length),(iZ,.int 0)]) (fo (o:=.inst 539 [(bS,.int m),(gf,.new K.length)]) e1));simpa only [zp] using this
 ·have e2:(K.set i (.bo m,.inst 539 [(bS,.int m)])++[(.bd m,.ba x)])[K.length]? =J (.bd m,.ba x):=by
   have :=c2 (K:=K.set i (.bo m,.inst 539 [(bS,.int m)])) (r:=.bd m) (o:=.ba x);rwa [zp] at this
  exact aI (fo (fo e1)) (aI (fo e1) (aI e1 e2 (aC rfl)) (aC rfl)) nofun
 ·intro j fR o aM a7;have q3:¬bh.bo m=fR:=λz=>a7 z.symm
  exact aI (fo (fo e1)) (aI (fo e1) (aI e1 (cf (aI e aM q3)) q3) q3) q3
theorem Inv.add(am:Inv al re)(Iz:al.bs.length<14)(bc:m<22)(aq:gP m al.bs=ac)(a6:al.held=ac){o dt:Nat}:
  Inv {al with bs:=al.bs++[⟨o,dt,m,e0 re m,0,0⟩],bnl:=g9 al.bnl (.int m) (.new o)} re/\∀x,cnt {al with bs:=al.bs++[⟨o,dt,m,e0 re m,0,0⟩],bnl:=g9 al.bnl (.int m) (.new o)} re x=cnt al re x:=by
 have Am:∀x,gP x (al.bs++[⟨o,dt,m,e0 re m,0,0⟩])=if x=m then J ⟨o,dt,m,e0 re m,0,0⟩ else gP x al.bs:=λx=>by
  unfold gP;refine G List.find?_append ?_;by_cases q:x=m
  ·subst q;refine G (aY rfl) ?_;have :al.bs.find? (λb=>b.num==x)=ac:=aq
   refine G this ?_;simp
  ·refine G (a8 q) ?_;have :([⟨o,dt,m,e0 re m,0,0⟩]:List e6).find? (λb=>b.num==x)=ac:=by simp;exact λz=>q z.symm
   (exact G this (G Option.or_none rfl))
 have JR:m∉al.pd:=λz=>by refine bU (am.pdb m z) λb hb e=>?_;exact Df aq b hb e
 have pK:∀(P:e6->Prop),(∀b∈al.bs,P b)->P ⟨o,dt,m,e0 re m,0,0⟩->∀b∈al.bs++[⟨o,dt,m,e0 re m,0,0⟩],P b:=λP ai ak b hb=>by
  rcases md.mp hb with hb|hb
  ·exact ai b hb
  ·exact G (jk.mp hb) ak
 refine⟨⟨?_,pK _ am.lt bc,pK _ am.len (H1 am),?_,λx=>?_,am.bnk.put bc _,am.lak,am.kek,am.ntk,am.lav,am.ntv,am.pdd,am.pd8,λx aO=>?_,pK _ am.pin ?_,pK _ am.ho ?_,pK _ am.coh λ_ _=>rfl,am.unb⟩,λx=>?_⟩
 ·refine G p8 (F7.mpr ⟨am.nd,by simp,λa ha c aD z=>?_⟩)
  refine bU (hQ.mp ha) λb hb alV=>?_;obtain rfl:=alV
  have :c=m:=by simpa using aD
  exact Df aq b hb (z.trans this)
 ·exact G iz Iz
 ·refine G (C7 ..) (G (Am ..) ?_);by_cases q:x=m
  ·subst q;exact G (aY rfl) (G (aY rfl) rfl)
  ·(exact G ((a8 (xe λz=>q z.symm)) ..) (G (a8 q) (G (am.bn ..) rfl)))
 ·refine bU (am.pdb x aO) λb hb e=>?_;exact⟨b,B9 _ hb,e⟩
 ·show(0:Int)=if m∈al.pd then 1 else 0
  (exact G (a8 JR) rfl)
 ·show(0:Int)=if al.held=J m then 1 else 0
  (exact G a6 (G (a8 nofun) rfl))
 ·unfold cnt;simp only [Am];by_cases q:x=m
  ·subst q;(exact G (aY rfl) (G aq rfl))
  ·(exact G (a8 q) rfl)
theorem Inv.hold(am:Inv al re)(a6:al.held=ac)(hb:b∈al.bs)(AE Bi cw:Int):
  Inv {al with bs:=hB b.num (λck=> {ck with ho:=1,pi:=b.pi}) al.bs,held:=J b.num,hits:=AE,reads:=Bi,cw:=cw} re/\∀x,cnt {al with bs:=hB b.num (λck=> {ck with ho:=1,pi:=b.pi}) al.bs,held:=J b.num,hits:=AE,reads:=Bi,cw:=cw} re x=cnt al re x:=by
 have X:=am.turn (m:=b.num) (f:=λck=> {ck with ho:=1,pi:=b.pi}) (held:=J b.num) (pd:=al.pd) (re':=re) (λ_=>rfl) (λ_=>⟨rfl,rfl⟩) (λ_=>rfl) am.lak am.kek am.ntk am.lav am.ntv am.unb am.pdd am.pd8 am.pdb ?_ ?_ ?_
 ·exact⟨⟨X.nd,X.lt,X.len,X.cap,X.bn,X.bnk,X.lak,X.kek,X.ntk,X.lav,X.ntv,X.pdd,X.pd8,X.pdb,X.pin,X.ho,X.coh,X.unb⟩,λx=>C3 (f:=λck=> {ck with ho:=1,pi:=b.pi}) (re':=re) (λ_=>rfl) (λ_=>rfl) (λ_=>rfl) x (held:=J b.num) (pd:=al.pd)⟩
 ·intro c aD;split
  ·rename_i q;exact G (xC am.nd hb aD q) (am.pin b hb)
  ·exact am.pin c aD
 ·intro c aD;by_cases q:c.num=b.num
  ·(exact G (aY q) (G (aY (by rw [q])) rfl))
  ·(exact G (a8 q) (G (a8 (λz=>q (by injection z with z;exact z.symm))) (G (am.ho c aD) (G a6 (G (a8 nofun) rfl)))))
 ·exact λc aD ai _=>am.coh c aD ai (by refine G a6 ?_;nofun)
abbrev UA(A:g1)(al:hq)(re:gj)(K:dB)(m:Nat)(k:b3):Prop:=∀bJ aX b,bP A bJ re aX->Inv bJ re->bJ.held=J m->bJ.pd=al.pd->b∈bJ.bs->b.num=m->(∀x,cnt bJ re x=cnt al re x)->Fr fN K aX->k (.new b.o) (ao aX)
theorem adU{aX:dB}(h:∀(j:Nat) (fR:bh) (o:bt),K[j]? =J (fR,o)->¬fR=.bo m->aX[j]? =J (fR,o)):Fr fN K aX:=λi r o e da=>h i r o e λz=>by rw [z] at da;exact b8 da.symm
theorem uW(S:bP A al re K)(am:Inv al re)(a6:al.held=ac)(bc:m<22)(h:UA A al re K m k):aw (n+3) 578 [.new A.c,.int m] (ao K) k:=by
 refine YI (au (c1 S.c rfl rfl) (aa7 S bc (au (aN S.c rfl rfl) (au (CW S.bn) (lS (JI S.bn rfl) ?_)))));refine G (am.bn ..) ?_;cases aq:gP m al.bs with
 |some b=>
  refine cz (w1 aq) λhb alW=>?_;obtain rfl:=alW
  have lt:=A1 (S.bo b hb);refine au (a:=aA) (by show(if b.o<(ao K).length then J aA else ac)=_;(exact G mo (G ((aY lt) ..) rfl))) (g7 rfl ?_)
  refine au (aN S.c rfl rfl) (mU rfl (au (iV S.z S.c (aC rfl) rfl rfl) ?_));have b6:=S.setC (al.hits+1) al.reads al.cw;refine au (aN (b6.bo b hb) rfl rfl) (mU rfl (au (iV b6.z (b6.bo b hb) nofun rfl rfl) ?_))
  have cc:=(b6.setBo am.nd hb 1 b.pi).gh (J b.num) al.pd;refine cz (am.hold a6 hb (al.hits+1) al.reads al.cw) λeY aD=>?_
  have e1:b.ho+1=1:=G (am.ho b hb) (G a6 (G (a8 nofun) rfl))
  exact G (e1 ..) (h _ _ {b with ho:=1,pi:=b.pi} cc eY rfl rfl (hQ.mpr ⟨b,hb,aY rfl⟩) rfl aD ((Fr.set S.c rfl).trans (Fr.set (b6.bo b hb) rfl)))
 |none=>
  refine au (a:=ae) rfl (jq rfl ?_);refine au (c1 S.c rfl rfl) (aa9 S am a6 λeL cp b6 d7 ai ak aZ cC gl dJ=>?_)
  refine au (aN b6.c rfl rfl) (au (c1 b6.d rfl rfl) (HG b6 d7 bc ?_));have QC:=gl m aq;show aw (n+2) 459 [.new (ao cp).length,.int m,.bytes (e0 re m)] (ao cp++[.inst 539 []]) _
  refine G mo (G (nB (r:=.bo m)) ?_);refine aa0 b6.z.app c2 (H1 d7) λdZ e1 e2 fH=>?_
  have Uw:=adU (K:=cp++[(.bo m,.inst 539 [])]) fH;have cc:=(b6.app [(.bo m,.inst 539 [])]).frame fH (Df QC);refine au (aN cc.c rfl rfl) (mU rfl (au (iV cc.z cc.c (aC rfl) rfl rfl) ?_));have eb:=cc.setC eL.hits (eL.reads+1) eL.cw;refine au (aN eb.c rfl rfl) (au (vH eb.z eb.bn (aC rfl) rfl d7.bnk.fits) ?_);have gV:=eb.setBn (g9 eL.bnl (.int m) (.new cp.length));refine au (aN gV.c rfl rfl) (au (qu gV.row) (lS (tN gV.z gV.row (aC rfl) (Eb d7)) ?_));have aQ:(cp++[(bh.bo m,bt.inst 539 [])]).length=cp.length+1:=by simp
  rw [aQ] at e1 e2;have ch:=aI eb.bn (aI cc.c e1 (aC rfl):(dZ.set A.c (.c,CU A {eL with hits:=eL.hits,reads:=eL.reads+1,cw:=eL.cw}))[cp.length]? =_) (aC rfl) (o:=.dict (g9 eL.bnl (.int m) (.new cp.length)))
  have cd:=aI eb.bn (aI cc.c e2 (aC rfl):(dZ.set A.c (.c,CU A {eL with hits:=eL.hits,reads:=eL.reads+1,cw:=eL.cw}))[cp.length+1]? =_) (aC rfl) (o:=.dict (g9 eL.bnl (.int m) (.new cp.length)))
  have lb:=gV.setRow (bs:=eL.bs++[⟨cp.length,cp.length+1,m,e0 re m,0,0⟩])
   (λb hb=>by rcases md.mp hb with hb|hb;exact gV.bo b hb;exact G (jk.mp hb) ch)
   (λb hb=>by rcases md.mp hb with hb|hb;exact gV.bd b hb;exact G (jk.mp hb) cd)
  rw [p8] at lb;refine cz (d7.add (o:=cp.length) (dt:=cp.length+1) aZ bc QC ai) λjy aeI=>?_
  have hb:(⟨cp.length,cp.length+1,m,e0 re m,0,0⟩:e6)∈eL.bs++[⟨cp.length,cp.length+1,m,e0 re m,0,0⟩]:=Ca _ fK;refine au (aN (lb.bo _ hb) rfl rfl) (mU rfl (au (iV lb.z (lb.bo _ hb) (aC rfl) rfl rfl) ?_));refine cz (jy.hold ai hb eL.hits (eL.reads+1) eL.cw) λU3 aeJ=>?_
  have om:=(lb.setBo jy.nd hb 1 0).gh (J m) eL.pd;exact h _ _ ⟨cp.length,cp.length+1,m,e0 re m,1,0⟩ om U3 rfl ak (hQ.mpr ⟨_,hb,aY rfl⟩) rfl (λx=>(aeJ x).trans ((aeI x).trans (cC x)))
   ((dJ.trans (Fr.app _ _)).trans (Uw.trans ((Fr.set cc.c rfl).trans ((Fr.set eb.bn rfl).trans ((Fr.set gV.row rfl).trans (Fr.set (lb.bo _ hb) rfl))))))
end
section
variable {k:b3}
theorem Qd{v:L}:∀ {l:List L},v∈l->∃q,tz v l=J q/\l[q]? =J v
 |x::l,h=>by
  by_cases e:x=v
  ·exact⟨0,by refine G Ih ?_;(exact G (aY e) rfl),by simp [e]⟩
  ·exact bU (Qd ((fw.mp h).resolve_left λz=>e z.symm)) λq ai ak=>⟨q+1,G Ih (G (a8 e) (G ai rfl)),by simpa using ak⟩
theorem XZ(S:bP A al re K):(al.bs.map λb=>L.new b.o).all (oE (ao K))=ae:=by
 refine G List.all_map (fB i3 ?_);intro b hb;show oE (ao K) (.new b.o)=ae
 unfold oE;simp only [d8 (S.bo b hb)];rfl
theorem Inv.last(am:Inv al re)(hb:b∈al.bs):Inv {al with bs:=kx b.num al.bs++[b]} re/\∀x,cnt {al with bs:=kx b.num al.bs++[b]} re x=cnt al re x:=by
 have pK:∀x∈kx b.num al.bs++[b],x∈al.bs:=λx aO=>by
  rcases md.mp aO with aO|aO
  ·exact(m2.mp aO).1
  ·exact G (jk.mp aO) hb
 have Am:∀x,gP x (kx b.num al.bs++[b])=gP x al.bs:=λx=>by
  unfold gP;refine G List.find?_append ?_;have :=Dg (n:=x) (m:=b.num) (bs:=al.bs);unfold gP at this;refine G this ?_;by_cases q:x=b.num
  ·subst q;have :=u6 am.nd hb;unfold gP at this;refine G (aY rfl) (G this ?_);simp
  ·refine G (a8 q) ?_;have :([b]:List e6).find? (λb=>b.num==x)=ac:=by simp;exact λz=>q z.symm
   (exact G this (G Option.or_none rfl))
 refine⟨⟨?_,λx aO=>am.lt x (pK x aO),λx aO=>am.len x (pK x aO),?_,λx=>by refine G (Am ..) ?_;exact am.bn x,am.bnk,am.lak,am.kek,am.ntk,am.lav,am.ntv,am.pdd,am.pd8,λx aO=>?_,λx aO=>am.pin x (pK x aO),λx aO=>am.ho x (pK x aO),λx aO=>am.coh x (pK x aO),am.unb⟩,λx=>by unfold cnt;simp only [Am]⟩
 ·refine G p8 (F7.mpr ⟨S9 am.nd,by simp,λa ha c aD z=>?_⟩)
  refine bU (hQ.mp ha) λy hy alU=>?_;obtain rfl:=alU
  have :c=b.num:=by simpa using aD
  exact(m2.mp hy).2 (z.trans this)
 ·have :(kx b.num al.bs).length<al.bs.length:=Ci (F4 _ _) λz=>by
   have :=Vi.mp z b hb;simp at this
  have :=am.cap;show(kx b.num al.bs++[b]).length<=14
  refine G iz ?_;simp only [zq];exact cQ (by assumption) (by assumption)
 ·refine bU (am.pdb x aO) λy hy e=>?_
  by_cases q:y.num=b.num
  ·exact⟨b,Ca _ fK,q.symm.trans e⟩
  ·exact⟨y,B9 _ (m2.mpr ⟨hy,q⟩),e⟩
abbrev VI(A:g1)(al:hq)(re:gj)(K:dB)(k:b3):Prop:=∀bJ aX,bP A bJ re aX->Inv bJ re->bJ.held=ac->bJ.pd=al.pd->(∀x,cnt bJ re x=cnt al re x)->Fr fN K aX->k .none (ao aX)
theorem HB(S:bP A al re K)(am:Inv al re)(hb:b∈al.bs)(a6:al.held=J b.num)(aD:b.num∉al.pd->b.data=e0 re b.num)(h:VI A al re K k):aw (n+2) 592 [.new A.c,.new b.o] (ao K) k:=by
 refine YK (au (c1 S.c rfl rfl) (CS S am hb a6 (au (aN (S.bo b hb) rfl rfl) (mU rfl (au (iV S.z (S.bo b hb) nofun rfl rfl) ?_)))))
 have dh:b.ho - 1=0:=G (am.ho b hb) (G a6 (G (aY rfl) rfl));refine G dh ?_;have b6:=(S.setBo am.nd hb 0 b.pi).gh ac al.pd;have d7:=am.turn (m:=b.num) (f:=λck=> {ck with ho:=0,pi:=b.pi}) (held:=ac) (pd:=al.pd) (re':=re) (λ_=>rfl) (λ_=>⟨rfl,rfl⟩) (λ_=>rfl) am.lak am.kek am.ntk am.lav am.ntv am.unb am.pdd am.pd8 am.pdb
  (λc aD=>by
   split
   ·rename_i q;exact G (xC am.nd hb aD q) (am.pin b hb)
   ·exact am.pin c aD)
  (λc aD=>by
   by_cases q:c.num=b.num
   ·(exact G (aY q) (G (a8 nofun) rfl))
   ·(exact G (a8 q) (G (a8 nofun) (G (am.ho c aD) (G (a8 (by rw [a6];exact λz=>q (by injection z with z;exact z.symm))) rfl)))))
  (λc jH ai _=>by
   by_cases q:c.num=b.num
   ·exact G (xC am.nd hb jH q) (aD (by refine cT q ?_;exact ai))
   ·exact am.coh c jH ai (G a6 (λz=>q (by injection z with z;exact z.symm))))
 have dv:∀x,cnt {al with bs:=hB b.num (λck=> {ck with ho:=0,pi:=b.pi}) al.bs,held:=ac,pd:=al.pd} re x=cnt al re x:=λx=>C3 (f:=λck=> {ck with ho:=0,pi:=b.pi}) (re':=re) (λ_=>rfl) (λ_=>rfl) (λ_=>rfl) x (held:=ac) (pd:=al.pd)
 have j3:({b with ho:=0}:e6)∈hB b.num (λck=> {ck with ho:=0,pi:=b.pi}) al.bs:=hQ.mpr ⟨b,hb,aY rfl⟩
 refine au (aN (b6.bo {b with ho:=0} j3) rfl rfl) (au (a:=ae) rfl (jq rfl (au (aN b6.c rfl rfl) (au (abQ b6.row) ?_))))
 refine bU (Qd (rt (f:=λb:e6=>L.new b.o) j3)) λq ch cd=>?_
 rw [kZ] at cd;refine bU (rz.mp cd) λc ee jE=>?_
 have tF:=zr ee;have ig:c.num=b.num:=by
  have az:=b6.bo c tF;have aT:=b6.bo {b with ho:=0} j3
  injection jE with jE
  rw [jE,aT] at az;exact(congrArg rA (ND (ci az)).1).symm
 refine lS (ahG b6.z b6.row (aC rfl) (Eb d7) (XZ b6) ch) (G (JJ ..) (G (H9 d7.nd ee ..) (G (ig ..) ?_)));refine cz (d7.last j3) λeY dy=>?_
 have cc:=b6.setRow (bs:=kx b.num (hB b.num (λck=> {ck with ho:=0,pi:=b.pi}) al.bs)) (λb hb=>b6.bo b (m2.mp hb).1) (λb hb=>b6.bd b (m2.mp hb).1)
 refine au (aN cc.c rfl rfl) (au (qu cc.row) (lS (tN cc.z cc.row (aC rfl) (G (d0 ..) (fE (cQ (F4 _ _) (cQ d7.cap (by decide)))))) ?_))
 have eb:=cc.setRow (bs:=kx b.num (hB b.num (λck=> {ck with ho:=0,pi:=b.pi}) al.bs)++[{b with ho:=0}])
  (λx aO=>by rcases md.mp aO with aO|aO;exact cc.bo x aO;exact G (jk.mp aO) (aI b6.row (b6.bo {b with ho:=0} j3) (aC rfl)))
  (λx aO=>by rcases md.mp aO with aO|aO;exact cc.bd x aO;exact G (jk.mp aO) (aI b6.row (b6.bd {b with ho:=0} j3) (aC rfl)))
 rw [p8] at eb;exact h _ _ eb eY rfl rfl (λx=>(dy x).trans (dv x)) ((Fr.set (S.bo b hb) rfl).trans ((Fr.set b6.row rfl).trans (Fr.set cc.row rfl)))
end
section
variable {k:b3}
theorem La{l x l':dI}{u v:Option Int}(fk:gW K)(e:K[i]? =J (r,.ba l))(h:¬r=.scr)(ak:bH (l.length+x.length)=ae)(aZ:vK l u v x=J l'):fS (.new i) (.sl u v) (.bytes x) (ao K)=J (ao (K.set i (r,.ba l'))):=by
 unfold fS;simp only [d8 e,ak,if_true,aZ,Na,q5 fk e h]
theorem Q5{k:Option Int->Option Int->Prop}(h:k ac ac):jJ (eA L.none) (eA L.none) k:=h
theorem Inv.data(am:Inv al re)(hb:b∈al.bs)(a6:al.held=J b.num){x:dI}(aO:x.length=48):Inv {al with bs:=hB b.num (λb=> {b with data:=x}) al.bs} re/\∀y,cnt {al with bs:=hB b.num (λb=> {b with data:=x}) al.bs} re y=if y=b.num then x else cnt al re y:=by
 have N:∀c:e6,(if c.num=b.num then {c with data:=x} else c).num=c.num:=λc=>by split<;>rfl
 refine⟨⟨by refine G (TQ (f:=λb=> {b with data:=x}) (λ_=>rfl)) ?_;exact am.nd,?_,?_,by unfold hB;refine G (d0 ..) ?_;exact am.cap,λy=>?_,am.bnk,am.lak,am.kek,am.ntk,am.lav,am.ntv,am.pdd,am.pd8,?_,?_,?_,?_,am.unb⟩,λy=>?_⟩
 ·rintro y hy;refine bU (q2 hy) λc aD alX=>?_;obtain rfl:=alX;refine G (N ..) ?_;exact am.lt c aD
 ·rintro y hy;refine bU (q2 hy) λc aD alY=>?_;obtain rfl:=alY;split;exact aO;exact am.len c aD
 ·show dV al.bnl (.int y)=(gP y (hB b.num (λb=> {b with data:=x}) al.bs)).map _
  refine G (ET (f:=λb=> {b with data:=x}) (λ_=>rfl)) (G (am.bn ..) (G (Option.map_map ..) ?_))
  congr 1;funext c;simp only [yW];split<;>rfl
 ·rintro y hy;refine bU (am.pdb y hy) λc aD e=>?_;exact⟨_,rt aD,G (N ..) e⟩
 ·rintro y hy;refine bU (q2 hy) λc aD alZ=>?_;obtain rfl:=alZ;refine G (N ..) ?_;refine Eq.trans ?_ (am.pin c aD);split<;>rfl
 ·rintro y hy;refine bU (q2 hy) λc aD al0=>?_;obtain rfl:=al0;refine G (N ..) ?_;refine Eq.trans ?_ (am.ho c aD);split<;>rfl
 ·rintro y hy ai ak;refine bU (q2 hy) λc aD al1=>?_;obtain rfl:=al1
  rw [N] at ai ak⊢;refine G (a8 (λz=>ak (by rw [z];exact a6))) ?_
  exact am.coh c aD ai ak
 ·unfold cnt;simp only [ET (m:=b.num) (f:=λb=> {b with data:=x}) (λ_=>rfl)]
  by_cases q:y=b.num
  ·subst q;refine G (u6 am.nd hb) ?_;simp
  ·refine G (a8 q) ?_;cases e:gP y al.bs with
   |none=>rfl
   |some c=>simp only [Cn];(exact G (a8 (by rw [(w1 e).2];exact q)) rfl)
abbrev Fk(A:g1)(al:hq)(re:gj)(K:dB)(b:e6)(x:dI)(P:hq->dB->Prop):Prop:=∀bJ aX,bP A bJ re aX->Inv bJ re->bJ.held=al.held->bJ.pd=al.pd-> {b with data:=x}∈bJ.bs->(∀y,cnt bJ re y=if y=b.num then x else cnt al re y)->Fr fN K aX->P bJ aX
theorem PL(S:bP A al re K)(am:Inv al re)(hb:b∈al.bs)(a6:al.held=J b.num){x:dI}(aO:x.length=48){P:hq->dB->Prop}(h:Fk A al re K b x P):P {al with bs:=hB b.num (λb=> {b with data:=x}) al.bs} (K.set b.dt (.bd b.num,.ba x)):=by
 exact cz (am.data hb a6 aO) λd7 dv=>h _ _ (S.setBd am.nd hb x) d7 rfl rfl (hQ.mpr ⟨b,hb,aY rfl⟩) dv (Fr.set (S.bd b hb) rfl)
theorem aa4(S:bP A al re K)(am:Inv al re)(hb:b∈al.bs)(a6:al.held=J b.num){x:dI}(aO:x.length=48)(h:Fk A al re K b x λ_ aX=>k .none (ao aX)):aw (n+1) 501 [.new b.o,.bytes x] (ao K) k:=by
 refine YE (a3 (AW (G aO rfl)) (au (aN (S.bo b hb) rfl rfl) (a3 (JD (S.bd b hb) (G (am.len b hb) rfl)) (au (a:=aA) ?_ (g7 rfl (au (aN (S.bo b hb) rfl rfl) (Q5 (au (La S.z (S.bd b hb) (aC rfl) (G (am.len b hb) (G aO rfl)) (l':=x) ?_) ?_))))))))
 ·exact G aO (G (am.len b hb) rfl)
 ·exact(aY (aO.trans (am.len b hb).symm):(if x.length=b.data.length then J x else ac)=J x)
 ·exact PL S am hb a6 aO h
theorem aa5(S:bP A al re K)(am:Inv al re)(hb:b∈al.bs)(a6:al.held=J b.num)(h:Fk A al re K b jv λ_ aX=>k .none (ao aX)):aw (n+1) 508 [.new b.o] (ao K) k:=by
 have aO:jv.length=48:=rfl;refine YF (au (aN (S.bo b hb) rfl rfl) (a3 (JD (S.bd b hb) (G (am.len b hb) rfl)) ?_));refine G (am.len b hb) (a3 (CQ ⟨by decide,by decide⟩) (au (aN (S.bo b hb) rfl rfl) (Q5 (au (La S.z (S.bd b hb) (aC rfl) (G (am.len b hb) rfl) (l':=jv) ?_) ?_))))
 ·exact(aY ((am.len b hb).symm):(if jv.length=b.data.length then J jv else ac)=J jv)
 ·exact PL S am hb a6 aO h
theorem aba(S:bP A al re K)(am:Inv al re)(hb:b∈al.bs)(a6:al.held=J b.num)(hp:b.num∉al.pd)(gI:al.pd.length<8)
  (h:∀bJ aX,bP A bJ re aX->Inv bJ re->bJ.held=al.held->bJ.pd=al.pd++[b.num]-> {b with pi:=1}∈bJ.bs->(∀y,cnt bJ re y=cnt al re y)->Fr fN K aX->k .none (ao aX)):aw (n+2) 599 [.new A.c,.new b.o] (ao K) k:=by
 refine YL (au (c1 S.c rfl rfl) (CS S am hb a6 (au (aN (S.bo b hb) rfl rfl) (mU rfl (au (iV S.z (S.bo b hb) (aC rfl) rfl rfl) ?_)))));have dh:b.pi+1=1:=G (am.pin b hb) (G (a8 hp) rfl);refine G dh ?_;have b6:=(S.setBo am.nd hb b.ho 1).gh al.held (al.pd++[b.num]);have d7:=am.turn (m:=b.num) (f:=λck=> {ck with ho:=b.ho,pi:=1}) (held:=al.held) (pd:=al.pd++[b.num]) (re':=re) (λ_=>rfl) (λ_=>⟨rfl,rfl⟩) (λ_=>rfl) am.lak am.kek am.ntk am.lav am.ntv am.unb
  (F7.mpr ⟨am.pdd,by simp,λa ha c aD z=>hp (cT (jk.mp aD) (cT z ha))⟩) (G iz gI)
  (λy hy=>by
   rcases md.mp hy with hy|hy
   ·exact am.pdb y hy
   ·exact G (jk.mp hy) (⟨b,hb,rfl⟩))
  (λc aD=>by
   by_cases q:c.num=b.num
   ·(exact G (aY q) (G (aY (by rw [q];exact Ca _ fK)) rfl))
   ·refine G (a8 q) (G (am.pin c aD) ?_);have :(c.num∈al.pd++[b.num])=(c.num∈al.pd):=propext ⟨λz=>(md.mp z).resolve_right λz=>q (jk.mp z),λz=>B9 _ z⟩
    simp only [this])
  (λc aD=>by
   split
   ·rename_i q;exact G (xC am.nd hb aD q) (am.ho b hb)
   ·exact am.ho c aD)
  (λc aD ai ak=>am.coh c aD (λz=>ai (B9 _ z)) ak)
 have dv:∀x,cnt {al with bs:=hB b.num (λck=> {ck with ho:=b.ho,pi:=1}) al.bs,held:=al.held,pd:=al.pd++[b.num]} re x=cnt al re x:=λx=>C3 (f:=λck=> {ck with ho:=b.ho,pi:=1}) (re':=re) (λ_=>rfl) (λ_=>rfl) (λ_=>rfl) x (held:=al.held) (pd:=al.pd++[b.num])
 exact h _ _ b6 d7 rfl rfl (hQ.mpr ⟨b,hb,aY rfl⟩) dv (Fr.set (S.bo b hb) rfl)
theorem abb (S : bP A al re K) (am : Inv al re) (a6 : al.held = ac) (bc : m ∈ al.pd) (aD : ∀ x, cnt al re x = e0 re x)
    (h : ∀ bJ aX, bP A bJ re aX → Inv bJ re → bJ.held = ac → bJ.pd = al.pd.erase m → (∀ y, cnt bJ re y = cnt al re y) → Fr fN K aX → k .none (ao aX)) : aw (n + 2) 606 [.new A.c, .int m] (ao K) k := by
  refine bU (am.pdb m bc) fun b hb al2 => ?_; obtain rfl := al2
  refine YM (au (aN S.c rfl rfl) (au (CW S.bn) (lS (JI S.bn rfl) ?_)))
  refine G (Pb am hb) ?_
  refine au (a := aA) (by show (if b.o < (ao K).length then J aA else ac) = _; (exact G mo (G (aY (A1 (S.bo b hb))) rfl))) (lr rfl (au (aN (S.bo b hb) rfl rfl) (au (a := b.pi == 0) rfl (lr (G (am.pin b hb) (G (aY bc) rfl)) ?_))))
  refine au (aN (S.bo b hb) rfl rfl) (mU rfl (au (iV S.z (S.bo b hb) (aC rfl) rfl rfl) ?_))
  have dh : b.pi - 1 = 0 := G (am.pin b hb) (G (aY bc) rfl)
  refine G dh ?_
  have b6 := (S.setBo am.nd hb b.ho 0).gh ac (al.pd.erase b.num)
  have me : ∀ x, (x ∈ al.pd.erase b.num) = (x ∈ al.pd ∧ ¬ x = b.num) := fun x => propext (fB (List.Nodup.mem_erase_iff am.pdd) (⟨fun z => ⟨z.2, z.1⟩, fun z => ⟨z.2, z.1⟩⟩))
  have d7 := am.turn (m := b.num) (f := fun ck => { ck with ho := b.ho, pi := 0 }) (held := ac) (pd := al.pd.erase b.num) (re' := re) (fun _ => rfl) (fun _ => ⟨rfl, rfl⟩) (fun _ => rfl) am.lak am.kek am.ntk am.lav am.ntv am.unb
    (am.pdd.erase _) (cQ (List.length_erase_le) am.pd8)
    (fun y hy => am.pdb y (by rw [me] at hy; exact hy.1))
    (fun c aD => by
      simp only [me]
      by_cases q : c.num = b.num
      · rw [aY q, a8 (fun z => z.2 q)]
      · refine G (a8 q) (G (am.pin c aD) ?_)
        have : (c.num ∈ al.pd ∧ ¬ c.num = b.num) = (c.num ∈ al.pd) := propext ⟨fun z => z.1, fun z => ⟨z, q⟩⟩
        simp only [this])
    (fun c aD => by refine cT a6 ?_; split; · rename_i q; exact G (xC am.nd hb aD q) (am.ho b hb)
                    · exact am.ho c aD)
    (fun c jH ai ak => by exact cT (u0 am jH) (aD _))
  have dv : ∀ x, cnt { al with bs := hB b.num (fun ck => { ck with ho := b.ho, pi := 0 }) al.bs, held := ac, pd := al.pd.erase b.num } re x = cnt al re x := fun x => C3 (f := fun ck => { ck with ho := b.ho, pi := 0 }) (re' := re) (fun _ => rfl) (fun _ => rfl) (fun _ => rfl) x (held := ac) (pd := al.pd.erase b.num)
  exact h _ _ b6 d7 rfl rfl dv (Fr.set (S.bo b hb) rfl)
abbrev mB(re:gj)(m:Nat)(x:dI)(t:Nat):gj:= {re with writes:=re.writes+1,lal:=g9 re.lal (.int m) (.bytes x),unl:=re.unl++[(t,m,x)]}
theorem wZ{x:dI}{t:Nat}(y:Nat):e0 (mB re m x t) y=if y=m then x else e0 re y:=by
 unfold e0;refine G (C7 ..) ?_;by_cases q:y=m
 ·subst q;(exact G ((aY rfl) ..) (G ((aY rfl) ..) rfl))
 ·(exact G (a8 (xe λz=>q z.symm)) (G ((a8 q) ..) rfl))
theorem Inv.wr(am:Inv al re)(bc:m<22)(a6:al.held=J m){x:dI}(aO:x.length=48){t:Nat}:Inv al (mB re m x t):=by
 refine⟨am.nd,am.lt,am.len,am.cap,am.bn,am.bnk,am.lak.put bc _,am.kek,am.ntk,λy v e=>?_,am.ntv,am.pdd,am.pd8,am.pdb,am.pin,am.ho,λc aD ai ak=>?_,λvM ce=>?_⟩
 ·rw [C7] at e;split at e
  ·injection e with e;exact⟨x,e.symm,aO⟩
  ·exact am.lav y v e
 ·exact G (wZ ..) (G ((a8 (λz=>ak (by rw [z];exact a6))) ..) (am.coh c aD ai ak))
 ·rcases md.mp ce with ce|ce
  ·exact am.unb vM ce
  ·exact G (jk.mp ce) bc
theorem abe(S:bP A al re K)(am:Inv al re)(bc:m<22){x:dI}(aO:x.length=48)(bT:re.unl.length<=60000)(h:∀aX t,bP A al (mB re m x t) aX->Fr fN K aX->k .none (ao aX)):aw (n+2) 704 [.new A.d,.int m,.bytes x] (ao K) k:=by
 refine YU (au (c1 S.d rfl rfl) (HF S (au (c1 S.d rfl rfl) (Pk S bc (a3 (AW (G aO rfl)) (au (aN S.d rfl rfl) (au (a:=aA) (G aO rfl) (g7 rfl ?_))))))));refine au (aN S.d rfl rfl) (au rfl (ot rfl (au (aN S.d rfl rfl) (mU rfl (au (iV S.z S.d (aC rfl) rfl rfl) (a3 (Pe (G aO rfl)) ?_))))));have b6:=S.setD (re.writes+1) re.flushes;refine au (aN b6.d rfl rfl) (au (vH b6.z b6.la (aC rfl) rfl am.lak.fits) ?_);have cc:=b6.setLa (g9 re.lal (.int m) (.bytes x));refine au (aN cc.d rfl rfl) (au (qu cc.un) (a3 (Pe (G aO rfl)) (gz .tp ?_)));have eb:=cc.app [(.tp,.tup [.int m,.bytes x])];refine lS (tN eb.z eb.un (aC rfl) (G (d0 ..) (fE (cQ bT (by decide))))) ?_
 have gV:=eb.addUn (_,m,x) c2;rw [p8] at gV;exact h _ _ gV ((Fr.set S.d rfl).trans ((Fr.set b6.la rfl).trans ((Fr.app _ _).trans (Fr.set eb.un rfl))))
end
section
variable {k:b3}
theorem Zv:∃p1 p2 q ka,Fc=.Tuple [.Name "number" p1,.Name "octets" p2] q ka:=⟨_,_,_,_,rfl⟩
theorem ZK{ax:ds}{t:aU}{a c:Str}{mm mm':Loc}{u v:L}(rY:∃p1 p2 q ka,t=.Tuple [.Name a p1,.Name c p2] q ka)(gn:hZ ax a=ae)(fY:hZ ax c=ae)(e:K[j]? =J (r,.tup [u,v]))(hJ:fA (fA mm a u) c v=mm'):eu ax t (.one (.new j)) mm (ao K)=J mm':=by
 refine ash rY λp1 p2 q ka al4=>?_;obtain rfl:=al4
 show((Lk (ao K)[j]?).bind λw=>if hZ ax a&&hZ ax c then J (fA (fA mm a w.1) c w.2) else ac)=_
 refine G (d8 e) ?_;show(if hZ ax a&&hZ ax c then J (fA (fA mm a u) c v) else ac)=_
 exact G gn (G fY (G hJ rfl))
theorem adJ{q:ez}:∀(f p:Nat) (mm:Loc) (K:dB) (re:gj),bP A al re K->Inv al re->(mm=[(bQ,.new A.d)]\/ ∃u v,mm=[(bQ,.new A.d),(bS,u),(d2,v)])->re.unl.length<p+f->p<=re.unl.length->
   (∀aX ln mm,bP A al {re with kel:=ln} aX->jj ln->Fr fN K aX->(mm=[(bQ,.new A.d)]\/ ∃u v,mm=[(bQ,.new A.d),(bS,u),(d2,v)])->q .next mm (ao aX))->
   gR False sR Fc (λm H q=>b1 False (aw n) (ei (bw (aW (aL 28 6)) 3)) sR m H q) (.lst re.un) f p mm (ao K) q:=by
 intro f;induction f with
 |zero=>
  exact @λp mm K re S am bc aq hp h=>by
   exact absurd aq (n9.mpr hp)
 |succ f ih=>
  exact @λp mm K re S am bc aq iR h=>by
   by_cases hp:p<re.unl.length
   ·have e1:(re.unl.map λt=>L.new t.1)[p]? =J (.new re.unl[p].1):=by exact G kZ (G (iy hp) rfl)
    have ce:=zo hp;refine iQ (mm':=[(bQ,.new A.d),(bS,.int (re.unl[p].2.1:Nat)),(d2,.bytes re.unl[p].2.2)]) (nG S.un e1) (ZK Zv (by kernel_rfl) (by kernel_rfl) (S.ut _ ce) ?_) ?_
    ·rcases bc with rfl|⟨u,v,rfl⟩<;>rfl
    refine aqH (au (aN S.d rfl rfl) (au (vH S.z S.ke (aC rfl) rfl am.kek.fits) ?_));have b6:=S.setKe (g9 re.kel (.int (re.unl[p].2.1:Nat)) (.bytes re.unl[p].2.2));have k1:=am.kek.put (am.unb _ ce) (.bytes re.unl[p].2.2);have d7:Inv al {re with kel:=g9 re.kel (.int (re.unl[p].2.1:Nat)) (.bytes re.unl[p].2.2)}:=⟨am.nd,am.lt,am.len,am.cap,am.bn,am.bnk,am.lak,k1,am.ntk,am.lav,am.ntv,am.pdd,am.pd8,am.pdb,am.pin,am.ho,am.coh,am.unb⟩
    exact ih (p+1) _ _ {re with kel:=g9 re.kel (.int (re.unl[p].2.1:Nat)) (.bytes re.unl[p].2.2)} b6 d7 (.inr ⟨_,_,rfl⟩) (by show re.unl.length<_;exact rP aq) hp λaX ln mm g6 hk a9 i7=>h aX ln mm g6 hk ((Fr.set S.ke rfl).trans a9) i7
   ·exact mr (qM S.un (G (d0 ..) (wo (by assumption)))) (h K re.kel mm S am.kek (.refl K) bc)
theorem abf(S:bP A al re K)(am:Inv al re)(bT:re.unl.length<=900)(h:∀aX ln un,bP A al {re with kel:=ln,un:=un,unl:=[],flushes:=re.flushes+1} aX->jj ln->Fr fN K aX->k .none (ao aX)):aw (n+2) 718 [.new A.d] (ao K) k:=by
 refine YV (au (c1 S.d rfl rfl) (HF S (au (aN S.d rfl rfl) (au rfl (ot rfl (au (aN S.d rfl rfl) (mU rfl (au (iV S.z S.d (aC rfl) rfl rfl) ?_))))))));have b6:=S.setD re.writes (re.flushes+1);have d7:Inv al {re with flushes:=re.flushes+1}:=⟨am.nd,am.lt,am.len,am.cap,am.bn,am.bnk,am.lak,am.kek,am.ntk,am.lav,am.ntv,am.pdd,am.pd8,am.pdb,am.pin,am.ho,am.coh,am.unb⟩
 refine au (aN b6.d rfl rfl) (pH b6.un ?_);refine adJ 1000 0 _ _ _ b6 d7 (.inl rfl) (by show re.unl.length<_;exact eI (by assumption) (by decide)) (hf _) λaX ln mm g6 hk a9 bc=>?_
 have cc:=g6.app [(.un,.list [])];have eb:=cc.setUn c2;have j1:eq (ao aX) (.list []) λLD mb=>aj (ft (.new A.d) pY LD mb) λfJ=>k L.none fJ:=by
  refine gz .un (au (iV cc.z cc.d (aC rfl) rfl rfl) ?_);exact h _ _ _ eb hk ((Fr.set S.d rfl).trans (a9.trans ((Fr.app _ _).trans (Fr.set cc.d rfl))))
 rcases bc with rfl|⟨u,v,rfl⟩
 ·exact WY j1
 ·exact WZ j1
theorem HD(S:bP A al re K)(am:Inv al re)(bT:re.unl.length<=900)(h:∀aX ln un,bP A al {re with kel:=ln,un:=un,unl:=[],flushes:=re.flushes+1} aX->jj ln->Fr fN K aX->k .none (ao aX)):aw (n+3) 620 [.new A.c] (ao K) k:=
 YO (au (aN S.c rfl rfl) (au (c1 S.d rfl rfl) (abf S am bT h)))
theorem Inv.flushed(am:Inv al re){ln:List (L×L)}{un:Nat}(hk:jj ln):Inv al {re with kel:=ln,un:=un,unl:=[],flushes:=re.flushes+1}:=
 ⟨am.nd,am.lt,am.len,am.cap,am.bn,am.bnk,am.lak,hk,am.ntk,am.lav,am.ntv,am.pdd,am.pd8,am.pdb,am.pin,am.ho,am.coh,(λ_ h=>absurd h jl)⟩
theorem abc(S:bP A al re K)(am:Inv al re)(hb:b∈al.bs)(a6:al.held=J b.num)(bT:re.unl.length<=60000)
  (h:∀aX t cw,bP A {al with cw:=cw} (mB re b.num b.data t) aX->Fr fN K aX->k .none (ao aX)):aw (n+3) 613 [.new A.c,.new b.o] (ao K) k:=by
 refine YN (au (c1 S.c rfl rfl) (CS S am hb a6 (au (aN S.c rfl rfl) (au (c1 S.d rfl rfl) (au (aN (S.bo b hb) rfl rfl) (au (c1 (S.bo b hb) rfl rfl) (Ph S am hb ?_)))))));refine abe S am (am.lt b hb) (am.len b hb) bT λaX t g6 a9=>au (aN g6.c rfl rfl) (mU rfl (au (iV g6.z g6.c nofun rfl rfl) ?_))
 exact h _ t (al.cw+1) (g6.setC al.hits al.reads (al.cw+1)) (a9.trans (Fr.set g6.c rfl))
theorem Inv.cw(am:Inv al re)(cw:Int):Inv {al with cw:=cw} re:=⟨am.nd,am.lt,am.len,am.cap,am.bn,am.bnk,am.lak,am.kek,am.ntk,am.lav,am.ntv,am.pdd,am.pd8,am.pdb,am.pin,am.ho,am.coh,am.unb⟩
theorem Pj(S:bP A al re K)(am:Inv al re)(a6:al.held=ac)(bc:m<22)
  (h:∀bJ aX,bP A bJ re aX->Inv bJ re->bJ.held=ac->bJ.pd=al.pd->(∀x,cnt bJ re x=cnt al re x)->Fr fN K aX->k (.bytes (cnt al re m)) (ao aX)):aw (n+4) 627 [.new A.c,.int m] (ao K) k:=by
 refine YP (au (c1 S.c rfl rfl) (uW S am a6 bc λeL cp b b6 d7 ai ak hb hn aD a9=>?_))
 subst hn;refine au (c1 (b6.bo b hb) rfl rfl) (Ph b6 d7 hb (au (c1 b6.c rfl rfl) (HB b6 d7 hb ai ?_ λca2 dZ cc eY d1 g2 hx fH=>?_)))
 ·intro hp;rw [ak] at hp;refine cT (u0 d7 hb) (G (aD ..) ?_);unfold cnt;cases e:gP b.num al.bs with
  |none=>rfl
  |some c=>refine cz (w1 e) λaz aT=>?_;have :=am.coh c az (G aT hp) (by refine G a6 ?_;nofun);rw [aT] at this;exact this
 ·have :=h ca2 dZ cc eY d1 (g2.trans ak) (λx=>(hx x).trans (aD x)) (a9.trans fH)
  rw [<-aD,u0 d7 hb] at this;exact this
theorem HE(S:bP A al re K)(am:Inv al re)(a6:al.held=ac)(bc:m<22){x:dI}(aO:x.length=48)(bT:re.unl.length<=60000)
  (h:∀bJ aX t,bP A bJ (mB re m x t) aX->Inv bJ (mB re m x t)->bJ.held=ac->bJ.pd=al.pd->(∀y,cnt bJ (mB re m x t) y=if y=m then x else cnt al re y)->Fr fN K aX->k .none (ao aX)):aw (n+4) 634 [.new A.c,.int m,.bytes x] (ao K) k:=by
 refine YQ (au (c1 S.c rfl rfl) (uW S am a6 bc λeL cp b b6 d7 ai ak hb hn aD a9=>?_))
 subst hn;refine au (c1 (b6.bo b hb) rfl rfl) (aa4 b6 d7 hb ai aO λca2 dZ cc eY d1 g2 f5 hx fH=>?_)
 refine au (c1 cc.c rfl rfl) (abc (b:= {b with data:=x}) cc eY f5 (d1.trans ai) bT λgu t cw eb f7=>?_)
 have o5:=(eY.cw cw).wr bc (d1.trans ai) aO (t:=t);refine au (c1 eb.c rfl rfl) (HB (b:= {b with data:=x}) eb o5 f5 (d1.trans ai) (λ_=>by(exact G (wZ ..) (G ((aY rfl) ..) rfl))) λpr jR gV rr ch cd ee n3=>?_)
 refine h pr jR t gV rr ch (cd.trans (g2.trans ak)) (λy=>?_) (a9.trans (fH.trans (f7.trans n3)))
 have e1:cnt {ca2 with cw:=cw} (mB re b.num x t) y=if y=b.num then x else cnt ca2 re y:=by
  unfold cnt;by_cases q:y=b.num
  ·subst q;refine G (show gP b.num ca2.bs=J {b with data:=x} from u6 (b:= {b with data:=x}) eY.nd f5) ?_
   first |done|(exact G (aY rfl) rfl)
  ·show(match gP y ca2.bs with |J b=>b.data|ac=>e0 (mB re b.num x t) y)=_
   refine G (wZ ..) (G ((a8 q) ..) (G (a8 q) ?_));first |done|rfl
 refine G (ee ..) (G (e1 ..) (G (hx ..) (G (aD ..) ?_)));split<;>rfl
end
section
variable {k:b3}
def gY(m:Nat):Prop:=m<2\/11<=m
theorem abh(S:bP A al re K)(bc:gY m)(h:k (.bool aA) (ao K)):aw (n+1) 785 [.new A.j,.int m] (ao K) k:=by
 refine YX (au (aN S.j rfl rfl) (au rfl ?_));by_cases q:2<=m
 ·refine jq (decide_eq_true (sJ.mpr ‹_›)) (au (aN S.j rfl rfl) (au (aN S.j rfl rfl) (a3 rfl (au (a:=aA) ?_ h))));show J (eg ((m:Int)<2+9))=J aA
  (exact G (decide_eq_false (by unfold gY at bc;lia)) rfl)
 ·exact g7 (decide_eq_false (by lia)) h
theorem xp{l:List Nat}(h:l.length<=8){f:Nat->L}:bH (l.map f).length=ae:=G (d0 ..) (fE (cQ h (by decide)))
theorem abi(S:bP A al re K)(gI:re.nums.length<=8)(hs:cH (re.calls+1)=ae)(h:k (.bool (eg ((re.nums.length:Int)+(re.calls+1)*4<=8))) (ao K)):aw (n+1) 792 [.new A.j] (ao K) k:=by
 refine YY (au (aN S.j rfl rfl) (a3 (pE S.ns (xp gI)) (au (aN S.j rfl rfl) (a3 rfl (au (aN S.j rfl rfl) (a3 (a:=.int ((re.calls+1)*4)) (b:=ao K) ?_ (a3 rfl (au (aN S.j rfl rfl) (au rfl ?_)))))))))
 ·show(if cH (re.calls+1)&&cH 4 then J (L.int ((re.calls+1)*4),ao K) else ac)=_
  exact G hs rfl
 ·exact G (d0 ..) h
theorem Pl(S:bP A al re K)(gI:re.nums.length<=8)(h:k (.int (8 - (re.nums.length:Int))) (ao K)):aw (n+1) 799 [.new A.j] (ao K) k:=by
 refine YZ (au (aN S.j rfl rfl) (au (aN S.j rfl rfl) (a3 (pE S.ns (xp gI)) (a3 rfl ?_))));exact G (d0 ..) h
theorem Inv.calls(am:Inv al re)(calls C4:Int):Inv al {re with calls:=calls,commits:=C4}:=⟨am.nd,am.lt,am.len,am.cap,am.bn,am.bnk,am.lak,am.kek,am.ntk,am.lav,am.ntv,am.pdd,am.pd8,am.pdb,am.pin,am.ho,am.coh,am.unb⟩
theorem Pm(S:bP A al re K)(gI:re.nums.length<=8)(hs:cH (re.calls+1)=ae)(da:(re.nums.length:Int)+(re.calls+1)*4<=8)
  (h:∀aX,bP A al {re with calls:=re.calls+1} aX->Fr fN K aX->k .none (ao aX)):aw (n+2) 806 [.new A.j] (ao K) k:=by
 refine Y0 (au (c1 S.j rfl rfl) (abi S gI hs (au rfl (g7 (G (decide_eq_true da) rfl) (au (aN S.j rfl rfl) (mU rfl (au (iV S.z S.j (aC rfl) rfl rfl) ?_)))))));exact h _ (S.setJ (re.calls+1) re.commits) (Fr.set S.j rfl)
noncomputable def dT(m:Nat)(l:List Nat):List Nat:=if m∈l then l else l++[m]
theorem afL{l:List (L×L)}{u:L}(e:K[i]? =J (r,.dict l))(hk:fX u=ae):bW .In u (.new i) (ao K)=J (dV l u).isSome:=by
 show(if fX u then(match(ao K)[i]?with |J (.dict l)=>J (dV l u).isSome|_=>ac) else ac)=_
 exact G hk (G (d8 e) rfl)
abbrev U9(A:g1)(al:hq)(re:gj)(K:dB)(b:e6)(k:b3):Prop:=∀bJ d9 aX ck,bP A bJ {re with nums:=dT b.num re.nums,ntl:=d9} aX->Inv bJ {re with nums:=dT b.num re.nums,ntl:=d9}->bJ.held=al.held->bJ.pd=dT b.num re.nums->
 ck∈bJ.bs->ck.o=b.o->ck.num=b.num->ck.data=b.data->(∀y,cnt bJ re y=cnt al re y)->Fr fN K aX->k .none (ao aX)
theorem abk(S:bP A al re K)(am:Inv al re)(hb:b∈al.bs)(a6:al.held=J b.num)(aQ:al.pd=re.nums)(aR:gY b.num)(aD:¬re.calls=0)(gI:b.num∈re.nums\/re.nums.length<8)(h:U9 A al re K b k):aw (n+3) 813 [.new A.j,.new b.o] (ao K) k:=by
 refine Y1 (au (aN S.j rfl rfl) (au (a:=re.calls==0) rfl (g7 (by simpa using aD) (au (c1 S.j rfl rfl) (au (aN (S.bo b hb) rfl rfl) (abh S aR (au rfl (g7 rfl (au (aN (S.bo b hb) rfl rfl) (au (aN S.j rfl rfl) (au (afL S.nt rfl) ?_)))))))))))
 refine G (am.ntv ..) ?_;by_cases q:b.num∈re.nums
 ·refine jq (by simpa using q) (au (aN S.j rfl rfl) (au (c1 S.c rfl rfl) (CS S am hb a6 ?_)))
  have e:dT b.num re.nums=re.nums:=aY q;refine h al re.ntl K b ?_ ?_ rfl ?_ hb rfl rfl rfl (λ_=>rfl) (.refl K)
  ·exact G e S
  ·exact G e am
  ·exact G (e ..) aQ
 ·have Do:=gI.resolve_left q;have e:dT b.num re.nums=re.nums++[b.num]:=a8 q;refine g7 (by simpa using q) (au (aN S.j rfl rfl) (a3 (pE S.ns (xp (jz Do))) (au (aN S.j rfl rfl) (au rfl (g7 ?_ ?_)))))
  ·exact G (d0 ..) (decide_eq_false (by lia))
  refine au (aN S.j rfl rfl) (au (c1 S.c rfl rfl) (aba S am hb a6 (G aQ q) (G aQ Do) λeL cp b6 d7 ai ak j3 dv dJ=>?_))
  refine au (aN b6.j rfl rfl) (a3 (pE b6.ns (xp (jz Do))) (au (aN b6.j rfl rfl) (au (aN (b6.bo {b with pi:=1} j3) rfl rfl) (au (vH b6.z b6.nt (aC rfl) rfl d7.ntk.fits) ?_))))
  have cc:=b6.putNt (g9 re.ntl (.int b.num) (.int (re.nums.map λ(n:Nat)=>L.int (n:Int)).length))
  refine au (aN cc.j rfl rfl) (au (qu cc.ns) (au (aN (cc.bo {b with pi:=1} j3) rfl rfl) (lS (tN cc.z cc.ns (aC rfl) (xp (jz Do))) ?_)))
  have eb:=cc.addNs b.num;rw [p8] at eb;refine h eL (g9 re.ntl (.int b.num) (.int (re.nums.map λ(n:Nat)=>L.int (n:Int)).length)) _ {b with pi:=1} ?_ ?_ ai ?_ j3 rfl rfl rfl dv (dJ.trans ((Fr.set b6.nt rfl).trans (Fr.set cc.ns rfl)))
  ·exact G e eb
  ·refine G e (⟨d7.nd,d7.lt,d7.len,d7.cap,d7.bn,d7.bnk,d7.lak,d7.kek,d7.ntk.put (am.lt b hb) _,d7.lav,λy=>?_,d7.pdd,d7.pd8,d7.pdb,d7.pin,d7.ho,d7.coh,d7.unb⟩)
   show(dV (g9 re.ntl (.int b.num) _) (.int y)).isSome=(re.nums++[b.num]).contains y
   refine G (C7 ..) ?_;by_cases a7:y=b.num
   ·subst a7;refine G ((aY rfl) ..) ?_;simp
   ·refine G (a8 (xe λz=>a7 z.symm)) (G (am.ntv ..) ?_);simp [a7]
  ·(exact G ak (G aQ (G e rfl)))
end
section
variable {a c:L}{l:List Nat}
def el(K aX:dB):Prop:=∀(j:Nat) (r:bh) (o:bt),K[j]? =J (r,o)->aX[j]? =J (r,o)
theorem el.trans{K cp dZ:dB}(a:el K cp)(b:el cp dZ):el K dZ:=λj r o e=>b j r o (a j r o e)
theorem el.app(K l:dB):el K (K++l):=λ_ _ _ e=>cf e
theorem el.fr{S:bh->Bool}{K aX:dB}(a:el K aX):Fr S K aX:=λj r o e _=>a j r o e
theorem bP.ex{A:g1}{al:hq}{re:gj}{K aX:dB}(S:bP A al re K)(h:el K aX):bP A al re aX:=
 ⟨cm S.z λo z=>⟨o,h _ _ _ z⟩,h _ _ _ S.s,h _ _ _ S.n,h _ _ _ S.c,h _ _ _ S.d,h _ _ _ S.j,h _ _ _ S.row,h _ _ _ S.bn,h _ _ _ S.la,h _ _ _ S.ke,h _ _ _ S.un,λt q=>h _ _ _ (S.ut t q),h _ _ _ S.ns,h _ _ _ S.nt,λb q=>h _ _ _ (S.bo b q),λb q=>h _ _ _ (S.bd b q)⟩
section
variable {k:List L->an->Prop}
theorem wV{ax:ds}{t:aU}{cond:Loc->an->(Bool->an->Prop)->Prop}{dW:Loc->an->(L->an->Prop)->Prop}{s:kJ}{items:List L}{P:Loc->Prop}{mm:L->Loc}{c:L->Bool}{f:L->L}(hi:∀p,itemAt s p H=J (items[p]?.map .one))
   (hb:∀v m,P m->eu ax t (.one v) m H=J (mm v)) (Qt:∀v,P (mm v)) (aD:∀v∈items,∀q:Bool->an->Prop,q (c v) H->cond (mm v) H q) (bl:∀v∈items,c v=ae->∀q:L->an->Prop,q (f v) H->dW (mm v) H q):
   ∀(c3 p:Nat) (m:Loc) (acc:List L),P m->items.length<p+c3->p<=items.length->k (acc++((items.drop p).filter c).map f) H->jX False ax t cond dW s c3 p m H acc k:=by
 intro c3;induction c3 with
 |zero=>
  exact @λp m acc _ ai ak _=>by
   exact absurd ai (n9.mpr ak)
 |succ c3 ih=>
  exact @λp m acc bc ai ak h=>by
   show(match itemAt s p H with |ac=>False|J ac=>k acc H|J (J it)=>match eu ax t it m H with |ac=>False|J m=>cond m H λb H=>match b with
    |ae=>dW m H λv H=>jX False ax t cond dW s c3 (p+1) m H (acc++[v]) k
    |aA=>jX False ax t cond dW s c3 (p+1) m H acc k)
   refine G (hi ..) ?_;by_cases hp:p<items.length
   ·refine G (iy hp ..) ?_;have hv:=zo hp;show(match eu ax t (.one items[p]) m H with |ac=>False|J m=>_)
    refine G (hb _ _ bc) (aD _ hv _ ?_);rw [B6 hp,kE] at h;cases q:c items[p]
    ·rw [q] at h;exact ih (p+1) _ acc (Qt _) (rP ai) hp h
    ·rw [q,aY rfl,h9] at h;exact bl _ hv q _ (ih (p+1) _ _ (Qt _) (rP ai) hp (G (FY ..) h))
   ·have :p=items.length:=by lia
    subst this;refine G (mP (cW _) ..) ?_;rw [FZ] at h;simpa using h
end
theorem mw{a:Nat}(h:a<4000000000000000000):cH (a:Int)=ae:=by unfold cH;simp;exact cQ (by assumption) (by decide)
noncomputable def lg(x a:Nat):Nat:=x/2^(8*a)%256
def hA(x:Nat):List UInt8:=[hV (lg x 0),hV (lg x 1),hV (lg x 2),hV (lg x 3)]
theorem Tf(x s:Nat):(x:Int).fdiv (2^s)=((x/2^s:Nat):Int):=by
 refine G (MI _ (by exact_mod_cast hf (2^s))) ?_
 exact_mod_cast rfl
theorem Sw{x a:Nat}{H:an}{q:b3}(ha:a<100)(h:q (.int (lg x a)) H):aF (a5 .Mult (L.int 8) (.int a) H) λBu sH=>aF (a5 .RShift (.int x) Bu sH) λmA wh=>aF (a5 .BitAnd mA (L.int 255) wh) λoX y1=>q oX y1:=by
 refine a3 (a:=.int (8*(a:Int))) (b:=H) ?_ ?_
 ·show(if cH 8&&cH (a:Int) then J (L.int (8*(a:Int)),H) else ac)=_
  exact G (mw (a:=a) (eE ‹_› (by decide))) rfl
 refine a3 (a:=.int ((x/2^(8*a):Nat):Int)) (b:=H) ?_ ?_
 ·show(if(0:Int)<=8*(a:Int) then J (L.int ((x:Int).fdiv (2^(8*(a:Int)).toNat)),H) else ac)=_
  refine G ((aY (ht _)) ..) ?_;have :(8*(a:Int)).toNat=8*a:=rfl;(exact G this (G (Tf ..) rfl))
 refine a3 (a:=.int (lg x a)) (b:=H) ?_ h;show J (L.int (wy ((x/2^(8*a):Nat):Int) 255),H)=_
 refine G (bitAnd_m8 ..) ?_;unfold lg;rfl
theorem zU(x a:Nat):lg x a<256:=jo _ (by decide)
theorem vz{i:Nat}(h:i<256):oL (.int i)=J (hV i):=by
 show(if(0:Int)<=i/\(i:Int)<256 then J (hV (i:Int).toNat) else ac)=_
 (exact G ((aY ⟨ht _,mc.mpr ‹_›⟩) ..) (G (h8 ..) rfl))
noncomputable def vF:List L:=[.int (0:Nat),.int (1:Nat),.int (2:Nat),.int (3:Nat)]
theorem Ta:lV [L.int 4]=J vF:=by rfl
theorem Tb(h:v∈vF):∃a:Nat,a<4/\v=.int a:=by
 unfold vF at h;simp only [fw,jl,or_false] at h;rcases h with rfl|rfl|rfl|rfl
 ·exact⟨0,by decide,rfl⟩
 ·exact⟨1,by decide,rfl⟩
 ·exact⟨2,by decide,rfl⟩
 ·exact⟨3,by decide,rfl⟩
def vu(x:Nat):List L:=[.int (lg x 0),.int (lg x 1),.int (lg x 2),.int (lg x 3)]
theorem aiT(x:Nat):bR (vu x)=J (hA x):=by
 unfold vu bR bR bR bR bR;refine G (vz (zU x 0)) (G (vz (zU x 1)) (G (vz (zU x 2)) (G (vz (zU x 3)) ?_)));rfl
noncomputable def Ka(x:Nat):L->L
 | .int a=>.int (lg x a.toNat)
 |v=>v
theorem Sv(x:Nat):(([]:List L)++((vF.drop 0).filter λ_=>ae).map (Ka x))=vu x:=by rfl
section
variable {k:b3}
def tG(l:List Nat):List UInt8:=hA l.length++l.flatMap hA++f9 (48 - 4*(l.length+1)) 0
theorem Qe(l:List Nat):(l.flatMap hA).length=4*l.length:=by
 induction l with
 |nil=>rfl
 |cons a l ih=>(refine G MM (G iz (G ih ?_)));show 4+_=_;refine G sO ?_;lia
theorem aeT(h:l.length<=8):(tG l).length=48:=by
 unfold tG;refine G iz (G iz (G (Qe ..) (G (F5 ..) ?_)));show 4+_+_=48;exact wO h
theorem aeU:tG []=jv:=by decide+kernel
theorem Zw{d:L}{H:an}:eu qa BO (.one v) [(e5,a),(dH,c),(na,d)] H=J [(e5,a),(dH,c),(na,d),(hm,v)]:=by kernel_rfl
theorem Zx{d aJ:L}{H:an}:eu qa BO (.one v) [(e5,a),(dH,c),(na,d),(hm,aJ)] H=J [(e5,a),(dH,c),(na,d),(hm,v)]:=by kernel_rfl
theorem ZL{H:an}:eu p4 BP (.one v) [(hm,a)] H=J [(hm,a),(e4,v)]:=by kernel_rfl
theorem ZM{aJ:L}{H:an}:eu p4 BP (.one v) [(hm,a),(e4,aJ)] H=J [(hm,a),(e4,v)]:=by kernel_rfl
theorem abZ{x:Nat}{H:an}{k:List L->an->Prop}(h:k (vu x) H):jX False p4 BP (λm H q=>jb False (aw n) (m0 sG) p4 m H q) (λm H q=>bO False (aw n) (j8 sG 0) p4 m H q) (.items vF) f6 0 [(hm,.int x)] H [] k:=
 wV (items:=vF) (P:=λm=>m=[(hm,.int x)]\/ ∃v,m=[(hm,.int x),(e4,v)]) (mm:=λv=>[(hm,.int x),(e4,v)]) (c:=λ_=>ae) (f:=Ka x) (λ_=>rfl)
  (λv m bc=>by rcases bc with rfl|⟨u,rfl⟩;exact ZL;exact ZM) (λv=>.inr ⟨v,rfl⟩) (λv hv q cJ=>adp cJ)
  (λv hv _ q cJ=>by refine bU (Tb hv) λa ha al5=>?_;obtain rfl:=al5;exact acL (Sw (cQ (by assumption) (by decide)) cJ)) 1000 0 _ [] (.inl rfl) (by decide) (by decide) (G (Sv ..) h)
theorem ajg{f:Nat}{q:ez}:∀(c3 p:Nat) (mm:Loc) (K:dB) (acc:dI),gW K->K[f]? =J (.x 0,.ba acc)->K[i]? =J (.x 1,.list (l.map λ(n:Nat)=>.int (n:Int)))->acc.length<=4*p->
   (mm=[(e5,a),(dH,c),(na,.new f)]\/ ∃v,mm=[(e5,a),(dH,c),(na,.new f),(hm,v)])->l.length<p+c3->p<=l.length->l.length<=9->
   (∀aX mm,gW aX->aX[f]? =J (.x 0,.ba (acc++(l.drop p).flatMap hA))->(∀(j:Nat) (r:bh) (o:bt),¬j=f->K[j]? =J (r,o)->aX[j]? =J (r,o))->(mm=[(e5,a),(dH,c),(na,.new f)]\/ ∃v,mm=[(e5,a),(dH,c),(na,.new f),(hm,v)])->q .next mm (ao aX))->
   gR False qa BO (λm H q=>b1 False (aw n) (ei (bw (aW (bf 33)) 2)) qa m H q) (.lst i) c3 p mm (ao K) q:=by
 intro c3;induction c3 with
 |zero=>
  exact @λp mm K acc fk lk dw ha bc ai ak Qs h=>by
   exact absurd ai (n9.mpr ak)
 |succ c3 ih=>
  exact @λp mm K acc fk lk dw ha bc ai ak Qs h=>by
   by_cases hp:p<l.length
   ·have e1:(l.map λ(n:Nat)=>L.int (n:Int))[p]? =J (.int (l[p]:Nat)):=by exact G kZ (G (iy hp) rfl)
    refine iQ (mm':=[(e5,a),(dH,c),(na,.new f),(hm,.int (l[p]:Nat))]) (nG dw e1) ?_ ?_
    ·rcases bc with rfl|⟨v,rfl⟩
     ·exact Zw
     ·exact Zx
    refine aqI (au (abJ lk) (au Ta (abZ (gz (.x 2) (a3 (G8 c2 rfl (aiT _)) ?_)))));have uL:=fk.app (l:=[(.x 2,.list (vu l[p]))]);refine lS (ahE uL (cf lk) (aC rfl) (fE (by show acc.length+4<=_;lia))) ?_
    refine ih (p+1) _ _ (acc++hA l[p]) (uL.set (cf lk) (aC rfl)) (fo (cf lk)) (aI (cf lk) (cf dw) nofun) (by refine G iz ?_;show _+4<=_;lia) (.inr ⟨_,rfl⟩) (rP ai) hp Qs λaX mm' GR cU a9 i7=>h aX mm' GR ?_ ?_ i7
    ·(exact G (cU ..) (G (B6 hp) (G MM (G (FY ..) rfl))))
    ·intro j r o cY e;refine a9 j r o cY (G (MP (λz=>cY z.symm)) (cf e))
   ·have :p=l.length:=by lia
    subst this;refine mr (qM dw (G (d0 ..) (cW _))) (h K mm fk ?_ (λ_ _ _ _ e=>e) bc)
    refine G FZ ?_;simpa using lk
theorem xh{H:an}{i:Nat}{l:List L}(e:H[i]? =J (.list l)):listAt H i=J l:=by
 unfold listAt;rw [e];rfl
theorem OP{a c:List L}(e1:K[i]? =J (r,.list a)){fR:bh}(e2:K[j]? =J (fR,.list c))(h:bH (a.length+c.length)=ae)(s:bh):a5 .Add (.new i) (.new j) (ao K)=J (.new K.length,ao (K++[(s,.list (a++c))])):=by
 show((listAt (ao K) i).bind λa=>(listAt (ao K) j).bind λb=>if bH (a.length+b.length) then J (L.new (ao K).length,ao K++[bt.list (a++b)]) else ac)=_
 refine G (xh (d8 e1)) (G (xh (d8 e2)) ?_);show(if bH (a.length+c.length) then J (L.new (ao K).length,ao K++[bt.list (a++c)]) else ac)=_
 (exact G (aY h) (G (nB (r:=s)) (G mo rfl)))
theorem ahx{l:List L}(e:K[i]? =J (r,.list l))(aQ:bH l.length=ae)(s:bh):cI (.type "list") [.new i] (ao K)=J (.new K.length,ao (K++[(s,.list l)])):=by
 show((listAt (ao K) i).bind λl=>if bH l.length then J (L.new (ao K).length,ao K++[bt.list l]) else ac)=_
 refine G (xh (d8 e)) ?_;show(if bH l.length then J (L.new (ao K).length,ao K++[bt.list l]) else ac)=_
 (exact G (aY aQ) (G (nB (r:=s)) (G mo rfl)))
theorem Zf(r:bh):cI (.type "bytearray") [] (ao K)=J (.new K.length,ao (K++[(r,.ba [])])):=by
 show J (L.new (ao K).length,ao K++[bt.ba []])=_
 (exact G (nB (r:=r)) (G mo rfl))
theorem XX{a c:dI}{H:an}(h:bH (a.length+c.length)=ae):a5 .Add (.bytes a) (.bytes c) H=J (.bytes (a++c),H):=by
 show(if bH (a.length+c.length) then J (L.bytes (a++c),H) else ac)=_
 (exact G (aY h) rfl)
theorem abg(fk:gW K)(e:K[i]? =J (r,.list (l.map λ(n:Nat)=>.int (n:Int))))(gI:l.length<=8)(h:∀aX,el K aX->k (.bytes (tG l)) (ao aX)):aw (n+1) 763 [.new i,.int 48] (ao K) k:=by
 have aq:bH (l.map λ(n:Nat)=>L.int (n:Int)).length=ae:=xp gI
 refine YW (a3 (pE e aq) (a3 rfl (a3 (a:=.int (4*((l.length:Int)+1))) (b:=ao K) ?_ (au rfl (g7 (decide_eq_false (by lia)) (a3 (Zf (.x 0)) (a3 (pE (cf e) aq) ?_)))))))
 ·show(if cH 4&&cH (((l.map λ(n:Nat)=>L.int (n:Int)).length:Int)+1) then J (L.int (4*(((l.map λ(n:Nat)=>L.int (n:Int)).length:Int)+1)),ao K) else ac)=_
  rw [d0,show((l.length:Int)+1)=((l.length+1:Nat):Int) by exact rfl,mw (a:=l.length+1) (by lia)];rfl
 refine gz (.x 3) (a3 (ahx (cf (cf e)) aq (.x 4)) ?_);have e2:(K++[(bh.x 0,bt.ba [])]++[(bh.x 3,bt.list [.int ((l.map λ(n:Nat)=>L.int (n:Int)).length:Int)])]++[(bh.x 4,bt.list (l.map λ(n:Nat)=>L.int (n:Int)))])[(K++[(bh.x 0,bt.ba [])]).length]? =J (bh.x 3,bt.list [.int ((l.map λ(n:Nat)=>L.int (n:Int)).length:Int)]):=cf c2
 refine a3 (OP e2 c2 (by show bH (1+_)=ae;(rw [d0]);exact fE (by lia)) (.x 1)) (pH c2 ?_)
 have GR:=(((fk.app (l:=[(bh.x 0,bt.ba [])])).app (l:=[(bh.x 3,bt.list [.int ((l.map λ(n:Nat)=>L.int (n:Int)).length:Int)])])).app (l:=[(bh.x 4,bt.list (l.map λ(n:Nat)=>L.int (n:Int)))])).app (l:=[(bh.x 1,bt.list ([.int ((l.map λ(n:Nat)=>L.int (n:Int)).length:Int)]++l.map λ(n:Nat)=>L.int (n:Int)))])
 refine ajg (l:=l.length::l) (f:=K.length) 1000 0 _ _ [] GR (cf (cf (cf c2))) (c2.trans (G (d0 ..) rfl)) (hf _) (.inl rfl) (by refine G sO ?_;lia) (hf _) (G sO (eI (by assumption) (by decide))) λaX mm uL cU a9 bc=>?_
 have mZ:([]++((l.length::l).drop 0).flatMap hA).length=4*(l.length+1):=G (zs ..) (Qe (l.length::l));have j1:aF (cI (.type "bytes") [.new K.length] (ao aX)) λKQ hr=>aF (cI (.builtin "len") [.new K.length] hr) λse iI=>aF (a5 .Sub (.int 48) se iI) λiG fJ=>aF (cI (.type "bytes") [iG] fJ) λBg iw=>aF (a5 .Add KQ Bg iw) λnT i1=>k nT i1:=by
  refine a3 (Pd cU (fE (by refine G mZ ?_;lia))) (a3 (JD cU (fE (by refine G mZ ?_;lia))) (a3 rfl ?_))
  refine G mZ (a3 (CQ ⟨by lia,zg (Int.sub_le_self _ (ht _)) (by decide)⟩) (a3 (XX ?_) ?_))
  ·exact G mZ (G F5 (fE (by lia)))
  ·have H5:([]++((l.length::l).drop 0).flatMap hA)++f9 ((48:Int) - ((4*(l.length+1):Nat):Int)).toNat 0=tG l:=by
    rw [zs,zm,MM];congr 2
    lia
   refine G H5 (h aX λj r o q=>a9 j r o (λz=>?_) (cf (cf (cf (cf q)))))
   subst z;have :=A1 q;exact absurd this (jn _)
 rcases bc with rfl|⟨v,rfl⟩
 ·exact W0 j1
 ·exact W1 j1
end
end
variable {a:L}
section
variable {N:List Nat}
section
variable {k:b3}{q:ez}
noncomputable def oG(re:gj):Nat×List Nat×Nat×List (L×L)×Int×Int:=(re.ns,re.nums,re.nt,re.ntl,re.calls,re.commits)
theorem vq{re re':gj}(h:oG re'=oG re):re'.nums=re.nums:=congrArg (·.2.1) h
abbrev WP(A:g1)(al:hq)(re:gj)(K:dB)(l:List Nat)(k:b3):Prop:=∀bJ re' aX,bP A bJ re' aX->Inv bJ re'->bJ.held=ac->bJ.pd=al.pd->oG re'=oG re->re'.writes=re.writes+1->re'.unl=[]->
 (∀y,cnt bJ re' y=if y=2 then tG l else cnt al re y)->(∀y,e0 re' y=if y=2 then tG l else e0 re y)->Fr fN K aX->k .none (ao aX)
theorem Pn(S:bP A al re K)(am:Inv al re)(a6:al.held=ac){l:List Nat}(e:K[i]? =J (r,.list (l.map λ(n:Nat)=>.int (n:Int))))(gI:l.length<=8)(bT:re.unl.length<=800)(h:WP A al re K l k):aw (n+5) 841 [.new A.j,.new i] (ao K) k:=by
 refine Y4 (au (aN S.j rfl rfl) (au (c1 S.c rfl rfl) (au (aN S.j rfl rfl) (au (aN S.j rfl rfl) (au (aN S.c rfl rfl) ?_)))));refine abg S.z e gI λcp az=>?_
 have b6:=S.ex az;refine HE (m:=2) b6 am a6 (by decide) (aeT gI) (cQ (by assumption) (by decide)) λca2 dZ t cc eY ai ak aZ fH=>?_
 refine au (aN cc.j rfl rfl) (au (c1 cc.c rfl rfl) (HD cc eY (by show(re.unl++[_]).length<=900;refine G iz ?_;simp only [zq];exact eI (by assumption) (by decide)) λgu ln un eb hk f7=>?_))
 refine h ca2 _ gu eb (eY.flushed hk) ai ak rfl rfl rfl (λy=>?_) (λy=>wZ (t:=t) (x:=tG l) y) ((az.fr).trans (fH.trans f7))
 exact aZ y
theorem ZA:eu qc BR (.pair u v) [(bQ,a)] H=J [(bQ,a),(dQ,u),(bS,v)]:=by kernel_rfl
theorem ZB{ef aJ:L}:eu qc BR (.pair u v) [(bQ,a),(dQ,ef),(bS,aJ)] H=J [(bQ,a),(dQ,u),(bS,v)]:=by kernel_rfl
structure uz(N:List Nat):Prop where
 le:N.length<=8
 own:∀x∈N,gY x/\x<22
theorem adz(a2:uz N):∀(c3 p:Nat) (mm:Loc) (al:hq) (re:gj) (K:dB),bP A al re K->Inv al re->al.held=ac->re.ns=i->re.nums=N->re.unl.length+N.length<=100+p->
   (mm=[(bQ,.new A.j)]\/ ∃u v,mm=[(bQ,.new A.j),(dQ,u),(bS,v)])->N.length<p+c3->p<=N.length->
   (∀bJ re' aX mm,bP A bJ re' aX->Inv bJ re'->bJ.held=ac->bJ.pd=al.pd->oG re'=oG re->re'.writes=re.writes+((N.length - p:Nat):Int)->re'.unl.length<=100->(∀y,gY y->cnt bJ re' y=cnt al re y/\e0 re' y=e0 re y)->Fr fN K aX->
    (mm=[(bQ,.new A.j)]\/ ∃u v,mm=[(bQ,.new A.j),(dQ,u),(bS,v)])->q .next mm (ao aX))->
   gR False qc BR (λm H q=>b1 False (aw (n+4)) (ei (bw (aW (aL 34 8)) 0)) qc m H q) (.enum i) c3 p mm (ao K) q:=by
 intro c3;induction c3 with
 |zero=>
  exact @λp mm al re K S am a6 dw lj bT bc ai ak h=>by
   exact absurd ai (n9.mpr ak)
 |succ c3 ih=>
  exact @λp mm al re K S am a6 dw lj bT bc ai ak h=>by
   have kL:=S.ns;rw [lj,dw] at kL;by_cases hp:p<N.length
   ·have e1:(N.map λ(n:Nat)=>L.int (n:Int))[p]? =J (.int (N[p]:Nat)):=by exact G kZ (G (iy hp) rfl)
    have nE:=a2.own _ (zo hp);have :=a2.le;refine iQ (mm':=[(bQ,.new A.j),(dQ,.int p),(bS,.int (N[p]:Nat))]) (vp kL e1) ?_ ?_
    ·rcases bc with rfl|⟨u,v,rfl⟩
     ·exact ZA
     ·exact ZB
    refine aqK (au (aN S.j rfl rfl) (au (c1 S.c rfl rfl) (au (aN S.j rfl rfl) (a3 rfl (a3 rfl (au (aN S.j rfl rfl) (au (c1 S.c rfl rfl) ?_)))))));refine Pj S am a6 nE.2 λeL cp b6 d7 Dn vb aZ dJ=>?_
    have aP:(2:Int)+1+(p:Int)=((3+p:Nat):Int):=rfl;show bB False _ _ [.int (2+1+(p:Int)),_] _ _
    refine G aP (HE (m:=3+p) b6 d7 Dn (by lia) (C2 am) (by lia) λca2 dZ t cc eY d1 g2 hx fH=>ih (p+1) _ ca2 _ dZ cc eY d1 dw lj ?_ (.inr ⟨_,_,rfl⟩) (rP ai) hp λbJ re' aX mm' g6 kD ch cd ee jE jF mq mM i7=>?_)
    ·show(re.unl++[_]).length+_<=_;refine G iz ?_;simp only [zq];lia
    refine h bJ re' aX mm' g6 kD ch (cd.trans (g2.trans vb)) ee ?_ jF (λy hy=>?_) (dJ.trans (fH.trans mM)) i7
    ·refine G jE ?_;show re.writes+1+_=_;exact OH hp
    ·refine cz (mq y hy) λcA de=>?_
     have RY:¬y=3+p:=by unfold gY at hy;lia
     exact⟨by(exact G (cA ..) (G (hx ..) (G ((a8 RY) ..) (G (aZ ..) rfl)))),by(exact G (de ..) (G (wZ ..) (G ((a8 RY) ..) rfl)))⟩
   ·have :p=N.length:=by lia
    subst this;exact mr (Ji kL (G (d0 ..) (cW _))) (h al re K mm S am a6 rfl rfl (by simp) (Vm.mp bT) (λy _=>⟨rfl,rfl⟩) (.refl K) bc)
theorem abo(a2:uz N)(S:bP A al re K)(am:Inv al re)(a6:al.held=ac)(lj:re.nums=N)(bT:re.unl=[])
  (h:∀bJ re' aX,bP A bJ re' aX->Inv bJ re'->bJ.held=ac->bJ.pd=al.pd->oG re'=oG re->re'.writes=re.writes+(N.length:Int)->re'.unl=[]->(∀y,gY y->cnt bJ re' y=cnt al re y/\e0 re' y=e0 re y)->Fr fN K aX->k .none (ao aX)):aw (n+5) 834 [.new A.j] (ao K) k:=by
 have :=a2.le;have kL:=S.ns;rw [lj] at kL;refine Y3 (au (aN S.j rfl rfl) (pH kL ?_));refine adz a2 1000 0 _ al re K S am a6 rfl lj (by refine G bT ?_;simp;exact cQ (by assumption) (by decide)) (.inl rfl) (eI (by assumption) (by decide)) (hf _) λbJ re' aX mm g6 kD ai ak aZ cC gl gH a9 bc=>?_
 have j1:aj (aV (.new A.j) fU (ao aX)) λnW=>aj (bx nW q7 (ao aX)) λnw=>bB False (aw (n+4)) nw [] (ao aX) λtS g3=>k L.none g3:=by
  refine au (aN g6.j rfl rfl) (au (c1 g6.c rfl rfl) (HD g6 kD (cQ (by assumption) (by decide)) λgu ln un eb hk f7=>?_))
  exact h bJ _ gu eb (kD.flushed hk) ai ak aZ cC rfl (λy hy=>gH y hy) (a9.trans f7)
 rcases bc with rfl|⟨u,v,rfl⟩
 ·exact W4 j1
 ·exact W5 j1
theorem ZC{b c:L}:eu np yR (.pair u v) [(bQ,a),(e5,b),(nX,c)] H=J [(bQ,a),(e5,b),(nX,c),(dQ,u),(bS,v)]:=by kernel_rfl
theorem ZD{b c ef aJ w:L}:eu np yR (.pair u v) [(bQ,a),(e5,b),(nX,c),(dQ,ef),(bS,aJ),(d2,w)] H=J [(bQ,a),(e5,b),(nX,c),(dQ,u),(bS,v),(d2,w)]:=by kernel_rfl
abbrev Og(A:g1)(i:Nat)(mm:Loc):Prop:=mm=[(bQ,.new A.j),(e5,.new i),(nX,.bool aA)]\/ ∃u v w,mm=[(bQ,.new A.j),(e5,.new i),(nX,.bool aA),(dQ,u),(bS,v),(d2,w)]
theorem afP(a2:uz N):∀(c3 p:Nat) (mm:Loc) (al:hq) (re:gj) (K:dB),bP A al re K->Inv al re->al.held=ac->re.ns=i->re.nums=N->re.unl.length+N.length<=100+p->
   Og A i mm->N.length<p+c3->p<=N.length->
   (∀bJ re' aX mm,bP A bJ re' aX->Inv bJ re'->bJ.held=ac->bJ.pd=al.pd->oG re'=oG re->re'.writes=re.writes+((N.length - p:Nat):Int)->re'.unl.length<=100->(∀y,cnt bJ re' y=cnt al re y)->(∀y,e0 re' y=if y∈N.drop p then cnt al re y else e0 re y)->Fr fN K aX->
    Og A i mm->q .next mm (ao aX))->
   gR False np yR (λm H q=>b1 False (aw (n+4)) (ei (bw (aW (aL 34 10)) 0)) np m H q) (.enum i) c3 p mm (ao K) q:=by
 intro c3;induction c3 with
 |zero=>
  exact @λp mm al re K S am a6 dw lj bT bc ai ak h=>by
   exact absurd ai (n9.mpr ak)
 |succ c3 ih=>
  exact @λp mm al re K S am a6 dw lj bT bc ai ak h=>by
   have kL:=S.ns;rw [lj,dw] at kL;by_cases hp:p<N.length
   ·have e1:(N.map λ(n:Nat)=>L.int (n:Int))[p]? =J (.int (N[p]:Nat)):=by exact G kZ (G (iy hp) rfl)
    have nE:=a2.own _ (zo hp);have :=a2.le;have body:∀ {mm':Loc} {Q:b3},(∀ca2 dZ t,bP A ca2 (mB re N[p] (cnt al re N[p]) t) dZ->Inv ca2 (mB re N[p] (cnt al re N[p]) t)->ca2.held=ac->ca2.pd=al.pd->(∀y,cnt ca2 (mB re N[p] (cnt al re N[p]) t) y=cnt al re y)->Fr fN K dZ->Q (.bytes (cnt al re N[p])) (ao dZ))->
      aj (aV (.new A.j) fU (ao K)) λaT=>aj (bx aT (z "peek") (ao K)) λeT=>aj (ky (.bool aA)) λhX=>dU hX False (bB False (aw (n+4)) eT [.int (N[p]:Nat)] (ao K) λeV fv=>aj (aV (.new A.j) fU fv) λv3=>aj (bx v3 (z "poke") fv) λuT=>bB False (aw (n+4)) uT [.int (N[p]:Nat),eV] fv λe9 g4=>Q eV g4):=λ{mm' Q} jG=>by
     refine au (aN S.j rfl rfl) (au (c1 S.c rfl rfl) (au rfl (g7 rfl ?_)));refine Pj S am a6 nE.2 λeL cp b6 d7 Dn vb aZ dJ=>au (aN b6.j rfl rfl) (au (c1 b6.c rfl rfl) ?_)
     refine HE b6 d7 Dn nE.2 (C2 am) (by lia) λca2 dZ t cc eY d1 g2 hx fH=>jG ca2 dZ t cc eY d1 (g2.trans vb) (λy=>?_) (dJ.trans fH)
     refine G (hx ..) ?_;split
     ·rename_i e;(exact G e rfl)
     ·exact aZ y
    have step:∀ca2 dZ t,bP A ca2 (mB re N[p] (cnt al re N[p]) t) dZ->Inv ca2 (mB re N[p] (cnt al re N[p]) t)->ca2.held=ac->ca2.pd=al.pd->(∀y,cnt ca2 (mB re N[p] (cnt al re N[p]) t) y=cnt al re y)->Fr fN K dZ->
      gR False np yR (λm H q=>b1 False (aw (n+4)) (ei (bw (aW (aL 34 10)) 0)) np m H q) (.enum i) c3 (p+1) [(bQ,.new A.j),(e5,.new i),(nX,.bool aA),(dQ,.int p),(bS,.int (N[p]:Nat)),(d2,.bytes (cnt al re N[p]))] (ao dZ) q:=by
     intro ca2 dZ t cc eY d1 g2 hx fH;refine ih (p+1) _ ca2 _ dZ cc eY d1 dw lj ?_ (.inr ⟨_,_,_,rfl⟩) (rP ai) hp λbJ re' aX mm' g6 kD ch cd ee jE jF mq tx mM i7=>?_
     ·show(re.unl++[_]).length+_<=_;refine G iz ?_;simp only [zq];lia
     refine h bJ re' aX mm' g6 kD ch (cd.trans g2) ee ?_ jF (λy=>(mq y).trans (hx y)) (λy=>?_) (fH.trans mM) i7
     ·refine G jE ?_;show re.writes+1+_=_;exact OH hp
     ·refine G (tx ..) (G (hx ..) (G (wZ ..) (G (B6 hp ..) ?_)));by_cases aM:y∈N.drop (p+1)
      ·(exact G (aY aM) (G (aY (f8 _ aM)) rfl))
      ·refine G (a8 aM) ?_;by_cases a7:y=N[p]
       ·(exact G (aY a7) (G (aY (by rw [a7];exact fK)) (G a7 rfl)))
       ·(exact G (a8 a7) (G (a8 (λz=>(fw.mp z).elim a7 aM)) rfl))
    rcases bc with rfl|⟨u,v,w,rfl⟩
    ·refine iQ (vp kL e1) ZC (aqL ?_);exact body (mm':=[]) (Q:=λr H=>_) step
    ·refine iQ (vp kL e1) ZD (aqM ?_);exact body (mm':=[]) (Q:=λr H=>_) step
   ·have :p=N.length:=by lia
    subst this;exact mr (Ji kL (G (d0 ..) (cW _))) (h al re K mm S am a6 rfl rfl (by simp) (Vm.mp bT) (λy=>rfl) (λy=>by(exact G FZ (G (a8 (by simp)) rfl))) (.refl K) bc)
end
end
section
variable {k:b3}{q:ez}
theorem abp{N:List Nat}(a2:uz N)(S:bP A al re K)(am:Inv al re)(a6:al.held=ac)(lj:re.nums=N)(aQ:al.pd=N)(bT:re.unl=[])
  (h:∀bJ re' aX,bP A bJ re' aX->Inv bJ re'->bJ.held=ac->bJ.pd=al.pd->oG re'=oG re->re'.writes=re.writes+(N.length:Int)->re'.unl=[]->(∀y,cnt bJ re' y=cnt al re y)->(∀y,e0 re' y=cnt al re y)->Fr fN K aX->k .none (ao aX)):aw (n+5) 848 [.new A.j,.new re.ns,.bool aA] (ao K) k:=by
 have :=a2.le;have kL:=S.ns;rw [lj] at kL;refine Y5 (pH kL ?_);refine afP a2 1000 0 _ al re K S am a6 rfl lj (by refine G bT ?_;simp;exact cQ (by assumption) (by decide)) (.inl rfl) (eI (by assumption) (by decide)) (hf _) λbJ re' aX mm g6 kD ai ak aZ cC gl gH qD a9 bc=>?_
 have j1:aj (aV (.new A.j) fU (ao aX)) λnW=>aj (bx nW q7 (ao aX)) λnw=>bB False (aw (n+4)) nw [] (ao aX) λtS g3=>k L.none g3:=by
  refine au (aN g6.j rfl rfl) (au (c1 g6.c rfl rfl) (HD g6 kD (cQ (by assumption) (by decide)) λgu ln un eb hk f7=>?_))
  refine h bJ _ gu eb (kD.flushed hk) ai ak aZ cC rfl (λy=>gH y) (λy=>?_) (a9.trans f7)
  have Qr:=qD y;rw [zm] at Qr;refine Eq.trans (b:=e0 re' y) rfl (Qr.trans ?_);split
  ·rfl
  ·rename_i hy;unfold cnt;cases e:gP y al.bs with
   |none=>rfl
   |some b=>refine cz (w1 e) λaz aT=>?_;have :=am.coh b az (G aT (G aQ hy)) (by refine G a6 ?_;nofun);rw [aT] at this;exact this.symm
 rcases bc with rfl|⟨u,v,w,rfl⟩
 ·exact W6 j1
 ·exact W7 j1
theorem Zy{a v:L}{H:an}:eu qb BQ (.one v) [(bQ,a)] H=J [(bQ,a),(bS,v)]:=by kernel_rfl
theorem Zz{a v aJ:L}{H:an}:eu qb BQ (.one v) [(bQ,a),(bS,aJ)] H=J [(bQ,a),(bS,v)]:=by kernel_rfl
theorem apQ{N:List Nat}:∀(c3 p:Nat) (mm:Loc) (al:hq) (K:dB),bP A al re K->Inv al re->al.held=ac->re.nums=N->al.pd=N.drop p->(∀y,cnt al re y=e0 re y)->
   (mm=[(bQ,.new A.j)]\/ ∃v,mm=[(bQ,.new A.j),(bS,v)])->N.length<p+c3->p<=N.length->
   (∀bJ aX mm,bP A bJ re aX->Inv bJ re->bJ.held=ac->bJ.pd=[]->(∀y,cnt bJ re y=cnt al re y)->Fr fN K aX->(mm=[(bQ,.new A.j)]\/ ∃v,mm=[(bQ,.new A.j),(bS,v)])->q .next mm (ao aX))->
   gR False qb BQ (λm H q=>b1 False (aw (n+2)) (ei (bw (aW (aL 34 7)) 4)) qb m H q) (.lst re.ns) c3 p mm (ao K) q:=by
 intro c3;induction c3 with
 |zero=>
  exact @λp mm al K S am a6 lj iR aD bc ai ak h=>by
   exact absurd ai (n9.mpr ak)
 |succ c3 ih=>
  exact @λp mm al K S am a6 lj iR aD bc ai ak h=>by
   have kL:=S.ns;rw [lj] at kL;by_cases hp:p<N.length
   ·have e1:(N.map λ(n:Nat)=>L.int (n:Int))[p]? =J (.int (N[p]:Nat)):=by exact G kZ (G (iy hp) rfl)
    refine iQ (mm':=[(bQ,.new A.j),(bS,.int (N[p]:Nat))]) (nG kL e1) ?_ ?_
    ·rcases bc with rfl|⟨v,rfl⟩
     ·exact Zy
     ·exact Zz
    have jZ:al.pd=N[p]::N.drop (p+1):=by(exact G iR (G (B6 hp) rfl))
    refine aqJ (au (aN S.j rfl rfl) (au (c1 S.c rfl rfl) ?_));exact abb S am a6 (G jZ fK) aD λeL cp b6 d7 d1 g2 hx dJ=>ih (p+1) _ eL cp b6 d7 d1 lj (by(exact G (g2 ..) (G jZ (G (List.erase_cons_head ..) rfl)))) (λy=>(hx y).trans (aD y)) (.inr ⟨_,rfl⟩) (rP ai) hp λbJ aX mm' g6 kD ch cd ee mM i7=>h bJ aX mm' g6 kD ch cd (λy=>(ee y).trans (hx y)) (dJ.trans mM) i7
   ·have :p=N.length:=by lia
    subst this;exact mr (qM kL (G (d0 ..) (cW _))) (h al K mm S am a6 (by(exact G iR (G FZ rfl))) (λy=>rfl) (.refl K) bc)
abbrev Mz(A:g1)(al:hq)(re:gj)(K:dB)(k:b3):Prop:=∀bJ re' aX,bP A bJ re' aX->Inv bJ re'->bJ.held=ac->bJ.pd=[]->re'.nums=[]->re'.calls=re.calls->re'.commits=re.commits+1->re'.writes=re.writes+2+2*(re.nums.length:Int)->re'.unl=[]->
 (∀y,gY y->cnt bJ re' y=cnt al re y/\e0 re' y=cnt al re y)->e0 re' 2=jv->Fr fN K aX->k .none (ao aX)
theorem abn(a2:uz re.nums)(S:bP A al re K)(am:Inv al re)(a6:al.held=ac)(aQ:al.pd=re.nums)(bT:re.unl=[])(h:Mz A al re K k):aw (n+6) 827 [.new A.j] (ao K) k:=by
 have :=a2.le;refine Y2 (au (c1 S.j rfl rfl) (abo a2 S am a6 rfl bT λeL as8 cp b6 d7 hu jC kn lf qs tg dJ=>?_))
 have PY:=b6.ns;rw [vq kn] at PY;refine au (c1 b6.j rfl rfl) (au (aN b6.j rfl rfl) ?_);refine Pn b6 d7 hu PY a2.le (by refine G qs ?_;decide) λca2 as9 dZ cc eY fy fz jV ou rR tl asw fH=>?_
 refine au (c1 cc.j rfl rfl) (au (aN cc.j rfl rfl) ?_);refine abp (N:=re.nums) a2 cc eY fy (by(exact G (vq jV) (G (vq kn) rfl))) (fz.trans (jC.trans aQ)) rR λz2 KY gu eb o5 bf aL wW Aa Ab PK acg f7=>au (c1 eb.j rfl rfl) (gz (.x 5) ?_)
 have VJ:=eb.app [(.x 5,.list [])];refine Pn (l:=[]) VJ o5 bf c2 (hf _) (by refine G Ab ?_;decide) λpr tT jR gV rr ch cd ee jE jF mq tx n3=>?_
 have j0:tT.nums=re.nums:=by(exact G (vq ee) (G (vq wW) (G (vq jV) (G (vq kn) rfl))))
 have acR:=gV.ns;have PE:∀y,cnt pr tT y=e0 tT y:=λy=>by(rewrite [mq];rw [tx]);split;rfl;(exact G (PK ..) (G (acg ..) rfl))
 refine au (aN gV.j rfl rfl) (pH acR ?_);refine apQ (N:=re.nums) 1000 0 _ pr jR gV rr ch j0 (G cd (G aL (G fz (G jC (G aQ rfl))))) PE (.inl rfl) (eI (by assumption) (by decide)) (hf _) λCV kY mm lb jy d1 g2 hx je bc=>?_
 have j1:eq (ao kY) (.list []) λkd ni=>aj (ft (.new A.j) e5 kd ni) λmN=>eq mN (.dict []) λmx hE=>aj (ft (.new A.j) t0 mx hE) λjh=>aj (aV (.new A.j) sE jh) λzN=>kp zN (L.int 1) (a5 .Add zN (L.int 1) jh) λnS i0=>aj (ft (.new A.j) sE nS i0) λiI=>k L.none iI:=by
  have e7:=lb.app [(.ns,.list [])];refine gz .ns (au (iV e7.z e7.j (aC rfl) rfl rfl) ?_);have VM:=e7.setNs c2;have oq:=VM.app [(.nt,.dict [])];refine gz .nt (au (iV oq.z oq.j (aC rfl) rfl rfl) ?_);have te:=oq.setNt c2;refine au (aN te.j rfl rfl) (mU rfl (au (iV te.z te.j (aC rfl) rfl rfl) ?_));have ph:=te.setJ tT.calls (tT.commits+1);have Q7:=ee.trans (wW.trans (jV.trans kn));refine h CV _ _ ph ⟨jy.nd,jy.lt,jy.len,jy.cap,jy.bn,jy.bnk,jy.lak,jy.kek,⟨Cb,(λ_ h=>absurd h jl)⟩,jy.lav,λy=>rfl,jy.pdd,jy.pd8,jy.pdb,jy.pin,jy.ho,jy.coh,jy.unb⟩ d1 g2 rfl ?_ ?_ ?_ jF (λy hy=>?_) ?_ ?_
  ·exact congrArg (·.2.2.2.2.1) Q7
  ·exact congrArg (λz=>z+1) (congrArg (·.2.2.2.2.2) Q7)
  ·show tT.writes=_
   refine G jE (G Aa (G ou (G lf ?_)));lia
  ·have n2:¬y=2:=by unfold gY at hy;lia
   refine cz (tg y hy) λcA de=>?_
   have e1:cnt pr tT y=cnt al re y:=by(exact G (mq ..) (G ((a8 n2) ..) (G (PK ..) (G (tl ..) (G (a8 n2) (G cA rfl))))))
   exact⟨(hx y).trans e1,(PE y).symm.trans e1⟩
  ·show e0 tT 2=jv
   (exact G (tx ..) (G ((aY rfl) ..) (G aeU rfl)))
  ·exact dJ.trans (fH.trans (f7.trans ((Fr.app _ _).trans (n3.trans (je.trans ((Fr.app _ _).trans ((Fr.set e7.j rfl).trans ((Fr.app _ _).trans ((Fr.set oq.j rfl).trans (Fr.set te.j rfl))))))))))
 rcases bc with rfl|⟨v,rfl⟩
 ·exact W2 j1
 ·exact W3 j1
theorem ah3{l:List L}{fR:bh}(e:K[i]? =J (r,.list l))(e2:K[j]? =J (fR,.list []))(aQ:l≠ []):bW .NotEq (.new i) (.new j) (ao K)=J ae:=by
 show(match(ao K)[i]?,(ao K)[j]?with
  |J (.list a),J (.list b)|J (.scr a),J (.list b)=>if a.length=b.length then(if a.all hK&&b.all hK then J (a==b) else ac) else J aA
  |_,_=>ac).map (!·)=_
 refine G (d8 e) (G (d8 e2) ?_);show(if l.length=([]:List L).length then _ else J aA).map (!·)=_
 exact G (a8 (show¬l.length=([]:List L).length from λz=>aQ (List.length_eq_zero_iff.mp z))) rfl
theorem abl(S:bP A al re K)(ak:re.calls=2)(h:∀aX,bP A al {re with calls:=1} aX->Fr fN K aX->k .none (ao aX)):aw (n+1) 820 [.new A.j] (ao K) k:=by
 refine OY (au (aN S.j rfl rfl) (au (a:=re.calls==0) rfl (g7 (G ak rfl) (au (aN S.j rfl rfl) (mU rfl (au (iV S.z S.j (aC rfl) rfl rfl) ?_))))));have e:re.calls - 1=1:=U8.mpr ak;refine G e ?_;have b6:=S.setJ 1 re.commits;exact au (aN b6.j rfl rfl) (au (a:=aA) rfl (ot rfl (h _ b6 (Fr.set S.j rfl))))
theorem abm(a2:uz re.nums)(S:bP A al re K)(am:Inv al re)(a6:al.held=ac)(aQ:al.pd=re.nums)(bT:re.unl=[])(ai:re.calls=1)(hn:re.nums≠ [])(h:Mz A al {re with calls:=0} K k):aw (n+7) 820 [.new A.j] (ao K) k:=by
 refine OY (au (aN S.j rfl rfl) (au (a:=re.calls==0) rfl (g7 (G ai rfl) (au (aN S.j rfl rfl) (mU rfl (au (iV S.z S.j (aC rfl) rfl rfl) ?_))))));have e:re.calls - 1=0:=Int.sub_eq_zero.mpr ai;refine G e ?_;have b6:=S.setJ 0 re.commits;refine au (aN b6.j rfl rfl) (au (a:=ae) rfl (pj rfl (au (aN b6.j rfl rfl) (gz (.x 5) ?_))));have cc:=b6.app [(.x 5,.list [])];refine au (ah3 cc.ns c2 (λz=>hn (List.map_eq_nil_iff.mp z))) (pj rfl (au (c1 cc.j rfl rfl) ?_))
 exact abn (re:= {re with calls:=0}) a2 cc (am.calls 0 re.commits) a6 aQ bT λbJ re' aX g6 kD hu jC kn lf qs tg wN rO zP a9=>h bJ re' aX g6 kD hu jC kn lf qs tg wN rO zP ((Fr.set S.j rfl).trans ((Fr.app _ _).trans a9))
end
section
variable {U:List Nat}{a ap off x:Nat}{l:dI}
structure jx where
 (p0 p1 size:Nat)
structure cR where
 (img:Nat->List UInt8) (fl:Nat->jx) (nums:List Nat)
noncomputable def bm(a b c d:Bool):List UInt8:=255::(if b then(if a then 255 else 191) else(if a then 127 else 63))::(if d then(if c then 3 else 2) else(if c then 1 else 0))::f9 45 0
def ga(U:List Nat):List UInt8:=bm (U.contains 14) (U.contains 15) (U.contains 16) (U.contains 17)
noncomputable def hW(l:dI)(x:Nat):Nat:=(l[x/8]?.getD 0).toNat/2^(x%8)%2
theorem Z4:∀a b c d:Bool,hW (bm a b c d) 14=a.toNat/\hW (bm a b c d) 15=b.toNat/\hW (bm a b c d) 16=c.toNat/\hW (bm a b c d) 17=d.toNat:=by decide+kernel
noncomputable def xD(l:dI)(x:Nat):List UInt8:=l.set (x/8) (hV ((l[x/8]?.getD 0).toNat|||2^(x%8)))
noncomputable def i8(l:dI)(x:Nat):List UInt8:=l.set (x/8) (hV ((l[x/8]?.getD 0).toNat - 2^(x%8)))
theorem Z5:∀a b c d:Bool,xD (bm a b c d) 14=bm ae b c d/\xD (bm a b c d) 15=bm a ae c d/\xD (bm a b c d) 16=bm a b ae d/\xD (bm a b c d) 17=bm a b c ae:=by decide+kernel
theorem Z6:∀a b c d:Bool,i8 (bm ae b c d) 14=bm aA b c d/\i8 (bm a ae c d) 15=bm a aA c d/\i8 (bm a b ae d) 16=bm a b aA d/\i8 (bm a b c ae) 17=bm a b c aA:=by decide+kernel
theorem Pa:∀a b c d:Bool,(bm a b c d).length=48:=by decide+kernel
def gG(x:Nat):Prop:=14<=x/\x<=17
theorem HZ(h:gG x):x=14\/x=15\/x=16\/x=17:=
 (by decide:∀x,x<18->14<=x->(x=14\/x=15\/x=16\/x=17)) x (MZ h.2) h.1
theorem uR(h:gG x):hW (ga U) x=(U.contains x).toNat:=by
 have :=Z4 (U.contains 14) (U.contains 15) (U.contains 16) (U.contains 17);rcases HZ h with rfl|rfl|rfl|rfl
 ·exact this.1
 ·exact this.2.1
 ·exact this.2.2.1
 ·exact this.2.2.2
theorem aeE{y:Nat}:(y::U).contains x=(x==y||U.contains x):=uw
theorem O9(h:gG x):xD (ga U) x=ga (x::U):=by
 have :=Z5 (U.contains 14) (U.contains 15) (U.contains 16) (U.contains 17);unfold ga;simp only [aeE];rcases HZ h with rfl|rfl|rfl|rfl
 ·exact this.1
 ·exact this.2.1
 ·exact this.2.2.1
 ·exact this.2.2.2
theorem G4{rM:List Nat}(h:∀x,gG x->U.contains x=rM.contains x):ga U=ga rM:=by
 unfold ga;(exact G (h 14 ⟨by decide,by decide⟩) (G (h 15 ⟨by decide,by decide⟩) (G (h 16 ⟨by decide,by decide⟩) (G (h 17 ⟨by decide,by decide⟩) rfl))))
theorem Z3{rM:List Nat}(h:gG x)(ai:U.contains x=ae)(ak:rM.contains x=aA)(aZ:∀y,gG y->¬y=x->U.contains y=rM.contains y):i8 (ga U) x=ga rM:=by
 have :=Z6 (U.contains 14) (U.contains 15) (U.contains 16) (U.contains 17);unfold ga;rcases HZ h with rfl|rfl|rfl|rfl
 ·exact G ai (G ak (cT (aZ 15 ⟨by decide,by decide⟩ (by decide)) (cT (aZ 16 ⟨by decide,by decide⟩ (by decide)) (cT (aZ 17 ⟨by decide,by decide⟩ (by decide)) this.1))))
 ·exact G ai (G ak (cT (aZ 14 ⟨by decide,by decide⟩ (by decide)) (cT (aZ 16 ⟨by decide,by decide⟩ (by decide)) (cT (aZ 17 ⟨by decide,by decide⟩ (by decide)) this.2.1))))
 ·exact G ai (G ak (cT (aZ 14 ⟨by decide,by decide⟩ (by decide)) (cT (aZ 15 ⟨by decide,by decide⟩ (by decide)) (cT (aZ 17 ⟨by decide,by decide⟩ (by decide)) this.2.2.1))))
 ·exact G ai (G ak (cT (aZ 14 ⟨by decide,by decide⟩ (by decide)) (cT (aZ 15 ⟨by decide,by decide⟩ (by decide)) (cT (aZ 16 ⟨by decide,by decide⟩ (by decide)) this.2.2.2))))
noncomputable def cF(U:List Nat):Nat:=if U.contains 14=aA then 14 else if U.contains 15=aA then 15 else if U.contains 16=aA then 16 else 17
theorem qy(U:List Nat):gG (cF U):=by
 unfold cF gG;repeat' split
 all_goals omega
theorem adx:∀x,14<=x->x<cF U->U.contains x=ae:=by
 intro x ai ak;unfold cF at ak;split at ak
 ·omega
 ·rename_i a;split at ak
  ·have :x=14:=by exact Nat.eq_of_le_of_lt_succ ai ak
   subst this;simpa using a
  ·rename_i b;split at ak
   ·have :x=14\/x=15:=(by decide:∀x<16,14<=x->x=14\/x=15) x ak ai
    rcases this with rfl|rfl
    ·simpa using a
    ·simpa using b
   ·rename_i c;have :x=14\/x=15\/x=16:=Xo ai ak;rcases this with rfl|rfl|rfl
    ·simpa using a
    ·simpa using b
    ·simpa using c
theorem ady(bu:0∈U)(h:U.length<=4):U.contains (cF U)=aA:=by
 unfold cF;split
 ·assumption
 split
 ·assumption
 split
 ·assumption
 ·rename_i a b c;refine Bool.eq_false_iff.mpr λd=>?_
  have :=D1 (l:=[0,14,15,16,17]) (m:=U) (by decide) λx aO=>by
   simp only [fw,jl,or_false] at aO;rcases aO with rfl|rfl|rfl|rfl|rfl
   ·exact bu
   ·simpa using a
   ·simpa using b
   ·simpa using c
   ·simpa using d
  simp at this;omega
noncomputable def gq(l:dI)(aN:Nat)(x:dI):List UInt8:=l.take aN++x++l.drop (aN+x.length)
theorem xE{x:dI}(h:a+x.length<=l.length):(gq l a x).length=l.length:=by
 unfold gq;(refine G iz (G iz (G o6 (G wl ?_))));rw [pe (cQ (k4 _ _) h)];exact Nat.add_sub_cancel' h
theorem aoJ:gq l a []=l:=by unfold gq;simp
theorem Tu{x:dI}{y:UInt8}(h:a+x.length<l.length):(gq l a x).set (a+x.length) y=gq l a (x++[y]):=by
 unfold gq;refine G (List.set_append_right _ _ (by rw [iz,o6];exact wm (sT _ _) _)) ?_
 have e:a+x.length - (l.take a++x).length=0:=by(refine G iz (G o6 ?_));rw [pe (jz (eI (k4 _ _) h))];exact Nat.sub_self _
 refine G e (G (B6 h) (G List.set_cons_zero ?_));simp [zu]
noncomputable def ak(x:Nat):List UInt8:=[hV (x%256),hV (x/256%256)]
theorem agN(x:Nat)(h:x<4294967296):hA x=ak (x%65536)++ak (x/65536%65536):=by
 have dh:lg x 0=x%65536%256:=by show x/1%256=_;(exact G (Nat.div_one ..) (G (Nat.mod_mod_of_dvd x (⟨256,rfl⟩:256∣65536) ..) rfl))
 have e1:lg x 1=x%65536/256%256:=by show x/256%256=_;(exact G (Vp x 256 256 ..) (G (Nat.mod_mod ..) rfl))
 have e2:lg x 2=x/65536%65536%256:=by show x/65536%256=_;(exact G (Nat.mod_mod_of_dvd _ (⟨256,rfl⟩:256∣65536)) rfl)
 have aP:lg x 3=x/65536%65536/256%256:=by show x/(65536*256)%256=_;(exact G (Vp (x/65536) 256 256 ..) (G (Nat.mod_mod ..) (G (Nat.div_div_eq_div_mul ..) rfl)))
 unfold hA ak;exact G dh (G e1 (G e2 (G aP rfl)))
def pO(f:jx):List UInt8:=[2,0,0,0,0,0,1,0]++hA f.size++hA f.p0++hA f.p1++hA 0
theorem Tc(f:jx):(pO f).length=24:=rfl
noncomputable def fq(f:Nat):Nat:=11+f/2
noncomputable def iU(f:Nat):Nat:=f%2*24
noncomputable def upd{ay:Type}(aB:Nat->ay)(x:Nat)(v:ay):Nat->ay:=λy=>if y=x then v else aB y
noncomputable def b2(P:cR):List Nat:=[(P.fl 1).p0,(P.fl 1).p1,(P.fl 2).p0,(P.fl 2).p1]
noncomputable def cK(s:jx)(ix:Nat):Nat:=if ix=0 then s.p0 else s.p1
noncomputable def eF(s:jx)(ix v:Nat):jx:=if ix=0 then {s with p0:=v} else {s with p1:=v}
def pQ(P:cR):cR:= {P with img:=upd (upd P.img 13 (ga (cF (b2 P)::b2 P))) (cF (b2 P)) jv,nums:=dT (cF (b2 P)) (dT 13 P.nums)}
def mn(P:cR)(f ix:Nat):cR:=if cK (P.fl f) ix=0 then {pQ P with fl:=upd P.fl f (eF (P.fl f) ix (cF (b2 P)))} else P
def putP(P:cR)(b a:Nat)(x:dI):cR:= {P with img:=upd P.img b (gq (P.img b) a x),nums:=dT b P.nums}
noncomputable def dp(off len ap:Nat):Nat:=min (48 - (off+ap)%48) (len - ap)
theorem ajf{len:Nat}:dp off len ap<=48:=cQ (sT _ _) (sU _ _)
theorem SG{len:Nat}:(off+ap)%48+dp off len ap<=48:=
 cQ (rx (sT _ _) _) (iB (Nat.add_sub_cancel' (jz (jo _ (by decide)))))
def jN(P:cR)(f off:Nat)(x:dI)(ap:Nat):cR:=
 let fj:=mn P f ((off+ap)/48)
 putP fj (cK (fj.fl f) ((off+ap)/48)) ((off+ap)%48) ((x.drop ap).take (dp off x.length ap))
noncomputable def gy:Nat->cR->Nat->Nat->List UInt8->Nat->Nat×cR
 |0,P,_,_,_,ap=>(ap,P)
 |n+1,P,f,off,x,ap=>if ap<x.length/\P.nums.length<=4 then gy n (jN P f off x ap) f off x (ap+dp off x.length ap) else(ap,P)
theorem DX{n:Nat}{P:cR}{f:Nat}{x:dI}:gy (n+1) P f off x ap=if ap<x.length/\P.nums.length<=4 then gy n (jN P f off x ap) f off x (ap+dp off x.length ap) else(ap,P):=rfl
def qW(P:cR)(f:Nat):cR:= {P with img:=upd P.img (fq f) (gq (P.img (fq f)) (iU f) (pO (P.fl f))),nums:=dT (fq f) P.nums}
def tA(P:cR)(f n:Nat):cR:= {P with fl:=upd P.fl f {P.fl f with size:=max (P.fl f).size n}}
def pT(P:cR)(f off:Nat)(x:dI):Nat×cR:=
 let r:=gy (x.length+1) P f off x 0
 (r.1,qW (if 0<r.1 then tA r.2 f (off+r.1) else r.2) f)
def dL(P:cR)(x:Nat):cR:=if x=0 then P else {P with img:=upd P.img 13 (i8 (P.img 13) x),nums:=dT 13 P.nums}
def q0(P:cR)(f:Nat):cR:=qW {dL (dL P (P.fl f).p0) (P.fl f).p1 with fl:=upd P.fl f ⟨0,0,0⟩} f
end
variable {ap off x:Nat}
section
variable {a c:Nat}{l:dI}
section
variable {k:b3}{q:ez}
theorem kr(h:0<c/\c<1000000):a5 .FloorDiv (.int a) (.int c) H=J (.int ((a/c:Nat):Int),H):=by
 show(if(c:Int)=0 then ac else if(c:Int).natAbs<1000000 then J (L.int ((a:Int).fdiv c),H) else ac)=_
 refine G (a8 (B4.mpr h.1)) (G (aY (by rw [Int.natAbs_natCast];exact h.2)) (G (MI _ (ht c)) ?_))
 rfl
theorem ks(h:0<c):a5 .Mod (.int a) (.int c) H=J (.int ((a%c:Nat):Int),H):=by
 show(if(c:Int)=0 then ac else J (L.int ((a:Int).fmod c),H))=_
 refine G (a8 (B4.mpr h)) (G (Int.fmod_eq_emod_of_nonneg _ (ht c)) ?_);rfl
theorem xl(ai:a<1000000)(ak:c<1000000):a5 .Mult (.int a) (.int c) H=J (.int ((a*c:Nat):Int),H):=by
 show(if cH (a:Int)&&cH (c:Int) then J (L.int ((a:Int)*c),H) else ac)=_
 exact G (mw (eE (by assumption) (by decide))) (G (mw (cQ (by assumption) (by decide))) (G (Int.natCast_mul ..) rfl))
theorem f3:a5 .Add (.int a) (.int c) H=J (.int ((a+c:Nat):Int),H):=by
 show J (L.int ((a:Int)+c),H)=_
 (exact G (B3 ..) rfl)
theorem Eh:a5 .RShift (.int a) (.int c) H=J (.int ((a/2^c:Nat):Int),H):=by
 show(if(0:Int)<=c then J (L.int ((a:Int).fdiv (2^(c:Int).toNat)),H) else ac)=_
 (exact G ((aY (ht _)) ..) (G (h8 ..) (G (Tf ..) rfl)))
theorem OT:a5 .BitAnd (.int a) (.int 255) H=J (.int ((a%256:Nat):Int),H):=by
 show J (L.int (wy a 255),H)=_
 exact G (bitAnd_m8 ..) rfl
theorem OS:a5 .BitAnd (.int a) (.int 65535) H=J (.int ((a%65536:Nat):Int),H):=by
 show J (L.int (wy a 65535),H)=_
 exact G (bitAnd_m16 ..) rfl
theorem X6:a5 .BitAnd (.int a) (.int 7) H=J (.int ((a%8:Nat):Int),H):=by
 show J (L.int (wy a 7),H)=_
 exact G (bitAnd_m3 ..) rfl
theorem Lb(h:c<=1000):a5 .LShift (.int 1) (.int c) H=J (.int ((2^c:Nat):Int),H):=by
 show(if(0:Int)<=c/\(c:Int)<=1000/\cH 1=ae then J (L.int (1*2^(c:Int).toNat),H) else ac)=_
 refine G ((aY ⟨ht _,sJ.mpr ‹_›,by rfl⟩) ..) (G (h8 ..) (G (Int.one_mul ..) ?_))
 congr 2
theorem aaJ(S:bP A al re K){f:Nat}(aq:f=1\/f=2)(h:k (.new K.length) (ao (K++[(.x 0,.tup [.int (fq f),.int (iU f)])]))):aw (n+1) 182 [.new A.s,.int f] (ao K) k:=by
 refine Yn (au (aN S.s rfl rfl) (au (aN S.s rfl rfl) (a3 (kr (a:=f) (c:=2) (by decide)) (a3 (f3 (a:=11)) (au (aN S.s rfl rfl) (a3 (ks (a:=f) (c:=2) (by decide)) (au (aN S.s rfl rfl) (a3 (xl (a:=f%2) (c:=24) (n8 (jo _ (by decide)) (by decide)) (by decide)) (gz (.x 0) ?_)))))))))
 exact h
theorem wS(S:bP A al re K){x:Nat}(aO:x<22)(h:k (.new K.length) (ao (K++[(.x 0,.tup [.int 13,.int (x/8:Nat),.int (2^(x%8):Nat)])]))):aw (n+1) 189 [.new A.s,.int x] (ao K) k:=by
 refine Yo (a3 (Eh (a:=x) (c:=3)) (au (aN S.s rfl rfl) (au (aN S.s rfl rfl) (a3 (kr (a:=x/2^3) (c:=48) (by decide)) (a3 (f3 (a:=13)) (au (aN S.s rfl rfl) (a3 (ks (a:=x/2^3) (c:=48) (by decide)) (a3 X6 (a3 (Lb (c:=x%8) (by lia)) (gz (.x 0) ?_))))))))))
 have e1:13+x/2^3/48=13:=Xg aO;have e2:x/2^3%48=x/8:=by lia
 refine G e1 (G e2 ?_);exact h
theorem Hb(S:bP A al re K)(h:k (.int 14) (ao K)):aw (n+1) 154 [.new A.s] (ao K) k:=Yl (au (aN S.s rfl rfl) (au (aN S.s rfl rfl) (a3 rfl h)))
theorem aaF(S:bP A al re K)(h:k (.int 672) (ao K)):aw (n+2) 161 [.new A.s] (ao K) k:=
 Ym (au (aN S.s rfl rfl) (au (c1 S.s rfl rfl) (Hb S (a3 rfl h))))
theorem Ee{y:Nat}(fk:gW K)(e:K[i]? =J (r,.ba l))(h:¬r=.scr)(aQ:l.length<=48)(hp:p<l.length)(hy:y<256):fS (.new i) (.at_ (.int p)) (.int y) (ao K)=J (ao (K.set i (r,.ba (l.set p (hV y))))):=by
 show(match(ao K)[i]?,L.int (p:Int) with
  |J (.list l),.int k=>if cH k=ae/\0<=k/\k<l.length then wr (ao K) i (.list (l.set k.toNat (.int y))) else ac
  |J (.ba l),.int k=>if bH l.length=ae/\0<=k/\k<l.length then(oL (.int y)).bind λc=>wr (ao K) i (.ba (l.set k.toNat c)) else ac
  |J (.dict l),k=>if fX k&&bH l.length then wr (ao K) i (.dict (g9 l k (.int y))) else ac
  |_,_=>ac)=_
 refine G (d8 e) ?_;show(if bH l.length=ae/\0<=(p:Int)/\(p:Int)<l.length then(oL (.int y)).bind λc=>wr (ao K) i (.ba (l.set (p:Int).toNat c)) else ac)=_
 refine G (aY ⟨fE (cQ (by assumption) (by decide)),ht _,mc.mpr ‹_›⟩) (G (vz hy) (G (h8 ..) ?_))
 exact q5 fk e h
theorem DI{x:UInt8}(e:K[i]? =J (r,.ba l))(hp:p<1000)(aO:l[p]? =J x):cj (.new i) (.at_ (.int p)) (ao K)=J (.int (x.toNat:Int),ao K):=by
 show(match(ao K)[i]?,L.int (p:Int) with
  |J (.list l),.int k=>if cH k then(ij l k).map (·,ao K) else ac
  |J (.tup l),.int k=>if cH k then(ij l k).map (·,ao K) else ac
  |J (.ba l),.int k=>if cH k then(ij l k).map (di ·,ao K) else ac
  |J (.dict l),k=>if fX k then(dV l k).map (·,ao K) else ac
  |_,_=>ac)=_
 refine G (d8 e) ?_;show(if cH (p:Int) then(ij l (p:Int)).map (di ·,ao K) else ac)=_
 refine G (mw (eE ‹_› (by decide))) (G (aY rfl) ?_)
 unfold ij;exact G (aY (ht _)) (G (h8 ..) (G (aO ..) rfl))
theorem wR{eW:dI}{v:Nat}(fk:gW K)(e:K[i]? =J (r,.ba (gq l a eW)))(da:¬r=.scr)(j2:l.length=48)(hp:p=a+eW.length)(mZ:p+2<=48)(h:k .none (ao (K.set i (r,.ba (gq l a (eW++ak v)))))):aw (n+1) 118 [.new i,.int p,.int v] (ao K) k:=by
 subst hp;have hs:(gq l a eW).length=48:=G (xE (by lia)) j2
 refine Yj (a3 OT (au (Ee fk e da (iB hs) (by lia) (jo _ (by decide))) ?_))
 refine G (Tu (by lia)) ?_
 have hj:(gq l a (eW++[hV (v%256)])).length=48:=G (xE (by rw [iz];simp only [zq];lia)) j2
 have e1:=fo (o:=.ba (gq l a (eW++[hV (v%256)]))) e;refine a3 (Eh (a:=v) (c:=8)) (a3 OT (a3 (f3 (a:=a+eW.length) (c:=1)) (au (Ee (fk.set e da) e1 da (iB hj) (MY mZ (id (rf hj))) (jo _ (by decide))) ?_)))
 have e2:a+eW.length+1=a+(eW++[hV (v%256)]).length:=G iz rfl;refine G e2 (G (Tu (by rw [iz];simp only [zq];exact MY mZ (id (rf j2)))) (G (sQ ..) (G (FY ..) ?_)))
 exact h
theorem CR{eW:dI}{v:Nat}(fk:gW K)(e:K[i]? =J (r,.ba (gq l a eW)))(da:¬r=.scr)(j2:l.length=48)(hp:p=a+eW.length)(mZ:p+4<=48)(hv:v<4294967296)(h:k .none (ao (K.set i (r,.ba (gq l a (eW++hA v)))))):aw (n+2) 125 [.new i,.int p,.int v] (ao K) k:=by
 refine Yk (a3 OS (wR fk e da j2 hp (by lia) (a3 (f3 (a:=p) (c:=2)) (a3 (Eh (a:=v) (c:=16)) (a3 OS ?_)))))
 refine wR (fk.set e da) (fo e) da j2 (by refine G iz (G hp ?_);show _=_+(_+2);exact rfl) (by assumption) ?_
 refine G (sQ ..) (G (FY ..) (cT (agN v hv) ?_));exact h
abbrev r0(A:g1)(f:Nat)(s:jx)(l:Nat):bt:=.inst 281 [(eB,.new A.n),(bS,.int f),(iZ,.int 1),(z "kind",.int 2),(z "major",.int 0),(z "minor",.int 0),(z "links",.int 1),(dH,.int s.size),(eC,.new l)]
noncomputable abbrev lU(s:jx):bt:=.list [.int s.p0,.int s.p1,.int (0:Nat)]
theorem Zq{a b c u v:L}:eu uA Fa (.pair u v) [(bQ,a),(d2,b),(e4,c)] H=J [(bQ,a),(d2,b),(e4,c),(dQ,u),(bS,v)]:=by kernel_rfl
theorem O0{a b c u v ef aJ:L}:eu uA Fa (.pair u v) [(bQ,a),(d2,b),(e4,c),(dQ,ef),(bS,aJ)] H=J [(bQ,a),(d2,b),(e4,c),(dQ,u),(bS,v)]:=by kernel_rfl
theorem aaL{f:Nat}{s:jx}{o l:Nat}{x:dI}(fk:gW K)(bX:K[o]? =J (.nd f,r0 A f s l))(ek:K[l]? =J (.pl f,lU s))(e:K[i]? =J (r,.ba x))(da:¬r=.scr)(ai:¬r=.nd f)(vb:¬r=.pl f)(j2:x.length=48)(ha:a+24<=48)
  (hs:s.size<4294967296/\s.p0<4294967296/\s.p1<4294967296) (h:k .none (ao (K.set i (r,.ba (gq x a (pO s)))))):aw (n+3) 229 [.new o,.new i,.int a] (ao K) k:=by
 have dh:K[i]? =J (r,.ba (gq x a [])):=G aoJ e;have uM:∀y,gW (K.set i (r,.ba y)):=λy=>fk.set e da
 have os:∀y,(K.set i (r,.ba y))[o]? =J (.nd f,r0 A f s l):=λy=>aI e bX ai
 have A0:∀y,(K.set i (r,.ba y))[l]? =J (.pl f,lU s):=λy=>aI e ek vb
 have vn:∀y,(K.set i (r,.ba y))[i]? =J (r,.ba y):=λy=>fo e
 refine Yp (au (aN bX rfl rfl) (wR (v:=2) fk dh da j2 rfl (by simp;lia) (a3 (f3 (a:=a) (c:=2)) (au (aN (os _) rfl rfl) ?_))))
 refine wR (v:=0) (uM _) (vn _) da j2 rfl (by lia) (a3 (f3 (a:=a) (c:=4)) ?_)
 refine G (sQ ..) (au (aN (os _) rfl rfl) (wR (v:=0) (uM _) (vn _) da j2 rfl (by lia) (a3 (f3 (a:=a) (c:=6)) ?_)))
 refine G (sQ ..) (au (aN (os _) rfl rfl) (wR (v:=1) (uM _) (vn _) da j2 rfl (by lia) (a3 (f3 (a:=a) (c:=8)) ?_)))
 refine G (sQ ..) (au (aN (os _) rfl rfl) (CR (uM _) (vn _) da j2 rfl (by lia) hs.1 ?_))
 refine G (sQ ..) (au (aN (os _) rfl rfl) (pH (A0 _) ?_));refine iQ (vp (A0 _) rfl) Zq (LS (a3 (f3 (a:=a) (c:=12)) (a3 (xl (a:=4) (c:=0) (by decide) (by decide)) (a3 f3 ?_))))
 refine CR (uM _) (vn _) da j2 rfl (by lia) hs.2.1 (G (sQ ..) (iQ (vp (A0 _) rfl) O0 (LS (a3 (f3 (a:=a) (c:=12)) (a3 (xl (a:=4) (c:=1) (by decide) (by decide)) (a3 f3 ?_))))))
 refine CR (uM _) (vn _) da j2 rfl (by lia) hs.2.2 (G (sQ ..) (iQ (vp (A0 _) rfl) O0 (LS (a3 (f3 (a:=a) (c:=12)) (a3 (xl (a:=4) (c:=2) (by decide) (by decide)) (a3 f3 ?_))))))
 exact CR (uM _) (vn _) da j2 rfl (by assumption) (by decide) (G (sQ ..) (mr (Ji (A0 _) (cW 3)) (WU h)))
theorem Bn{Q:an->Prop}(S:bP A al re K)(am:Inv al re)(hb:b∈al.bs)(a6:al.held=J b.num)(aQ:al.pd=re.nums)(aR:gY b.num)(aD:¬re.calls=0)(gI:b.num∈re.nums\/re.nums.length<8)
  (h:∀bJ d9 aX,bP A bJ {re with nums:=dT b.num re.nums,ntl:=d9} aX->Inv bJ {re with nums:=dT b.num re.nums,ntl:=d9}->bJ.held=ac->bJ.pd=dT b.num re.nums->(∀y,cnt bJ re y=cnt al re y)->Fr fN K aX->Q (ao aX)):
  aj (aV (.new A.n) hl (ao K)) λx=>aj (bx x mK (ao K)) λc=>bB False (aw (n+3)) c [.new b.o] (ao K) λ_ H=>aj (aV (.new A.n) fU H) λaT=>aj (bx aT o0 H) λdy=>bB False (aw (n+3)) dy [.new b.o] H λ_ H=>Q H:=by
 refine au (aN S.n rfl rfl) (au (c1 S.j rfl rfl) (abk S am hb a6 aQ aR aD gI λeL d9 cp fy b6 d7 ai ak j3 e1 e2 aP aZ dJ=>?_))
 refine au (aN b6.n rfl rfl) (au (c1 b6.c rfl rfl) ?_);refine cT e1 ?_;refine HB b6 d7 j3 (by(exact G ai (G a6 (G e2 rfl)))) (λz=>absurd (by refine G ak (G e2 ?_);unfold dT;split;assumption;exact Ca _ fK) z) λca2 dZ cc eY d1 g2 hx fH=>?_
 exact h ca2 d9 dZ cc eY d1 (g2.trans ak) (λy=>(hx y).trans (aZ y)) (dJ.trans fH)
end
end
section
variable {aX:dB}{f t:Nat}{l:dI}
theorem X7:∀b,b<256->∀k,k<8->(b&&&2^k)=2^k*(b/2^k%2):=by decide+kernel
theorem ai5:∀b,b<256->∀k,k<8->(b|||2^k)+(b&&&2^k)=b+2^k:=by decide+kernel
theorem SD:∀b,b<256->∀k,k<8->(b|||2^k)<256:=by decide+kernel
theorem TC:∀b,b<256->∀k,k<8->b/2^k%2=1->2^k<=b:=by decide+kernel
noncomputable def r5(r:bh):Bool:=Cg r.1 18
theorem Fr.prg{K:dB}(h:Fr fN K aX):Fr r5 K aX:=λi r o e da=>h i r o e (O8 (by decide) da)
structure eS(A:g1)(b7 cO:Nat->Nat)(al:hq)(re:gj)(P:cR)(K:dB):Prop where
 S:bP A al re K
 I:Inv al re
 hh:al.held=ac
 pd:al.pd=re.nums
 nf:∀f,f=1\/f=2->K[b7 f]? =J (.nd f,r0 A f (P.fl f) (cO f))/\K[cO f]? =J (.pl f,lU (P.fl f))
 img:∀y,gY y->cnt al re y=P.img y
 nums:re.nums=P.nums
 calls:¬re.calls=0
section
variable {b7 cO:Nat->Nat}{P:cR}{k:b3}{q:ez}
abbrev op(A:g1)(b7:Nat->Nat)(re:gj)(K:dB)(P':cR)(Q:an->Prop):Prop:=∀bJ d9 m3 aX,eS A b7 m3 bJ {re with nums:=P'.nums,ntl:=d9} P' aX->Fr r5 K aX->Q (ao aX)
theorem eS.ex(aa:eS A b7 cO al re P K)(h:el K aX):eS A b7 cO al re P aX:=⟨aa.S.ex h,aa.I,aa.hh,aa.pd,λf aq=>⟨h _ _ _ (aa.nf f aq).1,h _ _ _ (aa.nf f aq).2⟩,aa.img,aa.nums,aa.calls⟩
theorem hc{v:L}{l:List L}{k:L->List L->Prop}(h:k v l):fP (v::l) k:=h
theorem acD{al:hq}{re:gj}{D4:List Nat}{d9:List (L×L)}(y:Nat):cnt al {re with nums:=D4,ntl:=d9} y=cnt al re y:=rfl
theorem eS.step{bJ:hq}{d9:List (L×L)}{P':cR}{m3:Nat->Nat}{hH:Nat}{x:dI}(aa:eS A b7 cO al re P K)(g6:bP A bJ {re with nums:=dT hH re.nums,ntl:=d9} aX)(kD:Inv bJ {re with nums:=dT hH re.nums,ntl:=d9})(ai:bJ.held=ac)(ak:bJ.pd=dT hH re.nums)
  (aD:∀y,cnt bJ re y=if y=hH then x else cnt al re y) (e1:P'.nums=dT hH P.nums) (e2:∀y,gY y->P'.img y=if y=hH then x else P.img y)
  (fh:∀f,f=1\/f=2->aX[b7 f]? =J (.nd f,r0 A f (P'.fl f) (m3 f))/\aX[m3 f]? =J (.pl f,lU (P'.fl f))):eS A b7 m3 bJ {re with nums:=P'.nums,ntl:=d9} P' aX:=by
 have e:dT hH re.nums=P'.nums:=by(exact G e1 (G aa.nums rfl))
 rw [e] at g6 kD;refine⟨g6,kD,ai,ak.trans e,fh,λy hy=>?_,rfl,aa.calls⟩
 refine G (acD ..) (G (aD ..) (G (e2 y hy ..) ?_));split
 ·rfl
 ·exact aa.img y hy
theorem eS.room(aa:eS A b7 cO al re P K){x:Nat}(h:x∈P.nums\/P.nums.length<8):x∈re.nums\/re.nums.length<8:=G aa.nums h
theorem D6(aq:f=1\/f=2):gY (fq f)/\fq f<22/\iU f+24<=48:=by
 rcases aq with rfl|rfl<;>exact⟨.inr (by decide),by decide,by decide⟩
theorem Pg(aq:f=1\/f=2)(aa:eS A b7 cO al re P K)(hs:(P.fl f).size<4294967296/\(P.fl f).p0<4294967296/\(P.fl f).p1<4294967296)(gI:fq f∈P.nums\/P.nums.length<8)
  (h:op A b7 re K (qW P f) λH=>k .none H):aw (n+4) 335 [.new A.n,.new (b7 f)] (ao K) k:=by
 refine dS (D6 aq) λdx en sa=>?_
 have b5:=aa.ex (.app K [(.x 0,.tup [.int (fq f),.int (iU f)])]);refine Ys (au (aN aa.S.n rfl rfl) (au (c1 aa.S.s rfl rfl) (au (aN (aa.nf f aq).1 rfl rfl) (aaJ aa.S aq (nR c2 rfl (hc (hc ?_)))))));refine au (aN b5.S.n rfl rfl) (au (c1 b5.S.c rfl rfl) (uW b5.S b5.I b5.hh en λca2 dZ b cc eY ai ak hb hn aD fH=>?_))
 have aB:=b5.nf f aq;have bX:=fH _ _ _ aB.1 rfl;have ek:=fH _ _ _ aB.2 rfl;refine au (c1 bX rfl rfl) (au (aN (cc.bo b hb) rfl rfl) (aaL cc.z bX ek (cc.bd b hb) (aC rfl) (aC rfl) (aC rfl) (eY.len b hb) sa hs ?_));have f4:(gq b.data (iU f) (pO (P.fl f))).length=48:=G (xE (by rw [eY.len b hb,Tc];exact sa)) (eY.len b hb)
 have eb:=cc.setBd eY.nd hb (gq b.data (iU f) (pO (P.fl f)));refine cz (eY.data hb (by(exact G ai (G hn rfl))) f4) λo5 eT=>?_
 have ID:({b with data:=gq b.data (iU f) (pO (P.fl f))}:e6)∈hB b.num (λc=> {c with data:=gq b.data (iU f) (pO (P.fl f))}) ca2.bs:=hQ.mpr ⟨b,hb,aY rfl⟩
 refine Bn (b:= {b with data:=gq b.data (iU f) (pO (P.fl f))}) (Q:=λH=>k .none H) eb o5 ID (by rw [<-hn] at ai;exact ai) (ak.trans aa.pd) (G hn dx) aa.calls (G hn (aa.room gI)) λpr d9 jR gV rr ch cd ee n3=>?_
 have a9:Fr fN K jR:=(Fr.app K _).trans (fH.trans ((Fr.set (cc.bd b hb) rfl).trans n3));rw [hn] at gV rr cd;refine h pr d9 cO jR (aa.step (x:=gq (P.img (fq f)) (iU f) (pO (P.fl f))) gV rr ch cd (λy=>?_) rfl (λy _=>rfl) λf' lN=>⟨a9 _ _ _ (aa.nf f' lN).1 rfl,a9 _ _ _ (aa.nf f' lN).2 rfl⟩) a9.prg
 refine G (ee ..) (G (eT ..) (G hn ?_));have jZ:b.data=P.img (fq f):=cT (u0 eY hb) (G hn (G (aD ..) (aa.img _ dx)));refine G (jZ ..) ?_;split
 ·rfl
 ·exact aD y
theorem aaR(ce:14<=t/\t<22)(aa:eS A b7 cO al re P K)(gI:t∈P.nums\/P.nums.length<8)(h:op A b7 re K {P with img:=upd P.img t jv,nums:=dT t P.nums} λH=>k .none H):aw (n+4) 377 [.new A.n,.int t] (ao K) k:=by
 have ai6:gY t:=.inr (Ch ce.1);refine Yv (au (aN aa.S.n rfl rfl) (au (c1 aa.S.c rfl rfl) (uW aa.S aa.I aa.hh ce.2 λca2 dZ b cc eY ai ak hb hn aD fH=>?_)))
 rw [<-hn] at ai;refine au (c1 (cc.bo b hb) rfl rfl) (aa5 cc eY hb ai λz2 gu eb o5 d1 g2 ID eT f7=>?_)
 refine Bn (b:= {b with data:=jv}) (Q:=λH=>k .none H) eb o5 ID (d1.trans ai) (g2.trans (ak.trans aa.pd)) (G hn ai6) aa.calls (G hn (aa.room gI)) λpr d9 jR gV rr ch cd ee n3=>?_
 have a9:=fH.trans (f7.trans n3);rw [hn] at gV rr cd;refine h pr d9 cO jR (aa.step (x:=jv) gV rr ch cd (λy=>?_) rfl (λy _=>rfl) λf' lN=>⟨a9 _ _ _ (aa.nf f' lN).1 rfl,a9 _ _ _ (aa.nf f' lN).2 rfl⟩) a9.prg
 refine G (ee ..) (G (eT ..) (G (hn ..) ?_));split
 ·rfl
 ·exact aD y
theorem OZ{x:Nat}{c:UInt8}(hp:l[x/8]? =J c):a5 .BitAnd (.int (c.toNat:Int)) (.int ((2^(x%8):Nat):Int)) H=J (.int ((2^(x%8)*hW l x:Nat):Int),H):=by
 show J (L.int (wy _ _),H)=_
 refine G (bitAnd_pp (ht _) (ht _) ..) (G (h8 ..) (G (h8 ..) (G (X7 _ (rN _) _ (jo _ (by decide))) ?_)))
 unfold hW;exact G hp rfl
theorem EY{xG:Loc->an->(Bool->an->Prop)->Prop}{body:Loc->an->(jw->Loc->an->Prop)->Prop}{mm:Loc}{H:an}{q:ez}(h:xG mm H λb H=>match b with
 |aA=>q .next mm H
 |ae=>body mm H λdn m H=>match dn with
  | .next| .cont=>l3 False xG body f m H q
  | .brk=>q .next m H
  | .ret v=>q (.ret v) m H):l3 False xG body (f+1) mm H q:=h
abbrev Oe(A:g1)(i x:Nat)(mm:Loc):Prop:=mm=[(bQ,.new A.n),(gf,.new i),(dQ,.int 13),(bS,.int x)]\/ ∃u v w,mm=[(bQ,.new A.n),(gf,.new i),(dQ,.int 13),(bS,.int x),(iY,u),(e4,v),(z "bit",w)]
theorem adv(ce:t<22)(aQ:l.length=48)(aD:hW l t=0):∀(d x c3:Nat) (mm:Loc) (K:dB),bP A al re K->K[i]? =J (r,.ba l)->x+d=t->(∀y,x<=y->y<t->hW l y=1)->Oe A i x mm->d<c3->
    (∀aX,el K aX->k (.int t) (ao aX))->l3 False (λm H q=>ge False (aw (n+1)) (fD (bw (aW (aL 23 10)) 0) 0) (λH k=>bO False (aw (n+1)) (fD (bw (aW (aL 23 10)) 0) 0) jS m H k) jS m H q)
     (λm H q=>b1 False (aw (n+1)) (ei (bw (aW (aL 23 10)) 0)) jS m H q) c3 mm (ao K) (ed (aw (n+1)) ((aW (aL 23 10)).drop 1) jS (dM k))
 :=by
  intro d x c3;induction c3 generalizing d x with
  |zero=>exact λmm K S e bA hb bc aq h=>absurd aq (M1 d)
  |succ c3 ih=>
   exact λmm K S e bA hb bc aq h=>by
    have aO:x<22:=by lia
    have b6:=S.app [(.x 0,.tup [.int 13,.int (x/8:Nat),.int (2^(x%8):Nat)])];have oU:∀ {Q:Bool->an->Prop},Q ae (ao K)->aj (aV (.new A.n) hO (ao K)) λaz=>aj (aV az mG (ao K)) λaT=>aj (bW .Lt (.int x) aT (ao K)) λeT=>Q eT (ao K):=λ{Q} jG=>
     au (aN S.n rfl rfl) (au (aN S.s rfl rfl) (au (a:=ae) (by show J (eg ((x:Int)<22))=_;(exact G (decide_eq_true (mc.mpr ‹_›)) rfl)) jG))
    have body:∀ {R Nx:an->Prop},(d=0->R (ao (K++[(.x 0,.tup [.int 13,.int (x/8:Nat),.int (2^(x%8):Nat)])])))->(¬d=0->Nx (ao (K++[(.x 0,.tup [.int 13,.int (x/8:Nat),.int (2^(x%8):Nat)])])))->
      aF (cj (.new i) (.at_ (.int (x/8:Nat))) (ao (K++[(.x 0,.tup [.int 13,.int (x/8:Nat),.int (2^(x%8):Nat)])]))) λv H=>aF (a5 .BitAnd v (.int (2^(x%8):Nat)) H) λw H=>aj (bW .Eq w (L.int 0) H) λc=>bo .Or c (R H) (Nx H):=λ{R Nx} ai ak=>by
     have hp:l[x/8]? =J (l[x/8]'(GU aO aQ)):=iy _;refine a3 (DI (cf e) (eI (wn ..) (eE ‹_› (by decide))) hp) (a3 (OZ hp) ?_)
     refine au (a:=(((2^(x%8)*hW l x:Nat):Int)==0)) rfl ?_;by_cases q:d=0
     ·have :x=t:=by lia
      subst this;exact G aD (ai4 rfl (ai q))
     ·refine G (hb x (cW _) (by lia)) (G (Nat.mul_one ..) ?_)
      refine lr ?_ (ak q);have :=Nat.two_pow_pos (x%8);simp only [beq_eq_false_iff_ne,ne_eq];exact B4.mpr this
    have RX:¬d=0->∀mm',Oe A i (x+1) mm'->l3 False (λm H q=>ge False (aw (n+1)) (fD (bw (aW (aL 23 10)) 0) 0) (λH k=>bO False (aw (n+1)) (fD (bw (aW (aL 23 10)) 0) 0) jS m H k) jS m H q)
     (λm H q=>b1 False (aw (n+1)) (ei (bw (aW (aL 23 10)) 0)) jS m H q) c3 mm' (ao (K++[(.x 0,.tup [.int 13,.int (x/8:Nat),.int (2^(x%8):Nat)])])) (ed (aw (n+1)) ((aW (aL 23 10)).drop 1) jS (dM k)):=λAB mm' i7=>
     ih (d - 1) (x+1) mm' _ b6 (cf e) (Xn bA AB) (λy ai ak=>hb y (jz (by assumption)) ak) i7 (Nat.sub_one_lt_of_le (Nat.pos_of_ne_zero AB) (Nat.le_of_lt_succ aq)) λaX aO=>h aX ((el.app K _).trans aO)
    have cq:d=0->k (.int x) (ao (K++[(.x 0,.tup [.int 13,.int (x/8:Nat),.int (2^(x%8):Nat)])])):=λAB=>by
     have :x=t:=by lia
     subst this;exact h _ (el.app K _)
    refine EY ?_;rcases bc with rfl|⟨u,v,w,rfl⟩
    ·refine ao6 (oU (Q:=λb H=>_) ?_)
     refine aqC (au (aN S.n rfl rfl) (au (c1 S.s rfl rfl) (wS S aO (nR c2 rfl (hc (hc (hc (au (a:=aA) rfl (lr rfl ?_)))))))));refine body (R:=λH=>_) (Nx:=λH=>_) (λq=>?_) (λq=>?_)
     ·exact cq q
     ·exact a3 (f3 (a:=x) (c:=1)) (RX q _ (.inr ⟨_,_,_,rfl⟩))
    ·refine ao7 (oU (Q:=λb H=>_) ?_)
     refine aqD (au (aN S.n rfl rfl) (au (c1 S.s rfl rfl) (wS S aO (nR c2 rfl (hc (hc (hc (au (a:=aA) rfl (lr rfl ?_)))))))));refine body (R:=λH=>_) (Nx:=λH=>_) (λq=>?_) (λq=>?_)
     ·exact cq q
     ·exact a3 (f3 (a:=x) (c:=1)) (RX q _ (.inr ⟨_,_,_,rfl⟩))
theorem aaQ(ce:t<22)(Iz:14<=t)(aQ:l.length=48)(aD:hW l t=0)(hb:∀y,14<=y->y<t->hW l y=1)(S:bP A al re K)(e:K[i]? =J (r,.ba l))(h:∀aX,el K aX->k (.int t) (ao aX)):
  aw (n+2) 370 [.new A.n,.new i,.int 13,.int 14] (ao K) k:=
 Yu (agu (adv ce aQ aD (t - 14) 14 1000 _ K S e (Cf Iz) hb (.inl rfl) (eI (sU ..) (eE ‹_› (by decide))) h))
end
end
variable {f:Nat}{b7 cO:Nat->Nat}{P:cR}
section
variable {k:b3}{q:ez}
theorem Q2{l:List L}{p:Nat}{x:L}(e:K[i]? =J (r,.tup l))(hp:p<1000)(aO:l[p]? =J x):cj (.new i) (.at_ (.int p)) (ao K)=J (x,ao K):=by
 show(match(ao K)[i]?,L.int (p:Int) with
  |J (.list l),.int k=>if cH k then(ij l k).map (·,ao K) else ac
  |J (.tup l),.int k=>if cH k then(ij l k).map (·,ao K) else ac
  |J (.ba l),.int k=>if cH k then(ij l k).map (di ·,ao K) else ac
  |J (.dict l),k=>if fX k then(dV l k).map (·,ao K) else ac
  |_,_=>ac)=_
 refine G (d8 e) ?_;show(if cH (p:Int) then(ij l (p:Int)).map (·,ao K) else ac)=_
 (refine G (mw (eE ‹_› (by decide))) (G (aY rfl) ?_))
 unfold ij;(refine G (aY (ht _)) (G (h8 ..) (G (aO ..) ?_)));rfl
theorem hL{l:List L}{p:Nat}{x:L}(e:K[i]? =J (r,.list l))(hp:p<1000)(aO:l[p]? =J x):cj (.new i) (.at_ (.int p)) (ao K)=J (x,ao K):=by
 show(match(ao K)[i]?,L.int (p:Int) with
  |J (.list l),.int k=>if cH k then(ij l k).map (·,ao K) else ac
  |J (.tup l),.int k=>if cH k then(ij l k).map (·,ao K) else ac
  |J (.ba l),.int k=>if cH k then(ij l k).map (di ·,ao K) else ac
  |J (.dict l),k=>if fX k then(dV l k).map (·,ao K) else ac
  |_,_=>ac)=_
 refine G (d8 e) ?_;show(if cH (p:Int) then(ij l (p:Int)).map (·,ao K) else ac)=_
 (refine G (mw (eE ‹_› (by decide))) (G (aY rfl) ?_))
 unfold ij;(refine G (aY (ht _)) (G (h8 ..) (G (aO ..) ?_)));rfl
theorem af1{l:List L}(e:K[i]? =J (r,.tup l))(h:1<=l.length/\l.length<=10)(s:bh):cj (.new i) (.sl (J 1) ac) (ao K)=J (.new K.length,ao (K++[(s,.tup (l.drop 1))])):=by
 show(match(ao K)[i]?with
  |J (.list l)|J (.scr l)=>if bH l.length then(jY l (J 1) ac).map λl=>(L.new (ao K).length,ao K++[bt.list l]) else ac
  |J (.tup l)=>if 1<=(1:Int)/\(1:Int)<=l.length/\bH l.length=ae then J (L.new (ao K).length,ao K++[bt.tup (l.drop (1:Int).toNat)]) else ac
  |_=>ac)=_
 refine G (d8 e) ?_;show(if 1<=(1:Int)/\(1:Int)<=l.length/\bH l.length=ae then J (L.new (ao K).length,ao K++[bt.tup (l.drop (1:Int).toNat)]) else ac)=_
 exact G (aY ⟨ht _,Int.toNat_le.mp h.1,fE (by lia)⟩) (G (nB (r:=s)) (G mo rfl))
theorem vI{l:List L}{p:Nat}{v:L}(fk:gW K)(e:K[i]? =J (r,.list l))(h:¬r=.scr)(hp:p<l.length)(aQ:l.length<1000):fS (.new i) (.at_ (.int p)) v (ao K)=J (ao (K.set i (r,.list (l.set p v)))):=by
 show(match(ao K)[i]?,L.int (p:Int) with
  |J (.list l),.int k=>if cH k=ae/\0<=k/\k<l.length then wr (ao K) i (.list (l.set k.toNat v)) else ac
  |J (.ba l),.int k=>if bH l.length=ae/\0<=k/\k<l.length then(oL v).bind λc=>wr (ao K) i (.ba (l.set k.toNat c)) else ac
  |J (.dict l),k=>if fX k&&bH l.length then wr (ao K) i (.dict (g9 l k v)) else ac
  |_,_=>ac)=_
 refine G (d8 e) ?_;show(if cH (p:Int)=ae/\0<=(p:Int)/\(p:Int)<l.length then wr (ao K) i (.list (l.set (p:Int).toNat v)) else ac)=_
 refine G (aY ⟨mw (by lia),ht _,mc.mpr ‹_›⟩) (G (h8 ..) ?_)
 exact q5 fk e h
theorem Pc{l:dI}{x:Nat}{c:UInt8}(hp:l[x/8]? =J c):a5 .BitOr (.int (c.toNat:Int)) (.int ((2^(x%8):Nat):Int)) H=J (.int (((l[x/8]?.getD 0).toNat|||2^(x%8):Nat):Int),H):=by
 show J (L.int (Builtin.bitOr _ _),H)=_
 (refine G (bitOr_and ..) (G (bitAnd_pp (ht _) (ht _) ..) (G (h8 ..) (G (h8 ..) ?_))))
 have :=ai5 c.toNat (rN _) (x%8) (jo _ (by decide))
 refine G hp ?_;show J (L.int _,H)=J (L.int ((c.toNat|||2^(x%8):Nat):Int),H)
 congr 2
 congr 1
 exact Xf this
theorem si{a c:Nat}(h:c<=a):a5 .Sub (.int a) (.int c) H=J (.int ((a - c:Nat):Int),H):=by
 show J (L.int ((a:Int) - c),H)=_
 (exact G (Int.ofNat_sub h) rfl)
theorem uO{x:Nat}{l:List Nat}:(dT x l).length<=l.length+1:=by unfold dT;split;exact k4 l.length 1;(refine G iz ?_);exact cW _
theorem lM:gY 13:=.inr (by decide)
theorem aaP(aa:eS A b7 cO al re P K)(hb:P.img 13=ga (b2 P))(aq:(b2 P).contains (cF (b2 P))=aA)(hn:P.nums.length<=6)(h:op A b7 re K (pQ P) λH=>k (.int (cF (b2 P))) H):aw (n+6) 363 [.new A.n] (ao K) k:=by
 have ce:=qy (b2 P);unfold gG at ce;refine Yt (au (aN aa.S.n rfl rfl) (au (aN aa.S.s rfl rfl) (agt (EY (f:=999) (ao5 (au (aN aa.S.n rfl rfl) (au (aN aa.S.s rfl rfl) (au (a:=ae) rfl ?_))))))));refine aqB (au (aN aa.S.n rfl rfl) (au (c1 aa.S.s rfl rfl) (wS (x:=14) aa.S (by decide) ?_)))
 have b5:=aa.ex (.app K [(.x 0,.tup [.int 13,.int (14/8:Nat),.int (2^(14%8):Nat)])]);refine a3 (Q2 (p:=0) c2 (by decide) rfl) (au (aN b5.S.n rfl rfl) (au (c1 b5.S.c rfl rfl) (uW (m:=13) b5.S b5.I b5.hh (by decide) λca2 dZ b cc eY ai ak f5 j4 aD fH=>?_)))
 rw [<-j4] at ai;have jZ:b.data=ga (b2 P):=by(exact cT (u0 eY f5 ..) (G j4 (G (aD ..) (G (aa.img 13 lM ..) (G hb rfl)))))
 have dl:b.data.length=48:=eY.len b f5;refine au (c1 cc.n rfl rfl) (au (aN (cc.bo b f5) rfl rfl) (aaQ (by lia) ce.1 dl (by(refine G jZ (G (uR (qy _)) (G aq ?_)));rfl) (λy cA de=>by(refine G jZ (G (uR ⟨cA,by lia⟩) (G (adx y cA de) ?_)));rfl) cc (cc.bd b f5) λgu tf=>?_))
 have eb:=cc.ex tf;refine au (aN eb.n rfl rfl) (au (aN eb.s rfl rfl) (au (a:=ae) (by show J (eg ((cF (b2 P):Int)<22))=_;(exact G (decide_eq_true (by lia)) rfl)) (jq rfl (au (aN eb.n rfl rfl) (au (c1 eb.s rfl rfl) (wS eb (by lia) ?_))))))
 have gV:=eb.app [(.x 0,.tup [.int 13,.int (cF (b2 P)/8:Nat),.int (2^(cF (b2 P)%8):Nat)])];refine a3 (Q2 (p:=0) c2 (by decide) rfl) (au (a:=ae) rfl (jq rfl (au (aN gV.n rfl rfl) (au (c1 gV.s rfl rfl) (wS gV (by lia) ?_)))))
 have lb:=gV.app [(.x 0,.tup [.int 13,.int (cF (b2 P)/8:Nat),.int (2^(cF (b2 P)%8):Nat)])];refine a3 (af1 c2 ⟨mQ rfl,mQ rfl⟩ (.x 0)) (nR c2 rfl (hc (hc ?_)));have om:=lb.app [(.x 0,.tup [.int (cF (b2 P)/8:Nat),.int (2^(cF (b2 P)%8):Nat)])];have hp:b.data[cF (b2 P)/8]? =J (b.data[cF (b2 P)/8]'(uN ce.2 dl)):=iy _;have m6:=SD (b.data[cF (b2 P)/8]?.getD 0).toNat (rN _) (cF (b2 P)%8) (jo _ (by decide))
 refine au (aN (om.bo b f5) rfl rfl) (a3 (DI (om.bd b f5) (CL ce.2) hp) (a3 (Pc hp) (au (aN (om.bo b f5) rfl rfl) (au (Ee om.z (om.bd b f5) (aC rfl) (iB dl) (uN ce.2 dl) m6) ?_))));have Ag:b.data.set (cF (b2 P)/8) (hV ((b.data[cF (b2 P)/8]?.getD 0).toNat|||2^(cF (b2 P)%8)))=ga (cF (b2 P)::b2 P):=by
  have :=O9 (U:=b2 P) (qy (b2 P));rw [<-jZ] at this;exact this
 refine G Ag ?_;have f4:(ga (cF (b2 P)::b2 P)).length=48:=Pa _ _ _ _;have zK:=om.setBd eY.nd f5 (ga (cF (b2 P)::b2 P));obtain⟨zc,hw⟩:=eY.data f5 ai f4;have Ax:({b with data:=ga (cF (b2 P)::b2 P)}:e6)∈hB b.num (λc=> {c with data:=ga (cF (b2 P)::b2 P)}) ca2.bs:=hQ.mpr ⟨b,f5,aY rfl⟩
 refine Bn (b:= {b with data:=ga (cF (b2 P)::b2 P)}) zK zc Ax ai (ak.trans aa.pd) (G j4 lM) aa.calls (G j4 (aa.room (.inr (eI ‹_› (by decide))))) λz3 d9 sL td sI ch cd ee yU=>?_
 have a9:Fr fN K sL:=(Fr.app K _).trans (fH.trans (tf.fr.trans ((Fr.app gu _).trans ((Fr.app _ _).trans ((Fr.app _ _).trans ((Fr.set (om.bd b f5) rfl).trans yU))))));rw [j4] at td sI cd;have ME:eS A b7 cO z3 {re with nums:=dT 13 P.nums,ntl:=d9} {P with img:=upd P.img 13 (ga (cF (b2 P)::b2 P)),nums:=dT 13 P.nums} sL:=aa.step (P':= {P with img:=upd P.img 13 (ga (cF (b2 P)::b2 P)),nums:=dT 13 P.nums}) (x:=ga (cF (b2 P)::b2 P)) td sI ch cd (λy=>by refine G (ee ..) (G (hw ..) (G (j4 ..) ?_));split;rfl;exact aD y) rfl (λy _=>rfl) λf' lN=>⟨a9 _ _ _ (aa.nf f' lN).1 rfl,a9 _ _ _ (aa.nf f' lN).2 rfl⟩
 refine jq rfl (au (c1 ME.S.n rfl rfl) (aaR ⟨Nat.succ_le_of_lt ce.1,by lia⟩ ME (.inr (eI uO (by lia))) λabB aiB aii Va Uz Ux=>?_))
 exact h abB aiB aii Va Uz (a9.prg.trans Ux)
theorem aaT{x:Nat}(aO:gG x)(aa:eS A b7 cO al re P K)(aeG:hW (P.img 13) x=1)(gI:13∈P.nums\/P.nums.length<8)(h:op A b7 re K (dL P x) λH=>k .none H):aw (n+4) 384 [.new A.n,.int x] (ao K) k:=by
 unfold gG at aO;refine Yw (au (aN aa.S.n rfl rfl) (au (aN aa.S.s rfl rfl) (au (a:=ae) (by show J (eg ((14:Int)<=x))=_;(exact G (decide_eq_true (Int.toNat_le.mp aO.1)) rfl)) (jq rfl (au (aN aa.S.n rfl rfl) (au (aN aa.S.s rfl rfl) (au (a:=ae) (by show J (eg ((x:Int)<22))=_;(exact G (decide_eq_true (by lia)) rfl)) (g7 rfl ?_))))))))
 refine au (aN aa.S.n rfl rfl) (au (c1 aa.S.s rfl rfl) (wS aa.S (by lia) (nR c2 rfl (hc (hc (hc ?_))))))
 have b5:=aa.ex (.app K [(.x 0,.tup [.int 13,.int (x/8:Nat),.int (2^(x%8):Nat)])]);refine au (aN b5.S.n rfl rfl) (au (c1 b5.S.c rfl rfl) (uW (m:=13) b5.S b5.I b5.hh (by decide) λca2 dZ b cc eY ai ak f5 j4 aD fH=>?_))
 rw [<-j4] at ai;have jZ:b.data=P.img 13:=by(exact cT (u0 eY f5 ..) (G j4 (G (aD ..) (G (aa.img 13 lM ..) rfl))))
 have dl:b.data.length=48:=eY.len b f5;have hp:b.data[x/8]? =J (b.data[x/8]'(uN aO.2 dl)):=iy _;have wQ:hW b.data x=1:=G jZ aeG;refine au (aN (cc.bo b f5) rfl rfl) (a3 (DI (cc.bd b f5) (CL aO.2) hp) (a3 (OZ hp) (au (a:=ae) ?_ (jq rfl ?_))))
 ·refine G wQ (G (Nat.mul_one ..) ?_);have :=Nat.two_pow_pos (x%8);show J (!(((2^(x%8):Nat):Int)==0))=_
  have e:(((2^(x%8):Nat):Int)==0)=aA:=by simp only [beq_eq_false_iff_ne,ne_eq];exact B4.mpr this
  exact G e rfl
 have le:2^(x%8)<=(b.data[x/8]'(uN aO.2 dl)).toNat:=by
  refine TC _ (rN _) _ (jo _ (by decide)) ?_
  have :=wQ;unfold hW at this;rw [hp] at this;exact this
 refine au (aN (cc.bo b f5) rfl rfl) (a3 (DI (cc.bd b f5) (CL aO.2) hp) (a3 (si le) (au (aN (cc.bo b f5) rfl rfl) (au (Ee cc.z (cc.bd b f5) (aC rfl) (iB dl) (uN aO.2 dl) (eI (sU _ _) (rN _))) ?_))));have Ag:b.data.set (x/8) (hV ((b.data[x/8]'(uN aO.2 dl)).toNat - 2^(x%8)))=i8 (P.img 13) x:=by refine cT jZ ?_;unfold i8;exact G hp rfl
 refine G Ag ?_;have f4:(i8 (P.img 13) x).length=48:=by unfold i8;(refine G zp (cT jZ ?_));exact dl
 have zK:=cc.setBd eY.nd f5 (i8 (P.img 13) x);obtain⟨zc,hw⟩:=eY.data f5 ai f4;have Ax:({b with data:=i8 (P.img 13) x}:e6)∈hB b.num (λc=> {c with data:=i8 (P.img 13) x}) ca2.bs:=hQ.mpr ⟨b,f5,aY rfl⟩
 refine Bn (b:= {b with data:=i8 (P.img 13) x}) zK zc Ax ai (ak.trans aa.pd) (by(refine G j4 ?_);exact lM) aa.calls (by(refine G j4 ?_);exact aa.room gI) λz3 d9 sL td sI ch cd ee yU=>?_
 have a9:Fr fN K sL:=(Fr.app K _).trans (fH.trans ((Fr.set (cc.bd b f5) rfl).trans yU));rw [j4] at td sI cd;have kq:dL P x= {P with img:=upd P.img 13 (i8 (P.img 13) x),nums:=dT 13 P.nums}:=a8 (Nat.ne_zero_of_lt aO.1)
 rw [kq] at h;exact g7 rfl (h z3 d9 cO sL (aa.step (x:=i8 (P.img 13) x) td sI ch cd (λy=>by refine G (ee ..) (G (hw ..) (G (j4 ..) ?_));split;rfl;exact aD y) rfl (λy _=>rfl) λf' lN=>⟨a9 _ _ _ (aa.nf f' lN).1 rfl,a9 _ _ _ (aa.nf f' lN).2 rfl⟩) a9.prg)
end
section
variable {ix v:Nat}
theorem gd{ay:Type}{aB:Nat->ay}{v:ay}:upd aB x v x=v:=aY rfl
theorem iW{ay:Type}{aB:Nat->ay}{y:Nat}{v:ay}(h:¬y=x):upd aB x v y=aB y:=a8 h
structure et(P:cR):Prop where
 bmp:P.img 13=ga (b2 P)
 pl:∀f,f=1\/f=2->∀ix,ix=0\/ix=1->cK (P.fl f) ix=0\/gG (cK (P.fl f) ix)
 sz:∀f,f=1\/f=2->(P.fl f).size<1000
 dj:∀f,f=1\/f=2->∀ix,ix=0\/ix=1->∀f',f'=1\/f'=2->∀qN,qN=0\/qN=1->¬(f=f'/\ix=qN)->cK (P.fl f) ix=cK (P.fl f') qN->cK (P.fl f) ix=0
theorem nI:x∈b2 P↔ ∃f,(f=1\/f=2)/\∃ix,(ix=0\/ix=1)/\cK (P.fl f) ix=x:=by
 unfold b2;simp only [fw,jl,or_false];constructor
 ·rintro (h|h|h|h)
  ·exact⟨1,.inl rfl,0,.inl rfl,h.symm⟩
  ·exact⟨1,.inl rfl,1,.inr rfl,h.symm⟩
  ·exact⟨2,.inr rfl,0,.inl rfl,h.symm⟩
  ·exact⟨2,.inr rfl,1,.inr rfl,h.symm⟩
 ·rintro ⟨f,rfl|rfl,ix,rfl|rfl,h⟩
  ·exact .inl h.symm
  ·exact .inr (.inl h.symm)
  ·exact .inr (.inr (.inl h.symm))
  ·exact .inr (.inr (.inr h.symm))
theorem w7{U:List Nat}:U.contains x=ae↔x∈U:=by simp
theorem Dq{U rM:List Nat}(h:x∈U↔x∈rM):U.contains x=rM.contains x:=fB t6 (fB w7 (fB w7 h))
theorem Bc{s:jx}{qN:Nat}(h:ix=0\/ix=1)(av:qN=0\/qN=1):cK (eF s ix v) qN=if qN=ix then v else cK s qN:=by
 rcases h with rfl|rfl<;>rcases av with rfl|rfl<;>rfl
theorem D7{s:jx}:(eF s ix v).size=s.size:=by unfold eF;split<;>rfl
theorem TR{Q:cR}(aq:f=1\/f=2)(hi:ix=0\/ix=1)(jG:Q.fl=upd P.fl f (eF (P.fl f) ix v)){aB c4:Nat}(bj:aB=1\/aB=2)(cY:c4=0\/c4=1):
  cK (Q.fl aB) c4=if aB=f/\c4=ix then v else cK (P.fl aB) c4:=by
 refine G jG ?_;by_cases h:aB=f
 ·subst h;refine G gd (G (Bc hi cY) ?_);by_cases ak:c4=ix
  ·(exact G (aY ak) (G (aY ⟨rfl,ak⟩) rfl))
  ·(exact G (a8 ak) (G (a8 (λz=>ak z.2)) rfl))
 ·(exact G (iW h) (G (a8 (λz=>h z.1)) rfl))
theorem Ig(aq:f=1\/f=2)(hi:ix=0\/ix=1)(bu:cK (P.fl f) ix=0):(b2 P).contains (cF (b2 P))=aA:=
 ady (nI.mpr ⟨f,aq,ix,hi,bu⟩) (cW 4)
theorem et.blkP(W:et P){f ix:Nat}(aq:f=1\/f=2)(hi:ix=0\/ix=1):et (mn P f ix)/\gG (cK ((mn P f ix).fl f) ix):=by
 unfold Mine.Internal.P.mn;by_cases bu:cK (P.fl f) ix=0
 ·refine G (aY bu) ?_;have fr:=Ig aq hi bu;have E:=λ{aB c4:Nat} (bj:aB=1\/aB=2) (cY:c4=0\/c4=1)=>TR (P:=P) (Q:= {pQ P with fl:=upd P.fl f (eF (P.fl f) ix (cF (b2 P)))}) aq hi rfl bj cY
  have RZ:∀aB,aB=1\/aB=2->∀c4,c4=0\/c4=1->¬cK (P.fl aB) c4=cF (b2 P):=λaB bj c4 cY z=>by
   have :cF (b2 P)∈b2 P:=nI.mpr ⟨aB,bj,c4,cY,z⟩;rw [<-w7,fr] at this;exact b8 this
  refine⟨⟨?_,λaB bj c4 cY=>?_,λaB bj=>?_,λaB bj c4 cY nC qF oH qG gX bl=>?_⟩,?_⟩
  ·have :=qy (b2 P);unfold gG at this;show upd (upd P.img 13 _) (cF (b2 P)) jv 13=_
   refine G (iW (mf this.1)) (G gd ?_);refine G4 λx aO=>Dq ?_
   unfold gG at aO;refine fB fw (fB nI (fB nI ?_));constructor
   ·rintro (rfl|⟨aB,bj,c4,cY,e⟩)
    ·exact⟨f,aq,ix,hi,by(exact G (E aq hi) (G (aY ⟨rfl,rfl⟩) rfl))⟩
    ·refine⟨aB,bj,c4,cY,?_⟩;refine G (E bj cY) ?_;by_cases q:aB=f/\c4=ix
     ·rw [q.1,q.2,bu] at e;lia
     ·exact G (a8 q) e
   ·rintro ⟨aB,bj,c4,cY,e⟩
    rw [E bj cY] at e;by_cases q:aB=f/\c4=ix
    ·rw [aY q] at e;exact .inl e.symm
    ·rw [a8 q] at e;exact .inr ⟨aB,bj,c4,cY,e⟩
  ·refine G (E bj cY) ?_;split
   ·exact .inr (qy _)
   ·exact W.pl aB bj c4 cY
  ·show(upd P.fl f (eF (P.fl f) ix (cF (b2 P))) aB).size<1000
   by_cases q:aB=f
   ·subst q;exact G gd (G D7 (W.sz aB bj))
   ·exact G (iW q) (W.sz aB bj)
  ·rw [E bj cY] at bl⊢;rw [E qF qG] at bl;by_cases q:aB=f/\c4=ix
   ·rw [aY q] at bl;by_cases iE:nC=f/\oH=ix
    ·exact absurd ⟨q.1.trans iE.1.symm,q.2.trans iE.2.symm⟩ gX
    ·rw [a8 iE] at bl;exact absurd bl.symm (RZ nC qF oH qG)
   ·rw [a8 q] at bl⊢;by_cases iE:nC=f/\oH=ix
    ·rw [aY iE] at bl;exact absurd bl (RZ aB bj c4 cY)
    ·rw [a8 iE] at bl;exact W.dj aB bj c4 cY nC qF oH qG gX bl
  ·exact G (E aq hi) (G (aY ⟨rfl,rfl⟩) (qy _))
 ·exact G (a8 bu) (⟨W,(W.pl f aq ix hi).resolve_left bu⟩)
theorem et.img{Q:cR}(W:et P)(ai:Q.img 13=P.img 13)(ak:Q.fl=P.fl):et Q:=by
 refine⟨?_,?_,?_,?_⟩
 ·refine G ai (G W.bmp ?_);unfold b2;(exact G ak rfl)
 ·exact G ak W.pl
 ·exact G ak W.sz
 ·exact G ak W.dj
theorem et.putP(W:et P){b a:Nat}{x:dI}(hb:gG b):et (putP P b a x):=W.img (iW (by unfold gG at hb;exact mf hb.1)) rfl
theorem et.rowP(W:et P){f:Nat}(aq:f=1\/f=2):et (qW P f):=W.img (iW (by rcases aq with rfl|rfl<;>decide)) rfl
theorem et.growP(W:et P){f n:Nat}(hn:n<1000):et (tA P f n):=by
 have E:∀aB c4,cK ((Mine.Internal.P.tA P f n).fl aB) c4=cK (P.fl aB) c4:=λaB c4=>by
  show cK (upd P.fl f _ aB) c4=_
  by_cases q:aB=f
  ·subst q;exact G gd rfl
  ·(exact G (iW q) rfl)
 refine⟨?_,λaB bj c4 cY=>by refine G (E ..) ?_;exact W.pl aB bj c4 cY,λaB bj=>?_,λaB bj c4 cY nC qF oH qG gX bl=>by rw [E] at bl⊢;rw [E] at bl;exact W.dj aB bj c4 cY nC qF oH qG gX bl⟩
 ·refine W.bmp.trans (G4 λx _=>Dq ?_)
  refine fB nI (fB nI ?_);simp only [E]
 ·show(upd P.fl f _ aB).size<1000
  by_cases q:aB=f
  ·subst q;refine G gd ?_;have :=W.sz aB bj;lia
  ·exact G (iW q) (W.sz aB bj)
theorem et.give(W:et P){f ix:Nat}(aq:f=1\/f=2)(hi:ix=0\/ix=1):et {dL P (cK (P.fl f) ix) with fl:=upd P.fl f (eF (P.fl f) ix 0)}/\(cK (P.fl f) ix≠0->hW (P.img 13) (cK (P.fl f) ix)=1):=by
 have E:=λ{aB c4:Nat} (bj:aB=1\/aB=2) (cY:c4=0\/c4=1)=>TR (P:=P) (Q:= {dL P (cK (P.fl f) ix) with fl:=upd P.fl f (eF (P.fl f) ix 0)}) (v:=0) aq hi rfl bj cY
 refine⟨⟨?_,λaB bj c4 cY=>?_,λaB bj=>?_,λaB bj c4 cY nC qF oH qG gX bl=>?_⟩,λbu=>?_⟩
 ·by_cases bu:cK (P.fl f) ix=0
  ·have e:∀aB c4,(aB=1\/aB=2)->(c4=0\/c4=1)->cK (upd P.fl f (eF (P.fl f) ix 0) aB) c4=cK (P.fl aB) c4:=λaB c4 bj cY=>by
    refine(E bj cY).trans ?_;split
    ·rename_i q;(exact G q.1 (G q.2 (G bu rfl)))
    ·rfl
   show(dL P (cK (P.fl f) ix)).img 13=_
   unfold dL;refine G (aY bu) (G W.bmp ?_);refine G4 λx _=>Dq (fB nI (fB nI ?_))
   constructor
   ·rintro ⟨aB,bj,c4,cY,z⟩;exact⟨aB,bj,c4,cY,(e aB c4 bj cY).trans z⟩
   ·rintro ⟨aB,bj,c4,cY,z⟩;exact⟨aB,bj,c4,cY,(e aB c4 bj cY).symm.trans z⟩
  ·have hb:=(W.pl f aq ix hi).resolve_left bu;show(dL P (cK (P.fl f) ix)).img 13=_
   unfold dL;refine G (a8 bu) ?_;show upd P.img 13 _ 13=_
   refine G gd (G W.bmp ?_);refine Z3 hb (w7.mpr (nI.mpr ⟨f,aq,ix,hi,rfl⟩)) (Bool.eq_false_iff.mpr λz=>?_) λy hy gX=>Dq ?_
   ·rw [w7,nI] at z;refine ar8 z λaB bj c4 cY z=>?_
    have z:=(E bj cY).symm.trans z;by_cases q:aB=f/\c4=ix
    ·rw [aY q] at z;exact bu z.symm
    ·rw [a8 q] at z;exact bu (z▸W.dj aB bj c4 cY f aq ix hi q z)
   ·refine fB nI (fB nI ?_);unfold gG at hy;constructor
    ·rintro ⟨aB,bj,c4,cY,z⟩
     refine⟨aB,bj,c4,cY,(E bj cY).trans ?_⟩;exact G (a8 (λq=>gX (by rw [<-z,q.1,q.2]))) z
    ·rintro ⟨aB,bj,c4,cY,z⟩
     have z:=(E bj cY).symm.trans z;by_cases q:aB=f/\c4=ix
     ·rw [aY q] at z;lia
     ·rw [a8 q] at z;exact⟨aB,bj,c4,cY,z⟩
 ·refine G (E bj cY) ?_;split
  ·exact .inl rfl
  ·exact W.pl aB bj c4 cY
 ·show(upd P.fl f _ aB).size<1000
  by_cases q:aB=f
  ·subst q;exact G gd (G D7 (W.sz aB bj))
  ·exact G (iW q) (W.sz aB bj)
 ·rw [E bj cY] at bl⊢;rw [E qF qG] at bl;by_cases q:aB=f/\c4=ix
  ·(exact G (aY q) rfl)
  ·rw [a8 q] at bl⊢;by_cases iE:nC=f/\oH=ix
   ·rw [aY iE] at bl;exact bl
   ·rw [a8 iE] at bl;exact W.dj aB bj c4 cY nC qF oH qG gX bl
 ·exact G W.bmp (G (uR ((W.pl f aq ix hi).resolve_left bu)) (G (w7.mpr (nI.mpr ⟨f,aq,ix,hi,rfl⟩)) rfl))
theorem xk{y:Nat}{l:List Nat}:x∈dT y l↔x=y\/x∈l:=by
 unfold dT;split
 ·rename_i h;exact⟨λz=>.inr z,λz=>z.elim (λz=>z▸h) id⟩
 ·exact fB md (fB jk (⟨λz=>z.elim .inr .inl,λz=>z.elim .inr .inl⟩))
theorem Bb{off ap:Nat}{x:dI}(aq:f=1\/f=2)(hi:(off+ap)/48=0\/(off+ap)/48=1):(jN P f off x ap).nums.length<=P.nums.length+2:=by
 show(dT (cK ((mn P f ((off+ap)/48)).fl f) ((off+ap)/48)) (mn P f ((off+ap)/48)).nums).length<=_
 by_cases bu:cK (P.fl f) ((off+ap)/48)=0
 ·have e:mn P f ((off+ap)/48)= {pQ P with fl:=upd P.fl f (eF (P.fl f) ((off+ap)/48) (cF (b2 P)))}:=aY bu
  refine G e ?_;have :dT (cK (upd P.fl f (eF (P.fl f) ((off+ap)/48) (cF (b2 P))) f) ((off+ap)/48)) (dT (cF (b2 P)) (dT 13 P.nums))=dT (cF (b2 P)) (dT 13 P.nums):=by
   refine G gd (G (Bc hi hi) (G (aY rfl) ?_));exact aY (xk.mpr (.inl rfl))
  show(dT (cK (upd P.fl f (eF (P.fl f) ((off+ap)/48) (cF (b2 P))) f) ((off+ap)/48)) (dT (cF (b2 P)) (dT 13 P.nums))).length<=_
  refine G this ?_;have a:=uO (x:=cF (b2 P)) (l:=dT 13 P.nums);have b:=uO (x:=13) (l:=P.nums);lia
 ·have e:mn P f ((off+ap)/48)=P:=a8 bu;refine G e ?_;have :=uO (x:=cK (P.fl f) ((off+ap)/48)) (l:=P.nums);exact uC this
theorem et.pieceP(W:et P){f off ap:Nat}{x:dI}(aq:f=1\/f=2)(hi:(off+ap)/48=0\/(off+ap)/48=1):et (jN P f off x ap):=(W.blkP aq hi).1.putP (W.blkP aq hi).2
theorem JG{off:Nat}{x:dI}(aq:f=1\/f=2)(aR:off+x.length<=96):∀(n:Nat) {P:cR} {ap:Nat},et P->ap<=x.length->et (gy n P f off x ap).2/\(P.nums.length<=6->(gy n P f off x ap).2.nums.length<=6)/\(gy n P f off x ap).1<=x.length
 |0,P,ap,W,bA=>⟨W,id,bA⟩
 |n+1,P,ap,W,bA=>by
  refine G DX ?_;split
  ·rename_i h;have hi:(off+ap)/48=0\/(off+ap)/48=1:=th aR h.1;have a2:=Bb (P:=P) (x:=x) aq hi;have afe:dp off x.length ap<=x.length - ap:=ry _ _;exact dS (JG aq aR n (W.pieceP (x:=x) aq hi) (ap:=ap+dp off x.length ap) ((Nat.le_sub_iff_add_le' bA).mp afe)) λa b c=>⟨a,λ_=>b (by lia),c⟩
  ·exact⟨W,id,bA⟩
end
variable {ix:Nat}
section
variable {a:Nat}{x:dI}
section
variable {k:b3}{q:ez}
theorem vB{s:jx}{ix:Nat}(hi:ix=0\/ix=1):([.int s.p0,.int s.p1,.int (0:Nat)]:List L)[ix]? =J (.int (cK s ix)):=by rcases hi with rfl|rfl<;>rfl
theorem SL{s:jx}{ix v:Nat}(hi:ix=0\/ix=1):([.int s.p0,.int s.p1,.int (0:Nat)]:List L).set ix (.int v)=[.int (eF s ix v).p0,.int (eF s ix v).p1,.int (0:Nat)]:=by rcases hi with rfl|rfl<;>rfl
theorem RO{f f':Nat}(h:¬f=f'):¬bh.nd f=bh.nd f':=λz=>h (congrArg rA z)
theorem aji{f f':Nat}(h:¬f=f'):¬bh.pl f=bh.pl f':=λz=>h (congrArg rA z)
theorem eS.setPl(aa:eS A b7 cO al re P K)(aq:f=1\/f=2)(s:jx)(hs:s.size=(P.fl f).size):eS A b7 cO al re {P with fl:=upd P.fl f s} (K.set (cO f) (.pl f,lU s)):=by
 have e:=(aa.nf f aq).2;refine⟨aa.S.set e rfl,aa.I,aa.hh,aa.pd,λaB bj=>?_,aa.img,aa.nums,aa.calls⟩
 have h:=aa.nf aB bj;by_cases q:aB=f
 ·subst q;refine G (show({P with fl:=upd P.fl aB s}:cR).fl aB=s from gd) (⟨aI e ?_ (aC rfl),fo e⟩)
  have :=h.1;unfold r0 at this⊢;exact G hs this
 ·exact G (show({P with fl:=upd P.fl f s}:cR).fl aB=P.fl aB from iW q) (⟨aI e h.1 (aC rfl),aI e h.2 (aji λz=>q z.symm)⟩)
theorem eS.setSz(aa:eS A b7 cO al re P K)(aq:f=1\/f=2)(v:Nat):eS A b7 cO al re {P with fl:=upd P.fl f {P.fl f with size:=v}} (K.set (b7 f) (.nd f,r0 A f {P.fl f with size:=v} (cO f))):=by
 have e:=(aa.nf f aq).1;refine⟨aa.S.set e rfl,aa.I,aa.hh,aa.pd,λaB bj=>?_,aa.img,aa.nums,aa.calls⟩
 have h:=aa.nf aB bj;by_cases q:aB=f
 ·subst q;exact G (show({P with fl:=upd P.fl aB {P.fl aB with size:=v}}:cR).fl aB= {P.fl aB with size:=v} from gd) (⟨fo e,aI e h.2 (aC rfl)⟩)
 ·exact G (show({P with fl:=upd P.fl f {P.fl f with size:=v}}:cR).fl aB=P.fl aB from iW q) (⟨aI e h.1 (RO λz=>q z.symm),aI e h.2 (aC rfl)⟩)
theorem eS.setLs(aa:eS A b7 cO al re P K)(aq:f=1\/f=2){u p0 p1:Nat}(e2:K[u]? =J (.pl f,lU ⟨p0,p1,(P.fl f).size⟩)):eS A b7 (upd cO f u) al re {P with fl:=upd P.fl f ⟨p0,p1,(P.fl f).size⟩} (K.set (b7 f) (.nd f,r0 A f (P.fl f) u)):=by
 have e:=(aa.nf f aq).1;refine⟨aa.S.set e rfl,aa.I,aa.hh,aa.pd,λaB bj=>?_,aa.img,aa.nums,aa.calls⟩
 have h:=aa.nf aB bj;by_cases q:aB=f
 ·subst q;refine G (show({P with fl:=upd P.fl aB ⟨p0,p1,(P.fl aB).size⟩}:cR).fl aB=⟨p0,p1,(P.fl aB).size⟩ from gd) (G gd ?_)
  exact⟨fo e,aI e e2 (aC rfl)⟩
 ·refine G (show({P with fl:=upd P.fl f ⟨p0,p1,(P.fl f).size⟩}:cR).fl aB=P.fl aB from iW q) (G (iW q) ?_)
  exact⟨aI e h.1 (RO λz=>q z.symm),aI e h.2 (aC rfl)⟩
theorem aaU(aq:f=1\/f=2)(hi:ix=0\/ix=1)(aa:eS A b7 cO al re P K)(W:et P)(hn:P.nums.length<=4)(h:op A b7 re K (mn P f ix) λH=>k (.int (cK ((mn P f ix).fl f) ix)) H):aw (n+7) 398 [.new A.n,.new (b7 f),.int ix,.bool ae] (ao K) k:=by
 refine cz (aa.nf f aq) λe1 e2=>?_
 refine Yx (au (aN aa.S.n rfl rfl) (au (aN aa.S.s rfl rfl) (au (a:=ae) (by show J (eg ((ix:Int)<2))=_;(exact G (decide_eq_true (by lia)) rfl)) (jq rfl (au (aN e1 rfl rfl) (a3 (hL e2 (by lia) (vB hi)) ?_))))))
 refine au (a:=((cK (P.fl f) ix:Int)==0)) rfl ?_;by_cases bu:cK (P.fl f) ix=0
 ·have kq:mn P f ix= {pQ P with fl:=upd P.fl f (eF (P.fl f) ix (cF (b2 P)))}:=aY bu
  rw [kq] at h;refine pj (G bu rfl) (au rfl (pj rfl (au (c1 aa.S.n rfl rfl) (aaP aa W.bmp (Ig aq hi bu) (cQ ‹_› (by decide)) λeL d9 jr cp b5 dJ=>?_))))
  have aB:=b5.nf f aq;refine au (aN aB.1 rfl rfl) (au (vI b5.S.z aB.2 (aC rfl) (by show ix<3;lia) (mQ rfl)) ?_)
  refine G (SL hi) ?_;have gg:=b5.setPl aq (eF (P.fl f) ix (cF (b2 P))) D7;have g2:=gg.nf f aq;have lk:({pQ P with fl:=upd (pQ P).fl f (eF (P.fl f) ix (cF (b2 P)))}:cR).fl f=eF (P.fl f) ix (cF (b2 P)):=gd
  rw [lk] at g2;refine au (aN g2.1 rfl rfl) (a3 (hL g2.2 (by lia) (vB hi)) ?_)
  have :=h eL d9 jr _ gg (dJ.trans (Fr.set aB.2 rfl));rw [show({pQ P with fl:=upd P.fl f (eF (P.fl f) ix (cF (b2 P)))}:cR).fl f=eF (P.fl f) ix (cF (b2 P)) from gd] at this
  exact this
 ·have kq:mn P f ix=P:=a8 bu;rw [kq] at h;refine ot (by simp only [beq_eq_false_iff_ne,ne_eq];exact Int.ofNat_ne_zero.mpr bu) (au (aN e1 rfl rfl) (a3 (hL e2 (by lia) (vB hi)) ?_))
  refine h al re.ntl cO K ?_ (.refl K);exact cT aa.nums aa
theorem RI{c:Nat}:cI (.builtin "min") [.int a,.int c] H=J (.int ((min a c:Nat):Int),H):=by
 show J (L.int (if(c:Int)<a then(c:Int) else a),H)=_
 congr 3
 split<;>lia
theorem acb{l:dI}{c:Nat}(aQ:bH l.length=ae)(ai:a<1000)(ak:c<1000):cj (.bytes l) (.sl (J (a:Int)) (J ((a+c:Nat):Int))) H=J (.bytes ((l.drop a).take c),H):=by
 show(if bH l.length then(jY l (J (a:Int)) (J ((a+c:Nat):Int))).map (L.bytes ·,H) else ac)=_
 refine G ((aY aQ) ..) ?_;show(if 0<=(a:Int)/\0<=((a+c:Nat):Int)/\cH (a:Int)=ae/\cH ((a+c:Nat):Int)=ae then J ((l.take ((a+c:Nat):Int).toNat).drop (a:Int).toNat) else ac).map (L.bytes ·,H)=_
 refine G (aY ⟨ht _,ht _,mw (eE ‹_› (by decide)),mw (by lia)⟩) (G (h8 ..) (G (h8 ..) (G List.drop_take ?_)))
 have :a+c - a=c:=Vn a c;exact G this rfl
theorem aoK{l:dI}(h:a+x.length<=l.length):vK l (J (a:Int)) (J ((a+x.length:Nat):Int)) x=J (gq l a x):=by
 show(if 0<=(a:Int)/\(a:Int)<=((a+x.length:Nat):Int)/\((a+x.length:Nat):Int)<=l.length/\(x.length:Int)=((a+x.length:Nat):Int) - a then J (l.take (a:Int).toNat++x++l.drop ((a+x.length:Nat):Int).toNat) else ac)=_
 exact G (aY ⟨ht _,Int.le.intro x.length rfl,sJ.mpr ‹_›,rf (U8.mpr rfl)⟩) (G (h8 ..) (G (h8 ..) rfl))
theorem Jk{a c:Int}{k:Option Int->Option Int->Prop}(h:k (J a) (J c)):jJ (eA (.int a)) (eA (.int c)) k:=h
theorem aaY{ap:Nat}(aq:f=1\/f=2)(aa:eS A b7 cO al re P K)(W:et P)(hn:P.nums.length<=4)(bA:ap<x.length)(aR:off+x.length<=96)(h:op A b7 re K (jN P f off x ap) λH=>k (.int (dp off x.length ap)) H):
  aw (n+8) 426 [.new A.n,.new (b7 f),.int (off+ap:Nat),.bytes x,.int ap] (ao K) k:=by
 have hi:(off+ap)/48=0\/(off+ap)/48=1:=th aR bA;refine Yz (au (c1 aa.S.n rfl rfl) (au (aN aa.S.n rfl rfl) (au (aN aa.S.s rfl rfl) (a3 (kr (a:=off+ap) (c:=48) (by decide)) (aaU aq hi aa W hn λeL d9 jr cp b5 dJ=>?_)))))
 refine cz (W.blkP aq hi) λwL jd=>?_
 generalize hP1:mn P f ((off+ap)/48)=fj at *
 generalize hbk:cK (fj.fl f) ((off+ap)/48)=bk at *
 have m6:gY bk:=by unfold gG at jd;exact .inr (Ch jd.1)
 have w2:bH x.length=ae:=fE (GX aR);refine au (aN b5.S.n rfl rfl) (au (aN b5.S.s rfl rfl) (a3 (ks (a:=off+ap) (c:=48) (by decide)) (au (aN b5.S.n rfl rfl) (au (aN b5.S.s rfl rfl) (a3 (si (a:=48) (c:=(off+ap)%48) (jz (jo _ (by decide)))) (a3 (AW w2) (a3 (si (a:=x.length) (c:=ap) (jz ‹_›)) (a3 RI ?_))))))))
 have ii:min (48 - (off+ap)%48) (x.length - ap)=dp off x.length ap:=rfl;refine G ii ?_;have hp:dp off x.length ap<=48 - (off+ap)%48/\dp off x.length ap<=x.length - ap:=⟨sT _ _,ry _ _⟩;refine au (aN b5.S.n rfl rfl) (au (c1 b5.S.c rfl rfl) (uW (m:=bk) b5.S b5.I b5.hh (by unfold gG at jd;lia) λca2 dZ b cc eY ai ak f5 j4 aD fH=>?_))
 rw [<-j4] at ai;have jZ:b.data=fj.img bk:=cT (u0 eY f5) (G j4 (G (aD ..) (b5.img bk m6)));have dl:b.data.length=48:=eY.len b f5;have ll:((x.drop ap).take (dp off x.length ap)).length=dp off x.length ap:=G o6 (G wl (pe hp.2));refine a3 (f3 (a:=ap) (c:=dp off x.length ap)) (Jk (a3 (acb w2 (Xk aR bA) (eI ajf (by decide))) (au (aN (cc.bo b f5) rfl rfl) (a3 (f3 (a:=(off+ap)%48) (c:=dp off x.length ap)) (Jk (au (La cc.z (cc.bd b f5) (aC rfl) (G dl (G ll (fE (Xh hp.1)))) (l':=gq b.data ((off+ap)%48) ((x.drop ap).take (dp off x.length ap))) ?_) ?_))))))
 ·have :=aoK (l:=b.data) (x:=(x.drop ap).take (dp off x.length ap)) (a:=(off+ap)%48) (G ll (G dl SG));rw [ll] at this;exact this
 generalize f4:gq b.data ((off+ap)%48) ((x.drop ap).take (dp off x.length ap))=X at *
 have agF:X.length=48:=cT f4 (G (xE (by rw [ll,dl];exact SG)) dl)
 have zK:=cc.setBd eY.nd f5 X;refine cz (eY.data f5 ai agF) λzc hw=>?_
 have Ax:({b with data:=X}:e6)∈hB b.num (λc=> {c with data:=X}) ca2.bs:=hQ.mpr ⟨b,f5,aY rfl⟩
 have anY:bk∈fj.nums\/fj.nums.length<8:=by
  by_cases bu:cK (P.fl f) ((off+ap)/48)=0
  ·left
   have e:fj= {pQ P with fl:=upd P.fl f (eF (P.fl f) ((off+ap)/48) (cF (b2 P)))}:=hP1.symm.trans (aY bu)
   refine cT hbk (G e ?_);show cK (upd P.fl f _ f) _∈dT (cF (b2 P)) (dT 13 P.nums)
   refine G gd (G (Bc hi hi) (G (aY rfl) ?_));exact xk.mpr (.inl rfl)
  ·right
   have e:fj=P:=hP1.symm.trans (a8 bu);exact G e (eI ‹_› (by decide))
 refine Bn (b:= {b with data:=X}) (Q:=λH=>k (.int (dp off x.length ap)) H) zK zc Ax ai (ak.trans b5.pd) (G j4 m6) b5.calls (G j4 (b5.room anY)) λz3 aiA sL td sI ch cd ee yU=>?_
 have a9:Fr fN cp sL:=fH.trans ((Fr.set (cc.bd b f5) rfl).trans yU);rw [j4] at td sI cd;have kq:jN P f off x ap=putP fj bk ((off+ap)%48) ((x.drop ap).take (dp off x.length ap)):=by unfold jN;refine G hP1 ?_;dsimp only;(exact G hbk rfl)
 rw [kq] at h;refine h z3 aiA jr sL (eS.step (re:= {re with nums:=fj.nums,ntl:=d9}) b5 (P':=putP fj bk ((off+ap)%48) ((x.drop ap).take (dp off x.length ap))) (x:=X) td sI ch cd (λy=>by refine G (ee ..) (G (hw ..) (G (j4 ..) ?_));split;rfl;exact aD y) rfl (λy _=>?_) λf' lN=>⟨a9 _ _ _ (b5.nf f' lN).1 rfl,a9 _ _ _ (b5.nf f' lN).2 rfl⟩) (dJ.trans a9.prg)
 show upd fj.img bk _ y=_
 unfold upd;split
 ·(exact cT f4 (G jZ rfl))
 ·rfl
abbrev Of(A:g1)(b7:Nat->Nat)(f off ap:Nat)(x:dI)(mm:Loc):Prop:=mm=[(bQ,.new A.n),(h5,.new (b7 f)),(gT,.int off),(d2,.bytes x),(hC,.int ap)]\/ ∃v,mm=[(bQ,.new A.n),(h5,.new (b7 f)),(gT,.int off),(d2,.bytes x),(hC,.int ap),(mJ,v)]
theorem SH{len ap:Nat}(h:ap<len):0<dp off len ap:=Nat.lt_min.mpr ⟨M2 (jo _ (by decide)),M2 h⟩
theorem arJ(aq:f=1\/f=2)(aR:off+x.length<=96):∀(dn c3:Nat) {P:cR} {ap:Nat} {mm:Loc} {al:hq} {re:gj} {cO:Nat->Nat} {K:dB},eS A b7 cO al re P K->et P->P.nums.length<=6->Of A b7 f off ap x mm->x.length<ap+dn->dn<=c3->ap<=x.length->
    (∀bJ d9 m3 aX mm,eS A b7 m3 bJ {re with nums:=(gy dn P f off x ap).2.nums,ntl:=d9} (gy dn P f off x ap).2 aX->Fr r5 K aX->Of A b7 f off (gy dn P f off x ap).1 x mm->q .next mm (ao aX))->
    l3 False (λm H q=>ge False (aw (n+8)) (fD (bw (aW (aL 23 17)) 3) 0) (λH k=>bO False (aw (n+8)) (fD (bw (aW (aL 23 17)) 3) 0) jm m H k) jm m H q) (λm H q=>b1 False (aw (n+8)) (ei (bw (aW (aL 23 17)) 3)) jm m H q) c3 mm (ao K) q
 :=by
  intro dn;induction dn with
  |zero=>exact @λc3 P ap mm al re cO K aa W hn bc ai ak bA h=>absurd ai (n9.mpr bA)
  |succ dn ih=>
   exact @λc3 P ap mm al re cO K aa W hn bc ai ak bA h=>by
    rcases c3 with _|c3
    ·exact absurd ak (Vq dn)
    have w2:bH x.length=ae:=fE (GX aR);have aQ:re.nums.length=P.nums.length:=by(exact G aa.nums rfl)
    have oU:∀ {X Y:an->Prop},(ap<x.length/\P.nums.length<=4->Y (ao K))->(¬(ap<x.length/\P.nums.length<=4)->X (ao K))->aF (cI (.builtin "len") [.bytes x] (ao K)) λxv g5=>aj (bW .Lt (.int ap) xv g5) λtr=>bo .And tr (X g5) (aj (aV (.new A.n) hl g5) λmD=>aj (bx mD (z "left") g5) λuU=>bB False (aw (n+8)) uU [] g5 λD8 hE=>aj (bW .GtE D8 (L.int 4) hE) λHr=>bo .And Hr (X hE) (Y hE)):=λ{X Y} IB f4=>by
     refine a3 (AW w2) (au (a:=eg ((ap:Int)<(x.length:Int))) rfl ?_);by_cases a:ap<x.length
     ·refine pj (decide_eq_true (mc.mpr ‹_›)) (au (aN aa.S.n rfl rfl) (au (c1 aa.S.j rfl rfl) (Pl aa.S (by lia) (au (a:=eg ((4:Int)<=8 - (re.nums.length:Int))) rfl ?_))))
      by_cases b:P.nums.length<=4
      ·exact pj (decide_eq_true (by lia)) (IB ⟨a,b⟩)
      ·exact ot (decide_eq_false (by lia)) (f4 λz=>b z.2)
     ·exact ot (decide_eq_false (GW a)) (f4 λz=>a z.1)
    refine EY ?_;by_cases aD:ap<x.length/\P.nums.length<=4
    ·have hi:(off+ap)/48=0\/(off+ap)/48=1:=by exact th aR aD.1
     have tJ:=SH (off:=off) aD.1;have AK:dp off x.length ap<=x.length - ap:=ry _ _;have ek:gy (dn+1) P f off x ap=gy dn (jN P f off x ap) f off x (ap+dp off x.length ap):=aY aD;rw [ek] at h;have body:∀ {B:b3} {N:L->L->an->Prop},(∀eL d9 jr cp,eS A b7 jr eL {re with nums:=(jN P f off x ap).nums,ntl:=d9} (jN P f off x ap) cp->Fr r5 K cp->N (.int ((ap+dp off x.length ap:Nat):Int)) (.int (dp off x.length ap)) (ao cp))->
       aj (bx (.new A.n) (z "write_part") (ao K)) λHs=>aF (a5 .Add (.int off) (.int ap) (ao K)) λnS i0=>bB False (aw (n+8)) Hs [.new (b7 f),nS,.bytes x,.int ap] i0 λoQ mb=>aj (bW .Eq oQ (L.int 0) mb) λHu=>dU Hu (B oQ mb) (aF (a5 .Add (.int ap) oQ mb) λmy iw=>N my oQ iw):=λ{B N} nE=>by
      refine au (c1 aa.S.n rfl rfl) (a3 f3 (aaY aq aa W aD.2 aD.1 aR λeL d9 jr cp b5 dJ=>?_))
      exact au (a:=((dp off x.length ap:Int)==0)) rfl (g7 (by simp only [beq_eq_false_iff_ne,ne_eq];exact B4.mpr tJ) (a3 f3 (nE eL d9 jr cp b5 dJ)))
     have next:∀eL d9 jr cp,eS A b7 jr eL {re with nums:=(jN P f off x ap).nums,ntl:=d9} (jN P f off x ap) cp->Fr r5 K cp->
       l3 False (λm H q=>ge False (aw (n+8)) (fD (bw (aW (aL 23 17)) 3) 0) (λH k=>bO False (aw (n+8)) (fD (bw (aW (aL 23 17)) 3) 0) jm m H k) jm m H q) (λm H q=>b1 False (aw (n+8)) (ei (bw (aW (aL 23 17)) 3)) jm m H q) c3
        [(bQ,.new A.n),(h5,.new (b7 f)),(gT,.int off),(d2,.bytes x),(hC,.int ((ap+dp off x.length ap:Nat):Int)),(mJ,.int (dp off x.length ap))] (ao cp) q:=λeL d9 jr cp b5 dJ=>by
      have a2:=Bb (P:=P) (x:=x) aq hi;exact ih c3 b5 (W.pieceP aq hi) (by lia) (.inr ⟨_,rfl⟩) (by lia) (by lia) (by lia) λbJ aix m3 aX mm' yX mM i7=>h bJ aix m3 aX mm' yX (dJ.trans mM) i7
     rcases bc with rfl|⟨v,rfl⟩
     ·refine TF (oU (X:=λH=>_) (Y:=λH=>_) (λ_=>?_) (λz=>absurd aD z))
      exact aqE (body (B:=λr H=>_) (N:=λv r H=>_) next)
     ·refine TG (oU (X:=λH=>_) (Y:=λH=>_) (λ_=>?_) (λz=>absurd aD z))
      exact aqF (body (B:=λr H=>_) (N:=λv r H=>_) next)
    ·have ek:gy (dn+1) P f off x ap=(ap,P):=a8 aD;rw [ek] at h;have cq:=h al re.ntl cO K mm (cT aa.nums aa) (.refl K) bc;rcases bc with rfl|⟨v,rfl⟩
     ·exact TF (oU (X:=λH=>_) (Y:=λH=>_) (λz=>absurd z aD) λ_=>cq)
     ·exact TG (oU (X:=λH=>_) (Y:=λH=>_) (λz=>absurd z aD) λ_=>cq)
end
end
section
variable {x:dI}
section
variable {k:b3}{q:ez}
theorem aer{n:Nat}(h:n<=(P.fl f).size):tA P f n=P:=by
 unfold tA;have e:({P.fl f with size:=max (P.fl f).size n}:jx)=P.fl f:=by(exact G (Nat.max_eq_left h) rfl)
 refine G e ?_;have :upd P.fl f (P.fl f)=P.fl:=by
  funext y
  unfold upd;split
  ·rename_i q;(exact G q rfl)
  ·rfl
 (exact G this rfl)
theorem et.lim(W:et P)(aq:f=1\/f=2):(P.fl f).size<4294967296/\(P.fl f).p0<4294967296/\(P.fl f).p1<4294967296:=by
 have a:=W.sz f aq;have b:=W.pl f aq 0 (.inl rfl);have c:=W.pl f aq 1 (.inr rfl);have fc:cK (P.fl f) 0=(P.fl f).p0:=rfl;have ig:cK (P.fl f) 1=(P.fl f).p1:=rfl;unfold gG at b c;rw [fc] at b;rw [ig] at c;exact Xt a b c
def kO(P:cR)(f off:Nat)(x:dI):cR:=if 0<(gy (x.length+1) P f off x 0).1 then tA (gy (x.length+1) P f off x 0).2 f (off+(gy (x.length+1) P f off x 0).1) else(gy (x.length+1) P f off x 0).2
theorem L5:pT P f off x=((gy (x.length+1) P f off x 0).1,qW (kO P f off x) f):=rfl
theorem RG(aq:f=1\/f=2)(W:et P)(aR:off+x.length<=96):et (kO P f off x)/\(P.nums.length<=6->(kO P f off x).nums.length<=6):=by
 refine dS (JG (x:=x) aq aR (x.length+1) W (hf _) (ap:=0)) λa b c=>?_
 unfold kO;split
 ·exact⟨a.growP (by lia),b⟩
 ·exact⟨a,b⟩
theorem aaX(aq:f=1\/f=2)(aR:off+x.length<=96)(aa:eS A b7 cO al re P K)(W:et P)(hn:P.nums.length<=6)(h:op A b7 re K (pT P f off x).2 λH=>k (.int ((pT P f off x).1:Nat)) H):
  aw (n+9) 419 [.new A.n,.new (b7 f),.int off,.bytes x] (ao K) k:=by
 have w2:bH x.length=ae:=fE (GX aR);refine Yy (au (a:=aA) (by show J (eg ((off:Int)<0))=_;(exact G (decide_eq_false (Int.not_ofNat_neg off)) rfl)) (g7 rfl (a3 (AW w2) (a3 f3 (au (aN aa.S.n rfl rfl) (au (c1 aa.S.s rfl rfl) (aaF aa.S (au (a:=aA) (by show J (eg ((672:Int)<((off+x.length:Nat):Int)))=_;(exact G (decide_eq_false (by lia)) rfl)) (g7 rfl ?_)))))))))
 refine agw (arJ (ap:=0) aq aR (x.length+1) 1000 aa W hn (.inl rfl) (by lia) (by lia) (hf _) λeL d9 jr cp mm b5 dJ bc=>?_)
 have M:=RG aq W aR;have a2:=JG (x:=x) aq aR (x.length+1) W (hf _) (ap:=0);rw [L5] at h;generalize eR:gy (x.length+1) P f off x 0=R at *
 have sm:∀ {ca2:hq} {ntl2:List (L×L)} {nl2:Nat->Nat} {dZ:dB},eS A b7 nl2 ca2 {re with nums:=(kO P f off x).nums,ntl:=ntl2} (kO P f off x) dZ->Fr r5 K dZ->aj (bx (.new A.n) q9 (ao dZ)) λzZ=>bB False (aw (n+8)) zZ [.new (b7 f)] (ao dZ) λS0 ul=>k (.int (R.1:Nat)) ul:=λgg fH=>by
  refine au (c1 gg.S.n rfl rfl) (Pg aq gg (M.1.lim aq) (.inr (by have :=M.2 hn;exact eI ‹_› (by decide))) λz2 aiy aif gu fI f7=>?_)
  exact h z2 aiy aif gu fI (fH.trans f7)
 have hJ:kO P f off x=if 0<R.1 then tA R.2 f (off+R.1) else R.2:=by unfold kO;(exact G eR rfl)
 have aB:=b5.nf f aq;have j1:aj (bW .Gt (.int (R.1:Nat)) (L.int 0) (ao cp)) λuV=>bo .And uV (aj (bx (.new A.n) q9 (ao cp)) λzZ=>bB False (aw (n+8)) zZ [.new (b7 f)] (ao cp) λS0 ul=>k (.int (R.1:Nat)) ul) (aF (a5 .Add (.int off) (.int (R.1:Nat)) (ao cp)) λLK o4=>aj (aV (.new (b7 f)) dH o4) λMl=>aj (bW .Gt LK Ml o4) λz0=>bo .And z0 (aj (bx (.new A.n) q9 o4) λHC=>bB False (aw (n+8)) HC [.new (b7 f)] o4 λanD FN=>k (.int (R.1:Nat)) FN) (aF (a5 .Add (.int off) (.int (R.1:Nat)) o4) λLL FP=>aj (ft (.new (b7 f)) dH LL FP) λkX=>aj (bx (.new A.n) q9 kX) λz1=>bB False (aw (n+8)) z1 [.new (b7 f)] kX λS2 y4=>k (.int (R.1:Nat)) y4)):=by
  refine au (a:=eg ((0:Int)<(R.1:Nat))) rfl ?_;by_cases bu:0<R.1
  ·rw [aY bu] at hJ;refine pj (decide_eq_true (mc.mpr ‹_›)) (a3 f3 (au (aN aB.1 rfl rfl) (au (a:=eg (((R.2.fl f).size:Int)<((off+R.1:Nat):Int))) rfl ?_)));by_cases hs:(R.2.fl f).size<off+R.1
   ·refine pj (decide_eq_true (mc.mpr ‹_›)) (a3 f3 (au (iV b5.S.z aB.1 (aC rfl) rfl rfl) ?_));have gg:=b5.setSz aq (off+R.1);have e2:kO P f off x= {R.2 with fl:=upd R.2.fl f {R.2.fl f with size:=off+R.1}}:=by refine G hJ ?_;unfold tA;(exact G (Nat.max_eq_right (jz ‹_›)) rfl)
    have j0:(kO P f off x).nums=R.2.nums:=by(exact G e2 rfl)
    refine sm (ca2:=eL) (ntl2:=d9) (nl2:=jr) ?_ (dJ.trans (Fr.set aB.1 rfl));exact G j0 (G e2 gg)
   ·refine ot (decide_eq_false (GW hs)) ?_;rw [aer (wo hs)] at hJ;refine sm (ca2:=eL) (ntl2:=d9) (nl2:=jr) ?_ dJ;exact G hJ b5
  ·rw [a8 bu] at hJ;refine ot (decide_eq_false (by lia)) (sm (ca2:=eL) (ntl2:=d9) (nl2:=jr) ?_ dJ)
   exact G hJ b5
 rcases bc with rfl|⟨v,rfl⟩
 ·exact WV j1
 ·exact WW j1
theorem Zr{a b c v:L}:eu o9 Fb (.one v) [(bQ,a),(h5,b),(lA,c)] H=J [(bQ,a),(h5,b),(lA,c),(mI,v)]:=by kernel_rfl
theorem Zs{a b c v aJ:L}:eu o9 Fb (.one v) [(bQ,a),(h5,b),(lA,c),(mI,aJ)] H=J [(bQ,a),(h5,b),(lA,c),(mI,v)]:=by kernel_rfl
theorem Dj{x:Nat}:(dL P x).nums.length<=P.nums.length+1:=by
 unfold dL;split
 ·exact k4 P.nums.length 1
 ·exact uO
theorem Dh{x:Nat}:(dL P x).fl=P.fl:=by unfold dL;split<;>rfl
theorem TO{ix:Nat}{Q:an->Prop}(hi:ix=0\/ix=1)(aq:f=1\/f=2)(aa:eS A b7 cO al re P K)(bA:cK (P.fl f) ix=0\/gG (cK (P.fl f) ix))(hb:¬cK (P.fl f) ix=0->hW (P.img 13) (cK (P.fl f) ix)=1)(gI:P.nums.length<8)(h:op A b7 re K (dL P (cK (P.fl f) ix)) Q):
  aj (aV (.new (b7 f)) eC (ao K)) λc7=>aF (cj c7 (.at_ (.int ix)) (ao K)) λgB cx=>aj (bW .NotEq gB (L.int 0) cx) λhw=>dU hw (aj (bx (.new A.n) (z "give_block") cx) λlh=>aj (aV (.new (b7 f)) eC cx) λlx=>aF (cj lx (.at_ (.int ix)) cx) λfT eh=>bB False (aw (n+4)) lh [fT] eh λoP gt=>Q gt) (Q cx):=by
 refine cz (aa.nf f aq) λe1 e2=>au (aN e1 rfl rfl) (a3 (hL e2 (by lia) (vB hi)) (au (a:= !((cK (P.fl f) ix:Int)==0)) rfl ?_))
 by_cases bu:cK (P.fl f) ix=0
 ·refine g7 (G bu rfl) ?_;have e:dL P (cK (P.fl f) ix)=P:=aY bu;rw [e] at h;exact h al re.ntl cO K (cT aa.nums aa) (.refl K)
 ·have jL:((cK (P.fl f) ix:Int)==0)=aA:=by simp only [beq_eq_false_iff_ne,ne_eq];exact Int.ofNat_ne_zero.mpr bu
  refine jq (G jL rfl) (au (c1 aa.S.n rfl rfl) (au (aN e1 rfl rfl) (a3 (hL e2 (by lia) (vB hi)) ?_)))
  exact aaT (bA.resolve_left bu) aa (hb bu) (.inr gI) h
theorem aaZ(aq:f=1\/f=2)(aa:eS A b7 cO al re P K)(W:et P)(hn:P.nums.length<=5)(h:op A b7 re K (q0 P f) λH=>k .none H):aw (n+5) 433 [.new A.n,.new (b7 f)] (ao K) k:=by
 refine cz (W.give aq (ix:=0) (.inl rfl)) λwL E6=>cz (wL.give aq (ix:=1) (.inr rfl)) λwM jd=>?_
 have dh:cK (P.fl f) 0=(P.fl f).p0:=rfl;have e1:cK (P.fl f) 1=(P.fl f).p1:=rfl;have Ai:({dL P (cK (P.fl f) 0) with fl:=upd P.fl f (eF (P.fl f) 0 0)}:cR).fl f=eF (P.fl f) 0 0:=gd
 rw [Ai] at jd wM;have ac8:cK (eF (P.fl f) 0 0) 1=(P.fl f).p1:=rfl;rw [ac8] at jd wM;refine YA (au (aN aa.S.n rfl rfl) (au (aN aa.S.s rfl rfl) (au (a:=[.int (0:Nat),.int (1:Nat)]) (by rfl) ?_)))
 refine iQ (it:=.one (.int (0:Nat))) rfl Zr (TX (TO (Q:=λH=>_) (.inl rfl) aq aa (W.pl f aq 0 (.inl rfl)) E6 (eI ‹_› (by decide)) λeL asY jr cp b5 dJ=>?_))
 rw [dh] at b5;have ch:(dL P (P.fl f).p0).fl=P.fl:=Dh;have gn:=Dj (P:=P) (x:=(P.fl f).p0);refine iQ (it:=.one (.int (1:Nat))) rfl Zs (TX (TO (Q:=λH=>_) (.inr rfl) aq b5 (G ch (W.pl f aq 1 (.inr rfl))) (G ch jd) (by lia) λca2 ntl2 nl2 dZ gg fH=>?_))
 rw [ch,e1] at gg;have cd:(dL (dL P (P.fl f).p0) (P.fl f).p1).fl=P.fl:=Dh.trans ch;have fY:=Dj (P:=dL P (P.fl f).p0) (x:=(P.fl f).p1);have aB:=gg.nf f aq;rw [cd] at aB;refine mr (by rfl) (WX (au (aN aB.1 rfl rfl) (a3 (hL (p:=2) aB.2 (by decide) rfl) (au (a:=aA) rfl (g7 rfl (gz (.x 6) (a3 rfl ?_)))))))
 generalize hP2:dL (dL P (P.fl f).p0) (P.fl f).p1=P2 at *
 have fI:=gg.ex (.app dZ [(.x 6,.list [.int 0])]);have jf:=fI.ex (.app _ [(.pl f,lU ⟨0,0,(P.fl f).size⟩)]);have u9:=jf.nf f aq;rw [cd] at u9;refine a3 (a:=.new (dZ++[(bh.x 6,bt.list [.int 0])]).length) (b:=ao (dZ++[(bh.x 6,bt.list [.int 0])]++[(.pl f,lU ⟨0,0,(P.fl f).size⟩)])) ?_ ?_
 ·show((listAt (ao (dZ++[(bh.x 6,bt.list [.int 0])])) dZ.length).bind λa=>if bH (a.length*(3:Int).toNat)&&cH 3 then J (L.new (ao (dZ++[(bh.x 6,bt.list [.int 0])])).length,ao (dZ++[(bh.x 6,bt.list [.int 0])])++[bt.list (f9 (3:Int).toNat a).flatten]) else ac)=_
  refine G (xh (d8 c2)) ?_;show J (L.new (ao (dZ++[(bh.x 6,bt.list [.int 0])])).length,ao (dZ++[(bh.x 6,bt.list [.int 0])])++[lU ⟨0,0,(P.fl f).size⟩])=_
  (exact G (nB (r:=.pl f)) (G mo rfl))
 ·refine au (iV jf.S.z u9.1 (aC rfl) rfl rfl) ?_;have h6:=eS.setLs jf aq (u:=(dZ++[(bh.x 6,bt.list [.int 0])]).length) (p0:=0) (p1:=0) (G cd c2);rw [cd] at h6;have qB:=(h6.nf f aq).1;rw [show({P2 with fl:=upd P.fl f ⟨0,0,(P.fl f).size⟩}:cR).fl f=⟨0,0,(P.fl f).size⟩ from gd] at qB
  refine au (iV h6.S.z qB (aC rfl) rfl rfl) ?_;have rh:=h6.setSz aq 0;rw [show({P2 with fl:=upd P.fl f ⟨0,0,(P.fl f).size⟩}:cR).fl f=⟨0,0,(P.fl f).size⟩ from gd] at rh
  have Ah:upd (upd P.fl f ⟨0,0,(P.fl f).size⟩) f {(⟨0,0,(P.fl f).size⟩:jx) with size:=0}=upd P.fl f ⟨0,0,0⟩:=funext λy=>by unfold upd;split<;>rfl
  rw [Ah] at rh;have Af:q0 P f=qW {P2 with fl:=upd P.fl f ⟨0,0,0⟩} f:=by unfold q0;(exact G hP2 rfl)
  rw [Af] at h;refine au (c1 rh.S.n rfl rfl) (Pg aq rh ?_ (.inr ?_) λabA aiz aih FV Fo Fn=>?_)
  ·exact G (show({P2 with fl:=upd P.fl f ⟨0,0,0⟩}:cR).fl f=⟨0,0,0⟩ from gd) (⟨by decide,by decide,by decide⟩)
  ·show P2.nums.length<8;lia
  ·refine h abA aiz aih FV Fo (dJ.trans (fH.trans (((Fr.app dZ _).trans (Fr.app _ _)).trans ((Fr.set u9.1 rfl).trans ((Fr.set qB rfl).trans Fn)))))
theorem aaM(aq:f=1\/f=2)(aR:off+x.length<=96)(aa:eS A b7 cO al re P K)(W:et P)(hn:P.nums.length<=6)(h:op A b7 re K (pT P f off x).2 λH=>k (.int ((pT P f off x).1:Nat)) H):
  aw (n+10) 250 [.new (b7 f),.int off,.bytes x] (ao K) k:=
 Yq (au (aN (aa.nf f aq).1 rfl rfl) (au (c1 aa.S.n rfl rfl) (aaX aq aR aa W hn h)))
theorem aaN(aq:f=1\/f=2)(aa:eS A b7 cO al re P K)(W:et P)(hn:P.nums.length<=5)(h:op A b7 re K (q0 P f) λH=>k .none H):aw (n+6) 257 [.new (b7 f)] (ao K) k:=
 Yr (au (aN (aa.nf f aq).1 rfl rfl) (au (c1 aa.S.n rfl rfl) (aaZ aq aa W hn h)))
end
end
section
variable {a:Nat}
noncomputable def tK(r:bh):Bool:=Nat.ble 18 r.1&&Nat.ble r.1 22
def dd(T:List Nat):List Nat:=T.foldl (λacc x=>dT x acc) []
theorem ach{T:List Nat}:dd (T++[x])=dT x (dd T):=by unfold dd;exact G List.foldl_append rfl
noncomputable def dz(n:Nat):L:=.int (n:Int)
theorem has_int{l:List Nat}:(l.map dz).contains (dz x)=l.contains x:=by
 refine fB t6 (fB Vf (fB Vf (fB hQ ?_)));constructor
 ·rintro ⟨a,h,e⟩;have :a=x:=by unfold dz at e;injection e with e;exact Int.ofNat.inj e
  exact cT this h
 ·exact λh=>⟨x,h,rfl⟩
theorem PQ:∀ {T acc:List Nat},rW (T.map dz) (acc.map dz)=(T.foldl (λacc x=>dT x acc) acc).map dz
 | [],acc=>rfl
 |x::T,acc=>by
  refine G h9 ?_;rw [PP];refine G has_int (G List.foldl_cons (cT PQ ?_));congr 1
  unfold dT;by_cases h:x∈acc
  ·(exact G (aY h) (G (aY (by simpa using h)) rfl))
  ·exact G (a8 h) (G (a8 (by simpa using h)) (G p8 rfl))
theorem X0{T:List Nat}:(T.map dz).all isInt=ae:=by refine G List.all_map (fB i3 ?_);intro x _;rfl
structure lE where
 (im fs:Nat) (fd:Nat->Nat)
abbrev Ic(s:jx)(p:Nat):bt:=.dict [(.str "places",.new p),(.str "size",dz s.size)]
structure dK(a2:lE)(to:Nat)(ra fp:Nat->Nat)(P:cR)(T:List Nat)(K:dB):Prop where
 z:gW K
 im:K[a2.im]? =J (.im,.list ((nn 22).map λy=>.new (ra y)))
 ir:∀y,gY y->y<22->K[ra y]? =J (.ir y,.list ((P.img y).map di))
 fs:K[a2.fs]? =J (.fs,.list [.new (a2.fd 1),.new (a2.fd 2)])
 fd:∀f,f=1\/f=2->K[a2.fd f]? =J (.fd f,Ic (P.fl f) (fp f))/\K[fp f]? =J (.fp f,lU (P.fl f))
 to:K[to]? =J (.to,.list (T.map dz))
 nums:P.nums=dd T
 len:∀y,gY y->(P.img y).length=48
section
variable {a2:lE}{to:Nat}{ra fp:Nat->Nat}{T:List Nat}{k:b3}{q:ez}
theorem dK.ex{aX:dB}(aa:dK a2 to ra fp P T K)(h:el K aX):dK a2 to ra fp P T aX:=
 ⟨cm aa.z λo z=>⟨o,h _ _ _ z⟩,h _ _ _ aa.im,λy a b=>h _ _ _ (aa.ir y a b),h _ _ _ aa.fs,λf aq=>⟨h _ _ _ (aa.fd f aq).1,h _ _ _ (aa.fd f aq).2⟩,h _ _ _ aa.to,aa.nums,aa.len⟩
theorem dK.fr{aX:dB}{S:bh->Bool}(aa:dK a2 to ra fp P T K)(h:Fr S K aX)(bu:S .im=aA/\S .fs=aA/\S .to=aA/\(∀y,S (.ir y)=aA/\S (.fd y)=aA/\S (.fp y)=aA))(hz:gW aX):dK a2 to ra fp P T aX:=
 ⟨hz,h _ _ _ aa.im bu.1,λy a b=>h _ _ _ (aa.ir y a b) (bu.2.2.2 y).1,h _ _ _ aa.fs bu.2.1,λf aq=>⟨h _ _ _ (aa.fd f aq).1 (bu.2.2.2 f).2.1,h _ _ _ (aa.fd f aq).2 (bu.2.2.2 f).2.2⟩,h _ _ _ aa.to bu.2.2.1,aa.nums,aa.len⟩
theorem dK.setIm(aa:dK a2 to ra fp P T K){y u:Nat}{x:dI}(hy:y<22)(aO:x.length=48)(e:K[u]? =J (.ir y,.list (x.map di))):
  dK a2 to (upd ra y u) fp {P with img:=upd P.img y x} T (K.set a2.im (.im,.list ((nn 22).map λeO=>.new (upd ra y u eO)))):=by
 refine⟨aa.z.set aa.im (aC rfl),fo aa.im,λeO a b=>?_,aI aa.im aa.fs (aC rfl),λf aq=>⟨aI aa.im (aa.fd f aq).1 (aC rfl),aI aa.im (aa.fd f aq).2 (aC rfl)⟩,aI aa.im aa.to (aC rfl),aa.nums,λeO a=>?_⟩
 ·by_cases h:eO=y
  ·subst h;exact G (show({P with img:=upd P.img eO x}:cR).img eO=x from gd) (G gd (aI aa.im e (aC rfl)))
  ·exact G (show({P with img:=upd P.img y x}:cR).img eO=P.img eO from iW h) (G (iW h) (aI aa.im (aa.ir eO a b) (aC rfl)))
 ·by_cases h:eO=y
  ·subst h;exact G (show({P with img:=upd P.img eO x}:cR).img eO=x from gd) aO
  ·exact G (show({P with img:=upd P.img y x}:cR).img eO=P.img eO from iW h) (aa.len eO a)
theorem Jc{y u:Nat}(hy:y<22):((nn 22).map λy=>L.new (ra y)).set y (.new u)=(nn 22).map λeO=>.new (upd ra y u eO):=by
 refine F0 λp=>G List.getElem?_set ?_
 by_cases h:y=p
 ·subst h;refine G (aY rfl) (G (aY (by rw [d0,uy];exact hy)) (G kZ (G (B7 hy) ?_)))
  show _=J (L.new (upd ra y u y));(exact G gd rfl)
 ·refine G (a8 h) (G kZ (G kZ ?_));cases e:(nn 22)[p]?with
  |none=>rfl
  |some v=>
   have :v=p:=by
    have :=(kF.mp e);refine cm this λa b=>?_;rw [List.getElem_range] at b;exact b.symm
   subst this;show J (L.new (ra v))=J (L.new (upd ra y u v));(exact G (iW (λz=>h z.symm)) rfl)
theorem dK.row(aa:dK a2 to ra fp P T K){y:Nat}(hy:y<22):((nn 22).map λy=>L.new (ra y))[y]? =J (.new (ra y)):=G kZ (G (B7 hy) rfl)
theorem dK.setIr(aa:dK a2 to ra fp P T K){y:Nat}{x:dI}(hy:y<22)(aR:gY y)(aO:x.length=48):dK a2 to ra fp {P with img:=upd P.img y x} T (K.set (ra y) (.ir y,.list (x.map di))):=by
 have e:=aa.ir y aR hy;refine⟨aa.z.set e (aC rfl),aI e aa.im (aC rfl),λeO a b=>?_,aI e aa.fs (aC rfl),λf aq=>⟨aI e (aa.fd f aq).1 (aC rfl),aI e (aa.fd f aq).2 (aC rfl)⟩,aI e aa.to (aC rfl),aa.nums,λeO a=>?_⟩
 ·by_cases h:eO=y
  ·subst h;exact G (show({P with img:=upd P.img eO x}:cR).img eO=x from gd) (fo e)
  ·exact G (show({P with img:=upd P.img y x}:cR).img eO=P.img eO from iW h) (aI e (aa.ir eO a b) λz=>h (congrArg rA z).symm)
 ·by_cases h:eO=y
  ·subst h;exact G (show({P with img:=upd P.img eO x}:cR).img eO=x from gd) aO
  ·exact G (show({P with img:=upd P.img y x}:cR).img eO=P.img eO from iW h) (aa.len eO a)
theorem dK.addT(aa:dK a2 to ra fp P T K)(x:Nat):dK a2 to ra fp {P with nums:=dT x P.nums} (T++[x]) (K.set to (.to,.list ((T++[x]).map dz))):=by
 have e:=aa.to;exact⟨aa.z.set e (aC rfl),aI e aa.im (aC rfl),λeO a b=>aI e (aa.ir eO a b) (aC rfl),aI e aa.fs (aC rfl),λf aq=>⟨aI e (aa.fd f aq).1 (aC rfl),aI e (aa.fd f aq).2 (aC rfl)⟩,fo e,by(exact G ach (cT aa.nums rfl)),aa.len⟩
theorem dK.setFp(aa:dK a2 to ra fp P T K)(aq:f=1\/f=2)(s:jx)(hs:s.size=(P.fl f).size):dK a2 to ra fp {P with fl:=upd P.fl f s} T (K.set (fp f) (.fp f,lU s)):=by
 have e:=(aa.fd f aq).2;refine⟨aa.z.set e (aC rfl),aI e aa.im (aC rfl),λeO a b=>aI e (aa.ir eO a b) (aC rfl),aI e aa.fs (aC rfl),λaB bj=>?_,aI e aa.to (aC rfl),aa.nums,aa.len⟩
 have h:=aa.fd aB bj;by_cases q:aB=f
 ·subst q;refine G (show({P with fl:=upd P.fl aB s}:cR).fl aB=s from gd) (⟨aI e ?_ (aC rfl),fo e⟩)
  have :=h.1;unfold Ic at this⊢;exact G hs this
 ·exact G (show({P with fl:=upd P.fl f s}:cR).fl aB=P.fl aB from iW q) (⟨aI e h.1 (aC rfl),aI e h.2 λz=>q (congrArg rA z).symm⟩)
theorem dK.setFd(aa:dK a2 to ra fp P T K)(aq:f=1\/f=2){u:Nat}{s:jx}(e2:K[u]? =J (.fp f,lU s)):dK a2 to ra (upd fp f u) {P with fl:=upd P.fl f s} T (K.set (a2.fd f) (.fd f,Ic s u)):=by
 have e:=(aa.fd f aq).1;refine⟨aa.z.set e (aC rfl),aI e aa.im (aC rfl),λeO a b=>aI e (aa.ir eO a b) (aC rfl),aI e aa.fs (aC rfl),λaB bj=>?_,aI e aa.to (aC rfl),aa.nums,aa.len⟩
 have h:=aa.fd aB bj;by_cases q:aB=f
 ·subst q;refine G (show({P with fl:=upd P.fl aB s}:cR).fl aB=s from gd) (G gd ?_)
  exact⟨fo e,aI e e2 (aC rfl)⟩
 ·refine G (show({P with fl:=upd P.fl f s}:cR).fl aB=P.fl aB from iW q) (G (iW q) ?_)
  exact⟨aI e h.1 λz=>q (congrArg rA z).symm,aI e h.2 (aC rfl)⟩
theorem aou(e:K[i]? =J (r,.list l))(aQ:bH l.length=ae)(ha:a<1000)(s:bh):cj (.new i) (.sl ac (J (a:Int))) (ao K)=J (.new K.length,ao (K++[(s,.list (l.take a))])):=by
 show(match(ao K)[i]?with
  |J (.list l)|J (.scr l)=>if bH l.length then(jY l ac (J (a:Int))).map λl=>(L.new (ao K).length,ao K++[bt.list l]) else ac
  |J (.tup l)=>ac
  |_=>ac)=_
 refine G (d8 e ..) ?_;show(if bH l.length then(if 0<=(a:Int)/\cH (a:Int)=ae then J (l.take (a:Int).toNat) else ac).map λl=>(L.new (ao K).length,ao K++[bt.list l]) else ac)=_
 refine G (aY aQ) (G (aY ⟨ht _,mw (eE ‹_› (by decide))⟩) (G (h8 ..) ?_))
 show J (L.new (ao K).length,ao K++[bt.list (l.take a)])=_
 (exact G (nB (r:=s)) (G mo rfl))
theorem aot(e:K[i]? =J (r,.list l))(aQ:bH l.length=ae)(ha:a<1000)(s:bh):cj (.new i) (.sl (J (a:Int)) ac) (ao K)=J (.new K.length,ao (K++[(s,.list (l.drop a))])):=by
 show(match(ao K)[i]?with
  |J (.list l)|J (.scr l)=>if bH l.length then(jY l (J (a:Int)) ac).map λl=>(L.new (ao K).length,ao K++[bt.list l]) else ac
  |J (.tup l)=>if 1<=(a:Int)/\(a:Int)<=l.length/\bH l.length=ae then J (L.new (ao K).length,ao K++[bt.tup (l.drop (a:Int).toNat)]) else ac
  |_=>ac)=_
 refine G (d8 e ..) ?_;show(if bH l.length then(if 0<=(a:Int)/\cH (a:Int)=ae then J (l.drop (a:Int).toNat) else ac).map λl=>(L.new (ao K).length,ao K++[bt.list l]) else ac)=_
 refine G (aY aQ) (G (aY ⟨ht _,mw (eE ‹_› (by decide))⟩) (G (h8 ..) ?_))
 show J (L.new (ao K).length,ao K++[bt.list (l.drop a)])=_
 (exact G (nB (r:=s)) (G mo rfl))
theorem Tg{c:Nat}(e:K[i]? =J (r,.list l))(aQ:bH l.length=ae)(ha:a<1000)(aD:c<1000)(s:bh):cj (.new i) (.sl (J (a:Int)) (J ((a+c:Nat):Int))) (ao K)=J (.new K.length,ao (K++[(s,.list ((l.drop a).take c))])):=by
 show(match(ao K)[i]?with
  |J (.list l)|J (.scr l)=>if bH l.length then(jY l (J (a:Int)) (J ((a+c:Nat):Int))).map λl=>(L.new (ao K).length,ao K++[bt.list l]) else ac
  |J (.tup l)=>ac
  |_=>ac)=_
 refine G (d8 e ..) ?_;show(if bH l.length then(if 0<=(a:Int)/\0<=((a+c:Nat):Int)/\cH (a:Int)=ae/\cH ((a+c:Nat):Int)=ae then J ((l.take ((a+c:Nat):Int).toNat).drop (a:Int).toNat) else ac).map λl=>(L.new (ao K).length,ao K++[bt.list l]) else ac)=_
 refine G (aY aQ) (G (aY ⟨ht _,ht _,mw (eE ‹_› (by decide)),mw (by lia)⟩) (G (h8 ..) (G (h8 ..) (G List.drop_take ?_))))
 have :a+c - a=c:=Vn a c;refine G this ?_;show J (L.new (ao K).length,ao K++[bt.list ((l.drop a).take c)])=_
 (exact G (nB (r:=s)) (G mo rfl))
theorem Jl{c:Int}{k:Option Int->Option Int->Prop}(h:k ac (J c)):jJ (eA L.none) (eA (.int c)) k:=h
theorem Q4{c:Int}{k:Option Int->Option Int->Prop}(h:k (J c) ac):jJ (eA (.int c)) (eA L.none) k:=h
theorem agO(x:Nat):vu x=(hA x).map di:=by
 unfold vu hA;simp only [h9,MS,di,CJ,Ck (zU x _)]
theorem ZN{a v:L}:eu t9 Fd (.one v) [(hm,a)] H=J [(hm,a),(e4,v)]:=by kernel_rfl
theorem ZO{a v aJ:L}:eu t9 Fd (.one v) [(hm,a),(e4,aJ)] H=J [(hm,a),(e4,v)]:=by kernel_rfl
theorem CT(s:bh)(h:k (.new K.length) (ao (K++[(s,.list ((hA x).map di))]))):aw (n+1) 874 [.int x,.int 4] (ao K) k:=by
 refine Y6 (au Ta (wV (items:=vF) (P:=λm=>m=[(hm,.int x)]\/ ∃v,m=[(hm,.int x),(e4,v)]) (mm:=λv=>[(hm,.int x),(e4,v)]) (c:=λ_=>ae) (f:=Ka x) (λ_=>rfl)
  (λv m bc=>by rcases bc with rfl|⟨u,rfl⟩;exact ZN;exact ZO) (λv=>.inr ⟨v,rfl⟩) (λv hv q cJ=>adq cJ)
  (λv hv _ q cJ=>by refine bU (Tb hv) λa ha al6=>?_;obtain rfl:=al6;exact acM (Sw (eE ‹_› (by decide)) cJ)) 1000 0 _ [] (.inl rfl) (by decide) (by decide) ?_))
 refine G (Sv ..) (G (agO ..) ?_);exact gz s h
end
end
variable {a2:lE}{to:Nat}{ra fp:Nat->Nat}{T:List Nat}
section
variable {l:dI}
section
variable {k:b3}{q:ez}
abbrev p9(a2:lE)(to:Nat)(P':cR)(T:List Nat)(c:Nat)(K:dB)(Q:an->Prop):Prop:=∀oR oD ml aX,dK a2 to oR oD P' ml aX->Fr tK K aX->ml.length<=T.length+c->Q (ao aX)
theorem ZE{b c d e:L}:eu sS Fe (.one v) [(cu,a),(bS,b),(eC,c),(dH,d),(jc,e)] H=J [(cu,a),(bS,b),(eC,c),(dH,d),(jc,e),(dQ,v)]:=by kernel_rfl
theorem O1{b c d e aJ:L}:eu sS Fe (.one v) [(cu,a),(bS,b),(eC,c),(dH,d),(jc,e),(dQ,aJ)] H=J [(cu,a),(bS,b),(eC,c),(dH,d),(jc,e),(dQ,v)]:=by kernel_rfl
theorem w0(h:l.length<=1000):bH (l.map di).length=ae:=G (d0 ..) (fE (by omega))
theorem adF{a b:dI}(h:a.length+b.length<=1000):bH ((a.map di).length+(b.map di).length)=ae:=G (d0 ..) (G (d0 ..) (fE (by omega)))
theorem ti{a b:dI}{fR:bh}(e1:K[i]? =J (r,.list (a.map di)))(e2:K[j]? =J (fR,.list (b.map di)))(h:a.length+b.length<=1000)(s:bh):a5 .Add (.new i) (.new j) (ao K)=J (.new K.length,ao (K++[(s,.list ((a++b).map di))])):=
 G p8 (OP e1 e2 (adF h) s)
theorem TK{a:Nat}(e:K[i]? =J (r,.list (l.map di)))(h:l.length<=1000)(ha:a<1000)(s:bh):cj (.new i) (.sl ac (J (a:Int))) (ao K)=J (.new K.length,ao (K++[(s,.list ((l.take a).map di))])):=
 G F6 (aou e (w0 h) ha s)
theorem C8{a:Nat}(e:K[i]? =J (r,.list (l.map di)))(h:l.length<=1000)(ha:a<1000)(s:bh):cj (.new i) (.sl (J (a:Int)) ac) (ao K)=J (.new K.length,ao (K++[(s,.list ((l.drop a).map di))])):=
 G MR (aot e (w0 h) ha s)
theorem an4{u:Nat}{w:dI}{oO aoZ ajj:L}(aa:dK a2 to ra fp P T K)(aq:f=1\/f=2)(j7:w.length=24)(acS:K[u]? =J (r,.list (w.map di)))(h:p9 a2 to {P with img:=upd P.img (fq f) (gq (P.img (fq f)) (iU f) w)} T 0 K λH=>k (.int (fq f:Nat)) H):
  ed (aw n) ((aW (bf 37)).drop 2) sS (dM k) .next [(cu,.new a2.im),(bS,.int f),(eC,oO),(dH,aoZ),(jc,.new u),(dQ,ajj)] (ao K):=by
 refine dS (D6 aq) λdx en sa=>?_
 have dl:=aa.len _ dx;have acJ:11+f/2=fq f:=rfl;have acI:f%2*24=iU f:=rfl;refine W8 (a3 (kr (a:=f) (c:=2) (by decide)) (a3 (f3 (a:=11)) (a3 (ks (a:=f) (c:=2) (by decide)) (a3 (xl (a:=f%2) (c:=24) (n8 (jo _ (by decide)) (by decide)) (by decide)) ?_))))
 refine G acJ (G acI ?_);refine gz (.x 0) (nR c2 rfl (hc (hc ?_)));refine a3 (hL (cf aa.im) (eE ‹_› (by decide)) (aa.row en)) (Jl (a3 (TK (cf (aa.ir _ dx en)) (cQ (iB dl) (by decide)) (eI (cQ (k4 ..) sa) (by decide)) (.x 0)) (a3 (ti c2 (cf (cf acS)) (G o6 (G j7 (XJ sa))) (.x 0)) ?_)))
 refine a3 (hL (cf (cf (cf aa.im))) (eE ‹_› (by decide)) (aa.row en)) (a3 (f3 (a:=iU f) (c:=24)) (Q4 (a3 (C8 (cf (cf (cf (aa.ir _ dx en)))) (cQ (iB dl) (by decide)) (XK sa) (.x 0)) ?_)))
 refine a3 (ti (cf c2) c2 (by(refine G iz (G o6 (G wl (G j7 ?_))));exact cQ (Ce (wm (ry _ _) _) (sU _ _)) (by rw [dl];decide)) (.ir (fq f))) ?_
 have X:=((((el.app K [(.x 0,.tup [.int (fq f:Nat),.int (iU f:Nat)])]).trans (.app _ [(.x 0,.list (((P.img (fq f)).take (iU f)).map di))])).trans (.app _ [(.x 0,.list (((P.img (fq f)).take (iU f)++w).map di))])).trans (.app _ [(.x 0,.list (((P.img (fq f)).drop (iU f+24)).map di))])).trans
  (.app _ [(.ir (fq f),.list (((P.img (fq f)).take (iU f)++w++(P.img (fq f)).drop (iU f+24)).map di))])
 have ri:=aa.ex X;refine au (vI ri.z ri.im (aC rfl) (G (d0 ..) (G (uy ..) en)) (by refine G (d0 ..) (G (uy ..) ?_);decide)) ?_
 refine G (Jc en) ?_;have aH:(P.img (fq f)).take (iU f)++w++(P.img (fq f)).drop (iU f+24)=gq (P.img (fq f)) (iU f) w:=by unfold gq;(exact G j7 rfl)
 have aO:(gq (P.img (fq f)) (iU f) w).length=48:=(xE (by exact G j7 (XN sa dl))).trans dl
 refine h _ fp T _ (ri.setIm en aO (cT aH c2)) (X.fr.trans (Fr.set ri.im rfl)) (cW _)
theorem abq(aa:dK a2 to ra fp P T K)(aq:f=1\/f=2)(h:p9 a2 to {P with img:=upd P.img (fq f) (gq (P.img (fq f)) (iU f) (pO (P.fl f)))} T 0 K λH=>k (.int (fq f:Nat)) H):
  aw (n+2) 881 [.new a2.im,.int f,.new (fp f),.int (P.fl f).size] (ao K) k:=by
 have ii:=(aa.fd f aq).2;have ok:∀ {a b:Nat},Nat.ble (a+b) 1000=ae->a+b<=1000:=mQ;refine Y7 (gz (.x 0) (CT (.x 0) ?_));refine a3 (ti (a:=[2,0,0,0,0,0,1,0]) (b:=hA (P.fl f).size) (cf c2) c2 (ok rfl) (.x 0)) (pH (cf (cf (cf ii))) ?_);refine iQ (nG (cf (cf (cf ii))) rfl) ZE (LV (CT (.x 0) (a3 (ti (cf c2) c2 (ok rfl) (.x 0)) ?_)));refine iQ (nG (cf (cf (cf (cf (cf ii))))) rfl) O1 (LV (CT (.x 0) (a3 (ti (cf c2) c2 (ok rfl) (.x 0)) ?_)));refine iQ (nG (cf (cf (cf (cf (cf (cf (cf ii))))))) rfl) O1 (LV (CT (.x 0) (a3 (ti (cf c2) c2 (ok rfl) (.x 0)) ?_)));refine mr (qM (cf (cf (cf (cf (cf (cf (cf (cf (cf ii))))))))) (cW 3)) ?_;have WQ:=(((((((el.app K [(bh.x 0,bt.list ([2,0,0,0,0,0,1,0].map di))]).trans (el.app _ [(bh.x 0,bt.list ((hA (P.fl f).size).map di))])).trans (el.app _ [(bh.x 0,bt.list (([2,0,0,0,0,0,1,0]++hA (P.fl f).size).map di))])).trans (el.app _ [(bh.x 0,bt.list ((hA (P.fl f).p0).map di))])).trans (el.app _ [(bh.x 0,bt.list (([2,0,0,0,0,0,1,0]++hA (P.fl f).size++hA (P.fl f).p0).map di))])).trans (el.app _ [(bh.x 0,bt.list ((hA (P.fl f).p1).map di))])).trans (el.app _ [(bh.x 0,bt.list (([2,0,0,0,0,0,1,0]++hA (P.fl f).size++hA (P.fl f).p0++hA (P.fl f).p1).map di))])).trans (el.app _ [(bh.x 0,bt.list ((hA 0).map di))]);have Ox:=WQ.trans (el.app _ [(bh.x 0,bt.list ((pO (P.fl f)).map di))]);exact an4 (aa.ex Ox) aq (Tc _) c2 λoR oD ml aX yX mM l'=>h oR oD ml aX yX (Ox.fr.trans mM) l'
def xz:List L:=[dz 14,dz 15,dz 16,dz 17,dz 18,dz 19,dz 20,dz 21]
theorem anZ:lV [L.int 14,L.int 22]=J xz:=by rfl
theorem an0(h:v∈xz):∃a:Nat,14<=a/\a<22/\v=.int a:=by
 unfold xz at h;simp only [fw,jl,or_false] at h;rcases h with rfl|rfl|rfl|rfl|rfl|rfl|rfl|rfl<;>exact⟨_,by decide,by decide,rfl⟩
noncomputable def tu(l:dI):L->Bool
 | .int a=>hW l a.toNat==0
 |_=>aA
theorem ZP:eu ua Ff (.one v) [(cu,a)] H=J [(cu,a),(nb,v)]:=by kernel_rfl
theorem ZQ{aJ:L}:eu ua Ff (.one v) [(cu,a),(nb,aJ)] H=J [(cu,a),(nb,v)]:=by kernel_rfl
theorem X5{a:Nat}:a5 .BitAnd (.int a) (.int 1) H=J (.int ((a%2:Nat):Int),H):=by
 show J (L.int (wy a 1),H)=_
 exact G (bitAnd_m1 ..) rfl
theorem adE{U:List Nat}(aq:U.contains (cF U)=aA):∃l,xz.filter (tu (ga U))=dz (cF U)::l:=by
 have Ha:tu (ga U) (dz 14)= !U.contains 14:=by show(hW (ga U) 14==0)=_;refine G (uR ⟨by decide,by decide⟩) ?_;cases U.contains 14<;>rfl
 have pq:tu (ga U) (dz 15)= !U.contains 15:=by show(hW (ga U) 15==0)=_;refine G (uR ⟨by decide,by decide⟩) ?_;cases U.contains 15<;>rfl
 have Hd:tu (ga U) (dz 16)= !U.contains 16:=by show(hW (ga U) 16==0)=_;refine G (uR ⟨by decide,by decide⟩) ?_;cases U.contains 16<;>rfl
 have nw:tu (ga U) (dz 17)= !U.contains 17:=by show(hW (ga U) 17==0)=_;refine G (uR ⟨by decide,by decide⟩) ?_;cases U.contains 17<;>rfl
 unfold xz;unfold cF at aq⊢;refine G kE (G Ha ?_);cases a:U.contains 14
 ·exact⟨_,rfl⟩
 ·rw [a] at aq;refine G kE (G pq ?_);cases b:U.contains 15
  ·exact⟨_,rfl⟩
  ·rw [b] at aq;refine G kE (G Hd ?_);cases c:U.contains 16
   ·exact⟨_,rfl⟩
   ·rw [c] at aq;refine G kE (G nw ?_);cases d:U.contains 17
    ·exact⟨_,rfl⟩
    ·exact absurd (d.symm.trans (show U.contains 17=aA from aq)) (by decide)
theorem KZ{l:List L}{c:Nat}(e:K[i]? =J (r,.list l))(h:l.length*c<=1000)(aD:c<1000)(s:bh):a5 .Mult (.new i) (.int c) (ao K)=J (.new K.length,ao (K++[(s,.list (f9 c l).flatten)])):=by
 show((listAt (ao K) i).bind λa=>if bH (a.length*(c:Int).toNat)&&cH (c:Int) then J (L.new (ao K).length,ao K++[bt.list (f9 (c:Int).toNat a).flatten]) else ac)=_
 refine G (xh (d8 e) ..) ?_;show(if bH (l.length*(c:Int).toNat)&&cH (c:Int) then J (L.new (ao K).length,ao K++[bt.list (f9 (c:Int).toNat l).flatten]) else ac)=_
 exact G (h8 ..) (G (fE (by omega) ..) (G (mw (eE ‹_› (by decide)) ..) (G (nB (r:=s)) (G mo rfl))))
theorem Ii{c:Nat}:(f9 c [v]).flatten=f9 c v:=by
 induction c with
 |zero=>rfl
 |succ c ih=>(refine G Cc (G MN (G ih ?_)));rfl
def sj(P:cR):cR:= {P with img:=upd (upd P.img 13 (ga (cF (b2 P)::b2 P))) (cF (b2 P)) jv,nums:=dT 13 P.nums}
theorem abr(aa:dK a2 to ra fp P T K)(hb:P.img 13=ga (b2 P))(aq:(b2 P).contains (cF (b2 P))=aA)(ce:T.length<=60000)(h:p9 a2 to (sj P) T 1 K λH=>k (.int (cF (b2 P):Nat)) H):aw (n+1) 891 [.new a2.im,.new to] (ao K) k:=by
 have aet:=qy (b2 P);unfold gG at aet;have dl:=aa.len 13 lM;have w3:∀x,x<22->(P.img 13)[x/8]? =J ((P.img 13)[x/8]?.getD 0):=λx aO=>by exact G (iy (GU aO dl)) rfl
 have Dm:∀x,x<22->((P.img 13).map di)[x/8]? =J (.int (((P.img 13)[x/8]?.getD 0).toNat:Nat)):=λx aO=>by exact G kZ (G (w3 x aO) rfl)
 refine Y8 (au anZ (wV (items:=xz) (P:=λm=>m=[(cu,.new a2.im)]\/ ∃v,m=[(cu,.new a2.im),(nb,v)]) (mm:=λv=>[(cu,.new a2.im),(nb,v)]) (c:=tu (P.img 13)) (f:=id) (λ_=>rfl)
  (λv m bc=>by rcases bc with rfl|⟨u,rfl⟩;exact ZP;exact ZQ) (λv=>.inr ⟨v,rfl⟩) (λv hv q cJ=>?_)
  (λv hv _ q cJ=>acN cJ) 1000 0 _ [] (.inl rfl) (by decide) (by decide) ?_))
 ·refine kT (an0 hv) λx az aT al7=>?_;obtain rfl:=al7
  refine adr (a3 (hL (p:=13) aa.im (by decide) (aa.row (by decide))) (a3 (kr (a:=x) (c:=8) (by decide)) (a3 (hL (aa.ir 13 lM (by decide)) (eI (wn ..) (eE ‹_› (by decide))) (Dm x aT)) (a3 (ks (a:=x) (c:=8) (by decide)) (a3 Eh (a3 X5 (au rfl ?_)))))))
  have ig:(((((P.img 13)[x/8]?.getD 0).toNat/2^(x%8)%2:Nat):Int)==0)=tu (P.img 13) (.int x):=by
   show _=(hW (P.img 13) (x:Int).toNat==0)
   refine G (h8 ..) ?_;unfold hW;generalize((P.img 13)[x/8]?.getD 0).toNat/2^(x%8)%2=w;exact fB t6 (fB beq_iff_eq (fB beq_iff_eq Int.ofNat_eq_zero))
  cases e:tu (P.img 13) (.int x)
  ·rw [e] at cJ;exact g7 (ig.trans e) cJ
  ·rw [e] at cJ;exact jq (ig.trans e) cJ
 ·refine G (zs ..) (G (zm ..) (G (List.map_id ..) ?_));refine cm (adE aq) λl ek=>G hb (G ek ?_)
  refine gz (.x 0) (a3 (hL (p:=0) c2 (by decide) rfl) ?_)
  have b5:=aa.ex (.app K [(.x 0,.list (dz (cF (b2 P))::l))]);have xd:cF (b2 P)<22:=by omega
  have aiS:=SD ((P.img 13)[cF (b2 P)/8]?.getD 0).toNat (rN _) (cF (b2 P)%8) (jo _ (by decide))
  refine a3 (hL (p:=13) b5.im (by decide) (b5.row (by decide))) (a3 (kr (a:=cF (b2 P)) (c:=8) (by decide)) (a3 (hL (b5.ir 13 lM (by decide)) (eI (wn ..) (eE ‹_› (by decide))) (Dm _ xd)) (a3 (ks (a:=cF (b2 P)) (c:=8) (by decide)) (a3 (Lb (c:=cF (b2 P)%8) (cQ (jz (jo _ (by decide))) (by decide))) (a3 (Pc (w3 _ xd)) ?_)))))
  refine a3 (hL (p:=13) b5.im (by decide) (b5.row (by decide))) (a3 (kr (a:=cF (b2 P)) (c:=8) (by decide)) (au (vI b5.z (b5.ir 13 lM (by decide)) (aC rfl) (G (d0 ..) (place_lt (w3 (cF (b2 P)) xd))) (by refine G (d0 ..) ?_;omega)) ?_))
  have H3:((P.img 13).map di).set (cF (b2 P)/8) (.int ((((P.img 13)[cF (b2 P)/8]?.getD 0).toNat|||2^(cF (b2 P)%8):Nat):Int))=(ga (cF (b2 P)::b2 P)).map di:=by
   refine cT (O9 (qy _)) (cT hb ?_);unfold xD;refine G MT ?_;congr 1
   show _=L.int ((hV _).toNat:Int)
   (exact G CJ (G (Ck aiS) rfl))
  refine G H3 ?_;have gg:=b5.setIr (y:=13) (x:=ga (cF (b2 P)::b2 P)) (by decide) lM (Pa _ _ _ _)
  refine gz (.x 0) (a3 (KZ (c:=48) c2 (by decide) (by decide) (.ir (cF (b2 P)))) ?_)
  refine G Ii ?_;have fI:=(gg.ex (.app _ [(.x 0,.list [.int 0])])).ex (.app _ [(.ir (cF (b2 P)),.list (jv.map di))]);refine au (vI fI.z fI.im (aC rfl) (G (d0 ..) (G (uy ..) xd)) (by refine G (d0 ..) (G (uy ..) ?_);decide)) ?_
  refine G (Jc xd) ?_;have jf:=fI.setIm (y:=cF (b2 P)) (x:=jv) xd rfl c2;refine au (qu jf.to) (lS (tN jf.z jf.to (aC rfl) (G (d0 ..) (fE (by omega)))) ?_)
  have h6:=jf.addT 13;rw [p8] at h6;refine h _ fp (T++[13]) _ h6 ?_ (G iz (cW _));exact(Fr.app K _).trans ((Fr.set (b5.ir 13 lM (by decide)) rfl).trans (((Fr.app _ _).trans (Fr.app _ _)).trans ((Fr.set fI.im rfl).trans (Fr.set jf.to rfl))))
end
end
section
variable {b:L}
section
variable {k:b3}{q:ez}
theorem DJ{l:List (L×L)}{u v:L}(e:K[i]? =J (r,.dict l))(hk:fX u=ae)(h:dV l u=J v):cj (.new i) (.at_ u) (ao K)=J (v,ao K):=by
 unfold cj;simp only [d8 e];rcases u<;>first |(simp only [hk,h,if_true,Cn])|cases hk
theorem ack:dV [(.str "places",a),(.str "size",b)] (.str "places")=J a:=oz.trans (aY rfl)
theorem acl:dV [(.str "places",a),(.str "size",b)] (.str "size")=J b:=oz.trans ((a8 (by decide)).trans (oz.trans (aY rfl)))
theorem acw{c:L}:g9 [(.str "places",a),(.str "size",b)] (.str "places") c=[(.str "places",c),(.str "size",b)]:=tw.trans (aY rfl)
theorem PV{c:L}:g9 [(.str "places",a),(.str "size",b)] (.str "size") c=[(.str "places",a),(.str "size",c)]:=tw.trans ((a8 (by decide)).trans (congrArg _ (tw.trans (aY rfl))))
theorem dK.pls(aa:dK a2 to ra fp P T K)(aq:f=1\/f=2):cj (.new (a2.fd f)) (.at_ (.str "places")) (ao K)=J (.new (fp f),ao K):=DJ (aa.fd f aq).1 rfl ack
theorem dK.szs(aa:dK a2 to ra fp P T K)(aq:f=1\/f=2):cj (.new (a2.fd f)) (.at_ (.str "size")) (ao K)=J (dz (P.fl f).size,ao K):=DJ (aa.fd f aq).1 rfl acl
theorem afJ{x:Nat}{l:List Nat}:dT x (dT x l)=dT x l:=aY (xk.mpr (.inl rfl))
theorem dK.appT(aa:dK a2 to ra fp P T K)(x:Nat)(ce:T.length<=60000):lT (.new to) "append" [.int x] (ao K)=J (.none,ao (K.set to (.to,.list ((T++[x]).map dz)))):=by
 have :=tN (u:=.int x) aa.z aa.to (aC rfl) (G (d0 ..) (fE (by lia)))
 have e:(T++[x]).map dz=T.map dz++[.int x]:=G p8 rfl;exact G e this
theorem Em{o off ap:Nat}{x:dI}{N:L->L->L->an->Prop}(aq:f=1\/f=2)(hi:(off+ap)/48=0\/(off+ap)/48=1)(aa:dK a2 to ra fp P T K)(bX:K[o]? =J (.x 9,.list (x.map di)))(hb:gG (cK (P.fl f) ((off+ap)/48)))(bA:ap<x.length)(aO:x.length<=100)(ce:T.length<=60000)
  (h:p9 a2 to (putP P (cK (P.fl f) ((off+ap)/48)) ((off+ap)%48) ((x.drop ap).take (dp off x.length ap))) T 1 K λH=>N (.int (ap+dp off x.length ap:Nat)) (.int (cK (P.fl f) ((off+ap)/48):Nat)) (.int (dp off x.length ap:Nat)) H):
  aF (cj (.new (a2.fd f)) (.at_ (L.str eC)) (ao K)) λaqs za=>aF (cj aqs (.at_ (.int ((off+ap)/48:Nat))) za) λBC zb=>aF (a5 .Sub (L.int 48) (.int ((off+ap)%48:Nat)) zb) λBD uq=>aF (cI (.builtin "len") [.new o] uq) λanF FS=>aF (a5 .Sub anF (.int ap) FS) λLQ ur=>aF (cI (.builtin "min") [BD,LQ] ur) λanH BZ=>eq BZ (.tup [BC,anH]) λaqt MH=>kz aqt MH 2 λagD=>fP agD λBp agj=>fP agj λEU asN=>aF (cj (.new a2.im) (.at_ Bp) MH) λapY UE=>jJ (eA L.none) (eA (.int ((off+ap)%48:Nat))) λapv apw=>aF (cj apY (.sl apv apw) UE) λap0 UF=>aF (a5 .Add (.int ap) EU UF) λap1 UG=>jJ (eA (.int ap)) (eA ap1) λapx apy=>aF (cj (.new o) (.sl apx apy) UG) λap2 UH=>aF (a5 .Add ap0 ap2 UH) λap3 UI=>aF (cj (.new a2.im) (.at_ Bp) UI) λap4 UK=>aF (a5 .Add (.int ((off+ap)%48:Nat)) EU UK) λap6 UM=>jJ (eA ap6) (eA L.none) λapz apA=>aF (cj ap4 (.sl apz apA) UM) λap8 UO=>aF (a5 .Add ap3 ap8 UO) λap9 UP=>aj (fS (.new a2.im) (.at_ Bp) ap9 UP) λMF=>aj (bx (.new to) l4 MF) λaaB=>bB False (aw n) aaB [Bp] MF λas2 UQ=>aF (a5 .Add (.int ap) EU UQ) λaqb UR=>N aqb Bp EU UR:=by
 have tE:=hb;unfold gG at hb;have t3:cK (P.fl f) ((off+ap)/48)<22:=by lia
 have m6:gY (cK (P.fl f) ((off+ap)/48)):=.inr (Ch hb.1);generalize hbk:cK (P.fl f) ((off+ap)/48)=bk at *
 have dl:=aa.len bk m6;refine a3 (aa.pls aq) (a3 (hL (aa.fd f aq).2 (by lia) (vB hi)) (a3 (si (a:=48) (c:=(off+ap)%48) (jz (jo _ (by decide)))) (a3 (pE bX (w0 (cQ ‹_› (by decide)))) ?_)))
 refine G (d0 ..) (G (hbk ..) ?_);refine a3 (si (a:=x.length) (c:=ap) (jz ‹_›)) (a3 RI ?_);have ii:min (48 - (off+ap)%48) (x.length - ap)=dp off x.length ap:=rfl;refine G ii ?_;have hp:dp off x.length ap<=48 - (off+ap)%48/\dp off x.length ap<=x.length - ap:=⟨sT _ _,ry _ _⟩;have j2:dp off x.length ap<=48:=cQ hp.1 (sU _ _);have ll:((x.drop ap).take (dp off x.length ap)).length=dp off x.length ap:=G o6 (G wl (pe hp.2));refine gz (.x 0) (nR c2 rfl (hc (hc ?_)));refine a3 (hL (cf aa.im) (eE ‹_› (by decide)) (aa.row t3)) (Jl (a3 (TK (cf (aa.ir _ m6 t3)) (by lia) (n8 (jo _ (by decide)) (by decide)) (.x 0)) (a3 (f3 (a:=ap) (c:=dp off x.length ap)) (Jk ?_))))
 have acK:∀aX:dB,aX[o]? =J (.x 9,.list (x.map di))->cj (.new o) (.sl (J (ap:Int)) (J ((ap+dp off x.length ap:Nat):Int))) (ao aX)=J (.new aX.length,ao (aX++[(.x 0,.list (((x.drop ap).take (dp off x.length ap)).map di))])):=λaX e=>by
  exact G F6 (G MR (Tg e (w0 (cQ ‹_› (by decide))) (by lia) (eI ‹_› (by decide)) (.x 0)))
 refine a3 (acK _ (cf (cf bX))) (a3 (ti (cf c2) c2 (by(refine G ll (G o6 ?_));exact cQ (Ce (ry _ _) j2) (by rw [dl];decide)) (.x 0)) ?_)
 refine a3 (hL (cf (cf (cf (cf aa.im)))) (eE ‹_› (by decide)) (aa.row t3)) (a3 (f3 (a:=(off+ap)%48) (c:=dp off x.length ap)) (Q4 (a3 (C8 (cf (cf (cf (cf (aa.ir _ m6 t3))))) (cQ (iB dl) (by decide)) (eI (OK hp.1) (by decide)) (.x 0)) ?_)))
 refine a3 (ti (cf c2) c2 (by(refine G iz (G ll (G o6 (G wl ?_))));exact cQ (Ce (Ce (ry _ _) j2) (sU _ _)) (by rw [dl];decide)) (.ir bk)) ?_
 have X:=(((((el.app K [(.x 0,.tup [.int (bk:Nat),.int (dp off x.length ap:Nat)])]).trans (.app _ [(.x 0,.list (((P.img bk).take ((off+ap)%48)).map di))])).trans (.app _ [(.x 0,.list (((x.drop ap).take (dp off x.length ap)).map di))])).trans (.app _ [(.x 0,.list (((P.img bk).take ((off+ap)%48)++(x.drop ap).take (dp off x.length ap)).map di))])).trans (.app _ [(.x 0,.list (((P.img bk).drop ((off+ap)%48+dp off x.length ap)).map di))])).trans
  (.app _ [(.ir bk,.list (((P.img bk).take ((off+ap)%48)++(x.drop ap).take (dp off x.length ap)++(P.img bk).drop ((off+ap)%48+dp off x.length ap)).map di))])
 have ri:=aa.ex X;refine au (vI ri.z ri.im (aC rfl) (G (d0 ..) (G (uy ..) t3)) (by refine G (d0 ..) (G (uy ..) ?_);decide)) ?_
 refine G (Jc t3) ?_;have aH:(P.img bk).take ((off+ap)%48)++(x.drop ap).take (dp off x.length ap)++(P.img bk).drop ((off+ap)%48+dp off x.length ap)=gq (P.img bk) ((off+ap)%48) ((x.drop ap).take (dp off x.length ap)):=by unfold gq;(exact G ll rfl)
 have f4:(gq (P.img bk) ((off+ap)%48) ((x.drop ap).take (dp off x.length ap))).length=48:=(xE (by exact G ll (XS dl hp.1))).trans dl
 have BV:=ri.setIm (y:=bk) (x:=gq (P.img bk) ((off+ap)%48) ((x.drop ap).take (dp off x.length ap))) t3 f4 (cT aH c2);refine au (qu BV.to) (lS (BV.appT bk ce) (a3 f3 ?_));exact h _ fp (T++[bk]) _ (BV.addT bk) (X.fr.trans ((Fr.set ri.im rfl).trans (Fr.set BV.to rfl))) (G iz (cW _))
abbrev Oh(a2:lE)(to f off o ap:Nat)(mm:Loc):Prop:=mm=[(cu,.new a2.im),(iH,.new (a2.fd f)),(gT,.int off),(d2,.new o),(ey,.new to),(hC,.int ap)]\/ ∃a b c d,mm=[(cu,.new a2.im),(iH,.new (a2.fd f)),(gT,.int off),(d2,.new o),(ey,.new to),(hC,.int ap),(mI,a),(e4,b),(iY,c),(mJ,d)]
theorem aol{T:List Nat}(e:K[i]? =J (r,.list (T.map dz)))(ce:T.length<=4000)(s:bh):cI (.type "set") [.new i] (ao K)=J (.new K.length,ao (K++[(s,.set ((dd T).map dz))])):=by
 show((listAt (ao K) i).bind λl=>if eg (l.length<=4000)&&l.all isInt then J (L.new (ao K).length,ao K++[bt.set (rW l [])]) else ac)=_
 refine G (xh (d8 e) ..) ?_;show(if eg ((T.map dz).length<=4000)&&(T.map dz).all isInt then J (L.new (ao K).length,ao K++[bt.set (rW (T.map dz) [])]) else ac)=_
 refine G X0 (G (d0 ..) (G (decide_eq_true ce ..) ?_));have :=PQ (T:=T) (acc:=[]);rw [MS] at this;exact G this (G (nB (r:=s)) (G mo rfl))
theorem K9{Q:b3}(aa:dK a2 to ra fp P T K)(ce:T.length<=4000)(gI:P.nums.length<=100)(h:Q (.int P.nums.length) (ao (K++[(.x 0,.set ((dd T).map dz))]))):aF (cI (.type "set") [.new to] (ao K)) λnM eQ=>aF (cI (.builtin "len") [nM] eQ) λhd dr=>Q hd dr:=by
 have aQ:(dd T).length=P.nums.length:=by(exact G aa.nums rfl)
 refine a3 (aol aa.to ce (.x 0)) (a3 (aha c2 (G (d0 ..) (G (aQ ..) (fE (by lia))))) ?_)
 exact G (d0 ..) (G (aQ ..) h)
abbrev Ov(n c3:Nat)(mm:Loc)(H:an)(q:ez):Prop:=l3 False (λm H q=>ge False (aw (n+1)) (fD (bw (aW (bf 40)) 1) 0) (λH k=>bO False (aw (n+1)) (fD (bw (aW (bf 40)) 1) 0) ki m H k) ki m H q) (λm H q=>b1 False (aw (n+1)) (ei (bw (aW (bf 40)) 1)) ki m H q) c3 mm H q
abbrev ru(a2:lE)(to f off o n c3:Nat)(q:ez)(v a b c d:L)(H:an):Prop:=Ov n c3 [(cu,.new a2.im),(iH,.new (a2.fd f)),(gT,.int off),(d2,.new o),(ey,.new to),(hC,v),(mI,a),(e4,b),(iY,c),(mJ,d)] H q
theorem aqT{off o:Nat}{x:dI}(aq:f=1\/f=2)(aR:off+x.length<=96):∀(dn c3:Nat) {P:cR} {T:List Nat} {ap:Nat} {mm:Loc} {ra fp:Nat->Nat} {K:dB},dK a2 to ra fp P T K->K[o]? =J (.x 9,.list (x.map di))->et P->P.nums.length<=6->T.length+2*dn<=4000->Oh a2 to f off o ap mm->x.length<ap+dn->dn<=c3->ap<=x.length->
    (∀oR oD ml aX mm,dK a2 to oR oD (gy dn P f off x ap).2 ml aX->Fr tK K aX->ml.length<=T.length+2*dn->Oh a2 to f off o (gy dn P f off x ap).1 mm->q .next mm (ao aX))->
    Ov n c3 mm (ao K) q
 :=by
  intro dn;induction dn with
  |zero=>exact @λc3 P T ap mm ra fp K aa bX W hn ce bc ai ak bA h=>absurd ai (n9.mpr bA)
  |succ dn ih=>
   exact @λc3 P T ap mm ra fp K aa bX W hn ce bc ai ak bA h=>by
    rcases c3 with _|c3
    ·exact absurd ak (Vq dn)
    have oU:∀ {X Y:an->Prop},(ap<x.length/\P.nums.length<=4->Y (ao (K++[(.x 0,.set ((dd T).map dz))])))->(¬(ap<x.length/\P.nums.length<=4)->X (ao K)/\X (ao (K++[(.x 0,.set ((dd T).map dz))])))->
      aF (cI (.builtin "len") [.new o] (ao K)) λb9 cN=>aj (bW .Lt (.int ap) b9 cN) λeT=>bo .And eT (X cN) (aF (cI (.type "set") [.new to] cN) λnM eQ=>aF (cI (.builtin "len") [nM] eQ) λhd dr=>aF (a5 .Sub (L.int 8) hd dr) λi9 dN=>aj (bW .GtE i9 (L.int 4) dN) λpn=>bo .And pn (X dN) (Y dN)):=λ{X Y} IB f4=>by
     refine a3 (pE bX (w0 (by lia))) (G (d0 ..) (au (a:=eg ((ap:Int)<(x.length:Int))) rfl ?_))
     by_cases a:ap<x.length
     ·refine pj (decide_eq_true (mc.mpr ‹_›)) (K9 (Q:=λhd dr=>aF (a5 .Sub (L.int 8) hd dr) λi9 dN=>aj (bW .GtE i9 (L.int 4) dN) λpn=>bo .And pn (X dN) (Y dN)) aa (Nat.le_of_add_right_le ce) (cQ ‹_› (by decide)) (a3 (si (a:=8) (cQ ‹_› (by decide))) (au (a:=eg ((4:Int)<=((8 - P.nums.length:Nat):Int))) rfl ?_)))
      by_cases b:P.nums.length<=4
      ·exact pj (decide_eq_true (Xp b)) (IB ⟨a,b⟩)
      ·exact ot (decide_eq_false (by lia)) (f4 λz=>b z.2).2
     ·exact ot (decide_eq_false (GW a)) (f4 λz=>a z.1).1
    refine EY ?_;by_cases aD:ap<x.length/\P.nums.length<=4
    ·have hi:(off+ap)/48=0\/(off+ap)/48=1:=by exact th aR aD.1
     have tJ:=SH (off:=off) aD.1;have AK:dp off x.length ap<=x.length - ap:=ry _ _;have ek:gy (dn+1) P f off x ap=gy dn (jN P f off x ap) f off x (ap+dp off x.length ap):=aY aD;rw [ek] at h;have next:∀h0 hY e7 cp a b c d,dK a2 to h0 hY (jN P f off x ap) e7 cp->Fr tK K cp->e7.length<=T.length+2->
       ru a2 to f off o n c3 q (.int (ap+dp off x.length ap:Nat)) a b c d (ao cp):=λh0 hY e7 cp a b c d b5 dJ gn=>by
      have asr:=Bb (P:=P) (x:=x) aq hi;exact ih c3 b5 (dJ _ _ _ bX rfl) (W.pieceP aq hi) (by lia) (by lia) (.inr ⟨_,_,_,_,rfl⟩) (by lia) (by lia) (by lia) λoR oD ml aX mm' yX mM l' i7=>h oR oD ml aX mm' yX (dJ.trans mM) (by lia) i7
     have b6:=el.app K [(bh.x 0,bt.set ((dd T).map dz))];have body:∀ {N N':L->L->L->L->L->an->Prop},(∀h0 hY e7 cp a b c d,dK a2 to h0 hY (jN P f off x ap) e7 cp->Fr tK K cp->e7.length<=T.length+2->N (.int (ap+dp off x.length ap:Nat)) a b c d (ao cp)/\N' (.int (ap+dp off x.length ap:Nat)) a b c d (ao cp))->∀ {TL TL':L->L->an->Prop},
       (∀cp fj h0 hY e7 (b5:dK a2 to h0 hY fj e7 cp),cp[o]? =J (.x 9,.list (x.map di))->gG (cK (fj.fl f) ((off+ap)/48))->e7.length<=60000->p9 a2 to (putP fj (cK (fj.fl f) ((off+ap)/48)) ((off+ap)%48) ((x.drop ap).take (dp off x.length ap))) e7 1 cp (λH=>N (.int (ap+dp off x.length ap:Nat)) (.int ((off+ap)/48:Nat)) (.int ((off+ap)%48:Nat)) (.int (cK (fj.fl f) ((off+ap)/48):Nat)) (.int (dp off x.length ap:Nat)) H)->TL (.int ((off+ap)/48:Nat)) (.int ((off+ap)%48:Nat)) (ao cp))->
       (∀cp fj h0 hY e7 (b5:dK a2 to h0 hY fj e7 cp),cp[o]? =J (.x 9,.list (x.map di))->gG (cK (fj.fl f) ((off+ap)/48))->e7.length<=60000->p9 a2 to (putP fj (cK (fj.fl f) ((off+ap)/48)) ((off+ap)%48) ((x.drop ap).take (dp off x.length ap))) e7 1 cp (λH=>N' (.int (ap+dp off x.length ap:Nat)) (.int ((off+ap)/48:Nat)) (.int ((off+ap)%48:Nat)) (.int (cK (fj.fl f) ((off+ap)/48):Nat)) (.int (dp off x.length ap:Nat)) H)->TL' (.int ((off+ap)/48:Nat)) (.int ((off+ap)%48:Nat)) (ao cp))->
       aF (a5 .Add (.int off) (.int ap) (ao (K++[(.x 0,.set ((dd T).map dz))]))) λkP o1=>aF (a5 .FloorDiv kP (L.int 48) o1) λil jg=>aF (a5 .Add (.int off) (.int ap) jg) λso kg=>aF (a5 .Mod so (L.int 48) kg) λsp lC=>eq lC (.tup [il,sp]) λvQ lD=>kz vQ lD 2 λAR=>fP AR λiX Jv=>fP Jv λkQ ago=>aF (cj (.new (a2.fd f)) (.at_ (L.str eC)) lD) λmx hE=>aF (cj mx (.at_ iX) hE) λsq gD=>aj (bW .Eq sq (L.int 0) gD) λrT=>dU rT (aw (n+1) 891 [.new a2.im,.new to] gD λse iI=>aF (cj (.new (a2.fd f)) (.at_ (L.str eC)) iI) λiG fJ=>aj (fS iG (.at_ iX) se fJ) λiJ=>TL iX kQ iJ) (TL' iX kQ gD):=λ{N N'} nE {TL TL'} gm aey=>by
      refine a3 f3 (a3 (kr (c:=48) (by decide)) (a3 f3 (a3 (ks (c:=48) (by decide)) (gz (.x 0) (nR c2 rfl (hc (hc ?_)))))))
      have cc:=b6.trans (el.app _ [(.x 0,.tup [.int ((off+ap)/48:Nat),.int ((off+ap)%48:Nat)])]);have gg:=aa.ex cc;refine a3 (gg.pls aq) (a3 (hL (gg.fd f aq).2 (by lia) (vB hi)) (au (a:=((cK (P.fl f) ((off+ap)/48):Int)==0)) rfl ?_))
      by_cases bu:cK (P.fl f) ((off+ap)/48)=0
      ·refine jq (G bu rfl) (abr gg W.bmp (Ig aq hi bu) (by lia) λxw u7 oq gu fI f7 r8=>?_)
       refine a3 (fI.pls aq) (au (vI fI.z (fI.fd f aq).2 (aC rfl) (by show _<3;lia) (mQ rfl)) ?_)
       refine G (SL hi) ?_;have jf:=fI.setFp aq (eF (P.fl f) ((off+ap)/48) (cF (b2 P))) D7;have n3:=f7.trans (Fr.set (o':=lU (eF (P.fl f) ((off+ap)/48) (cF (b2 P)))) (fI.fd f aq).2 rfl);have ii:cK (upd (sj P).fl f (eF (P.fl f) ((off+ap)/48) (cF (b2 P))) f) ((off+ap)/48)=cF (b2 P):=by(exact G gd (G (Bc hi hi) (G (aY rfl) rfl)))
       refine gm _ _ xw u7 oq jf (n3 _ _ _ (cc _ _ _ bX) rfl) (G (show cK (({sj P with fl:=upd (sj P).fl f (eF (P.fl f) ((off+ap)/48) (cF (b2 P)))}:cR).fl f) ((off+ap)/48)=cF (b2 P) from ii) (qy _)) (by lia) λsf r1 ph kY h6 je pD=>(nE sf r1 ph kY _ _ _ _ ?_ (cc.fr.trans (n3.trans je)) (by lia)).1
       have kq:jN P f off x ap=putP {sj P with fl:=upd (sj P).fl f (eF (P.fl f) ((off+ap)/48) (cF (b2 P)))} (cK (({sj P with fl:=upd (sj P).fl f (eF (P.fl f) ((off+ap)/48) (cF (b2 P)))}:cR).fl f) ((off+ap)/48)) ((off+ap)%48) ((x.drop ap).take (dp off x.length ap)):=by
        have e:mn P f ((off+ap)/48)= {pQ P with fl:=upd P.fl f (eF (P.fl f) ((off+ap)/48) (cF (b2 P)))}:=aY bu
        unfold jN;refine G e ?_;show putP _ (cK (upd P.fl f (eF (P.fl f) ((off+ap)/48) (cF (b2 P))) f) ((off+ap)/48)) _ _=putP _ (cK (upd P.fl f (eF (P.fl f) ((off+ap)/48) (cF (b2 P))) f) ((off+ap)/48)) _ _
        refine G gd (G (Bc hi hi) (G (aY rfl) ?_));unfold putP pQ sj;dsimp only;(exact G afJ rfl)
       exact G kq h6
      ·refine g7 (by simp only [beq_eq_false_iff_ne,ne_eq];lia) ?_
       refine aey _ P ra fp T gg (cc _ _ _ bX) ((W.pl f aq _ hi).resolve_left bu) (by lia) λsf r1 ph kY h6 je pD=>(nE sf r1 ph kY _ _ _ _ ?_ (cc.fr.trans je) (by lia)).2
       have e:mn P f ((off+ap)/48)=P:=a8 bu;unfold jN;exact G e h6
     rcases bc with rfl|⟨a,b,c,d,rfl⟩
     ·refine TH (oU (X:=λH=>_) (Y:=λH=>_) (λ_=>?_) (λz=>absurd aD z))
      exact aqN (body (N:=ru a2 to f off o n c3 q) (N':=ru a2 to f off o n c3 q) (λh0 hY e7 cp a b c d b5 dJ gn=>⟨next h0 hY e7 cp a b c d b5 dJ gn,next h0 hY e7 cp a b c d b5 dJ gn⟩) (TL:=λa b H=>_) (TL':=λa b H=>_)
       (λcp fj h0 hY e7 b5 u3 j3 gn cJ=>Em (N:=λv c d H=>ru a2 to f off o n c3 q v (.int ((off+ap)/48:Nat)) (.int ((off+ap)%48:Nat)) c d H) aq hi b5 u3 j3 aD.1 (by lia) gn cJ) (λcp fj h0 hY e7 b5 u3 j3 gn cJ=>Em (N:=λv c d H=>ru a2 to f off o n c3 q v (.int ((off+ap)/48:Nat)) (.int ((off+ap)%48:Nat)) c d H) aq hi b5 u3 j3 aD.1 (by lia) gn cJ))
     ·refine TI (oU (X:=λH=>_) (Y:=λH=>_) (λ_=>?_) (λz=>absurd aD z))
      exact aqO (body (N:=ru a2 to f off o n c3 q) (N':=ru a2 to f off o n c3 q) (λh0 hY e7 cp a b c d b5 dJ gn=>⟨next h0 hY e7 cp a b c d b5 dJ gn,next h0 hY e7 cp a b c d b5 dJ gn⟩) (TL:=λa b H=>_) (TL':=λa b H=>_)
       (λcp fj h0 hY e7 b5 u3 j3 gn cJ=>Em (N:=λv c d H=>ru a2 to f off o n c3 q v (.int ((off+ap)/48:Nat)) (.int ((off+ap)%48:Nat)) c d H) aq hi b5 u3 j3 aD.1 (by lia) gn cJ) (λcp fj h0 hY e7 b5 u3 j3 gn cJ=>Em (N:=λv c d H=>ru a2 to f off o n c3 q v (.int ((off+ap)/48:Nat)) (.int ((off+ap)%48:Nat)) c d H) aq hi b5 u3 j3 aD.1 (by lia) gn cJ))
    ·have ek:gy (dn+1) P f off x ap=(ap,P):=a8 aD;rw [ek] at h;have ch:=h ra fp T K mm aa (.refl K) (by lia) bc
     have cd:=h ra fp T _ mm (aa.ex (.app K [(.x 0,.set ((dd T).map dz))])) (Fr.app _ _) (by lia) bc
     rcases bc with rfl|⟨a,b,c,d,rfl⟩
     ·exact TH (oU (X:=λH=>_) (Y:=λH=>_) (λz=>absurd z aD) λ_=>⟨ch,cd⟩)
     ·exact TI (oU (X:=λH=>_) (Y:=λH=>_) (λz=>absurd z aD) λ_=>⟨ch,cd⟩)
end
end
noncomputable def iD(n:Nat):Nat:=1+n%2
noncomputable def pM(n:Nat):Nat:=n/2/5%60
noncomputable def nK(n:Nat):List UInt8:=f9 (1+n/2/300%20) (hV (65+n/2/300%26))
def kv(P:cR)(n:Nat):cR:=if n/2%5=4 then q0 P (iD n) else(pT P (iD n) (pM n) (nK n)).2
def lZ(P:cR)(n:Nat):L:=if n/2%5=4 then .none else .int ((pT P (iD n) (pM n) (nK n)).1:Nat)
theorem Kh(n:Nat):iD n=1\/iD n=2:=by unfold iD;lia
theorem ai3(n:Nat):(nK n).length=1+n/2/300%20:=F5
theorem Kj(n:Nat):pM n+(nK n).length<=96:=by refine G (ai3 ..) ?_;unfold pM;exact XH n
section
variable {k:b3}{q:ez}
theorem ahL{a c:Nat}:cI (.builtin "max") [.int a,.int c] H=J (.int ((max a c:Nat):Int),H):=by
 show J (L.int (if(a:Int)<c then(c:Int) else a),H)=_
 congr 3
 split<;>lia
theorem abt{off o:Nat}{x:dI}(aq:f=1\/f=2)(aR:off+x.length<=96)(aa:dK a2 to ra fp P T K)(bX:K[o]? =J (.x 9,.list (x.map di)))(W:et P)(hn:P.nums.length<=6)(ce:T.length<=1000)
  (h:p9 a2 to (kO P f off x) T 200 K λH=>k (.int ((gy (x.length+1) P f off x 0).1:Nat)) H):aw (n+2) 898 [.new a2.im,.new (a2.fd f),.int off,.new o,.new to] (ao K) k:=by
 refine Y9 (agA ?_);refine aqT (ap:=0) aq aR (x.length+1) 1000 aa bX W hn (by lia) (.inl rfl) (by lia) (by lia) (hf _) λh0 hY e7 cp mm b5 dJ gn bc=>?_
 have hJ:kO P f off x=if 0<(gy (x.length+1) P f off x 0).1 then tA (gy (x.length+1) P f off x 0).2 f (off+(gy (x.length+1) P f off x 0).1) else(gy (x.length+1) P f off x 0).2:=rfl
 rw [hJ] at h;generalize gy (x.length+1) P f off x 0=R at *
 have j1:aj (bW .Gt (.int (R.1:Nat)) (L.int 0) (ao cp)) λHq=>dU Hq (aF (cj (.new (a2.fd f)) (.at_ (L.str dH)) (ao cp)) λLB FI=>aF (a5 .Add (.int off) (.int (R.1:Nat)) FI) λLC FJ=>aF (cI (.builtin "max") [LB,LC] FJ) λKO FK=>aj (fS (.new (a2.fd f)) (.at_ (L.str dH)) KO FK) λFL=>k (.int (R.1:Nat)) FL) (k (.int (R.1:Nat)) (ao cp)):=by
  refine au (a:=eg ((0:Int)<(R.1:Nat))) rfl ?_;by_cases bu:0<R.1
  ·rw [aY bu] at h;refine jq (decide_eq_true (mc.mpr ‹_›)) (a3 (b5.szs aq) (a3 f3 (a3 ahL (au (vH b5.z (b5.fd f aq).1 (aC rfl) rfl rfl) ?_))));refine G PV ?_;have gg:=b5.setFd aq (u:=hY f) (s:= {R.2.fl f with size:=max (R.2.fl f).size (off+R.1)}) (b5.fd f aq).2
   exact h h0 _ e7 _ gg (dJ.trans (Fr.set (b5.fd f aq).1 rfl)) (by lia)
  ·rw [a8 bu] at h;exact g7 (decide_eq_false (by lia)) (h h0 hY e7 cp b5 dJ (by lia))
 rcases bc with rfl|⟨a,b,c,d,rfl⟩
 ·exact W9 j1
 ·exact Xa j1
noncomputable def qC:L->Bool
 | .int a=>eg (0<a)
 |_=>aA
theorem ZR{v:L}:eu ub Fh (.one v) [] H=J [(nb,v)]:=by kernel_rfl
theorem ZS{v aJ:L}:eu ub Fh (.one v) [(nb,aJ)] H=J [(nb,v)]:=by kernel_rfl
theorem G2{a b c d e aB h i v:L}:eu pc Fg (.one v) [(cu,a),(ew,b),(fV,c),(ey,d),(bS,e),(sF,aB),(iH,h),(gC,i)] H=J [(cu,a),(ew,b),(fV,c),(ey,d),(bS,e),(sF,aB),(iH,h),(gC,i),(dQ,v)]:=by kernel_rfl
theorem ZF{a b c d e aB h i v aJ:L}:eu pc Fg (.one v) [(cu,a),(ew,b),(fV,c),(ey,d),(bS,e),(sF,aB),(iH,h),(gC,i),(dQ,aJ)] H=J [(cu,a),(ew,b),(fV,c),(ey,d),(bS,e),(sF,aB),(iH,h),(gC,i),(dQ,v)]:=by kernel_rfl
theorem Di{x:Nat}{Q:an->Prop}(aO:gG x)(aa:dK a2 to ra fp P T K)(hb:hW (P.img 13) x=1)(ce:T.length<=50000)(h:p9 a2 to (dL P x) T 1 K Q):
  aF (cj (.new a2.im) (.at_ (L.int 13)) (ao K)) λBx y3=>aF (a5 .FloorDiv (.int x) (L.int 8) y3) λBy y5=>aF (cj Bx (.at_ By) y5) λBz y6=>aF (a5 .Mod (.int x) (L.int 8) y6) λLM FQ=>aF (a5 .LShift (L.int 1) LM FQ) λBA y7=>aF (a5 .Sub Bz BA y7) λBB y8=>aF (cj (.new a2.im) (.at_ (L.int 13)) y8) λLN FR=>aF (a5 .FloorDiv (.int x) (L.int 8) FR) λLO y9=>aj (fS LN (.at_ LO) BB y9) λup=>aj (bx (.new to) l4 up) λHH=>bB False (aw n) HH [(L.int 13)] up λanE za=>Q za:=by
 unfold gG at aO;have dl:=aa.len 13 lM;have w3:(P.img 13)[x/8]? =J ((P.img 13)[x/8]?.getD 0):=G (iy (uN aO.2 dl)) rfl;have Dm:((P.img 13).map di)[x/8]? =J (.int (((P.img 13)[x/8]?.getD 0).toNat:Nat)):=G kZ (G w3 rfl);have le:2^(x%8)<=((P.img 13)[x/8]?.getD 0).toNat:=TC _ (rN _) _ (jo _ (by decide)) hb
 refine a3 (hL (p:=13) aa.im (by decide) (aa.row (by decide))) (a3 (kr (a:=x) (c:=8) (by decide)) (a3 (hL (aa.ir 13 lM (by decide)) (CL aO.2) Dm) (a3 (ks (a:=x) (c:=8) (by decide)) (a3 (Lb (c:=x%8) (by lia)) (a3 (si le) ?_)))))
 refine a3 (hL (p:=13) aa.im (by decide) (aa.row (by decide))) (a3 (kr (a:=x) (c:=8) (by decide)) (au (vI aa.z (aa.ir 13 lM (by decide)) (aC rfl) (G (d0 ..) (place_lt w3)) (by refine G (d0 ..) ?_;lia)) ?_))
 have H3:((P.img 13).map di).set (x/8) (.int ((((P.img 13)[x/8]?.getD 0).toNat - 2^(x%8):Nat):Int))=(i8 (P.img 13) x).map di:=by
  unfold i8;refine G MT ?_;congr 1
  show _=L.int ((hV _).toNat:Int)
  (exact G CJ (G (Ck (eI (sU _ _) (rN _))) rfl))
 refine G H3 ?_;have gg:=aa.setIr (y:=13) (x:=i8 (P.img 13) x) (by decide) lM (by unfold i8;exact G zp dl)
 refine au (qu gg.to) (lS (gg.appT 13 (by lia)) ?_)
 have kq:dL P x= {P with img:=upd P.img 13 (i8 (P.img 13) x),nums:=dT 13 P.nums}:=a8 (Nat.ne_zero_of_lt aO.1)
 rw [kq] at h;exact h ra fp (T++[13]) _ (gg.addT 13) ((Fr.set (aa.ir 13 lM (by decide)) rfl).trans (Fr.set gg.to rfl)) (G iz (cW _))
theorem P0{RW:L}{Q:an->Prop}(aq:f=1\/f=2)(j0:RW=.int f)(aa:dK a2 to ra fp P T K)(ce:T.length<=50000)(h:p9 a2 to (qW P f) T 1 K Q):
  aj (bx (.new to) l4 (ao K)) λHA=>aF (cj (.new (a2.fd f)) (.at_ (L.str eC)) (ao K)) λBv y2=>aF (cj (.new (a2.fd f)) (.at_ (L.str dH)) y2) λBw uo=>aw (n+2) 881 [.new a2.im,RW,Bv,Bw] uo λKV FO=>bB False (aw (n+2)) HA [KV] FO λS1 kX=>Q kX:=by
 subst j0;refine au (qu aa.to) (a3 (aa.pls aq) (a3 (aa.szs aq) (abq aa aq λh0 hY e7 cp b5 dJ gn=>lS (b5.appT (fq f) (by lia)) ?_)))
 exact h h0 hY (e7++[fq f]) _ (b5.addT (fq f)) (dJ.trans (Fr.set b5.to rfl)) (by refine G iz ?_;show e7.length+1<=_;exact wm gn 1)
theorem abu(aa:dK a2 to ra fp P T K)(W:et P)(hn:P.nums.length<=6)(ce:T.length<=900)(h:p9 a2 to (kv P m) T 300 K λH=>k (lZ P m) H):aw (n+3) 903 [.new a2.im,.new a2.fs,.int m,.new to] (ao K) k:=by
 have aq:=Kh m;have e1:(1+m%2:Nat)=iD m:=rfl;refine Za (a3 (ks (a:=m) (c:=2) (by decide)) (a3 (f3 (a:=1)) (a3 (kr (a:=m) (c:=2) (by decide)) (gz (.x 0) (nR c2 rfl (hc (hc ?_)))))))
 refine G e1 ?_;have qr:=el.app K [(.x 0,.tup [.int (iD m:Nat),.int (m/2:Nat)])];have b5:=aa.ex qr;have lk:([.new (a2.fd 1),.new (a2.fd 2)]:List L)[iD m - 1]? =J (.new (a2.fd (iD m))):=by rcases aq with e|e<;>(refine G e ?_)<;>rfl
 refine a3 (si (a:=iD m) (c:=1) (zw e1)) (a3 (hL b5.fs (XG e1) lk) (gz (.x 0) (nR c2 rfl (hc (hc ?_)))));have GP:=qr.trans (el.app _ [(.x 0,.tup [.new (a2.fd (iD m)),.none])]);have gg:=aa.ex GP;refine a3 (ks (a:=m/2) (c:=5) (by decide)) (au (a:=(((m/2%5:Nat):Int)==4)) rfl ?_)
 by_cases bA:m/2%5=4
 ·refine jq (G bA rfl) ?_;have kq:kv P m=q0 P (iD m):=aY bA;have u2:lZ P m=.none:=aY bA;rw [kq,u2] at h;generalize iD m=f at *
  refine cz (W.give aq (ix:=0) (.inl rfl)) λwL E6=>cz (wL.give aq (ix:=1) (.inr rfl)) λwM jd=>?_
  have Ai:({dL P (cK (P.fl f) 0) with fl:=upd P.fl f (eF (P.fl f) 0 0)}:cR).fl f=eF (P.fl f) 0 0:=gd
  rw [Ai] at jd;have SQ:(P.fl f).p0=0\/gG (P.fl f).p0:=W.pl f aq 0 (.inl rfl);have aM:(P.fl f).p1=0\/gG (P.fl f).p1:=W.pl f aq 1 (.inr rfl);have hH:(P.fl f).p0≠0->hW (P.img 13) (P.fl f).p0=1:=E6;have fy:(P.fl f).p1≠0->hW ((dL P (P.fl f).p0).img 13) (P.fl f).p1=1:=jd;refine a3 (gg.pls aq) (pH (gg.fd f aq).2 (wV (items:=[.int (P.fl f).p0,.int (P.fl f).p1,.int (0:Nat)]) (P:=λm=>m=[]\/ ∃v,m=[(nb,v)]) (mm:=λv=>[(nb,v)]) (c:=qC) (f:=id)
   (λp=>by unfold itemAt;simp only [d8 (gg.fd f aq).2]) (λv m bc=>by rcases bc with rfl|⟨u,rfl⟩;exact ZR;exact ZS) (λv=>.inr ⟨v,rfl⟩) (λv hv q cJ=>?_) (λv hv _ q cJ=>acO cJ) 1000 0 _ [] (.inl rfl) (mQ rfl) (hf _) ?_))
  ·have :∃x:Nat,v=.int x:=by
    simp only [fw,jl,or_false] at hv;rcases hv with rfl|rfl|rfl<;>exact⟨_,rfl⟩
   refine cm this λx al8=>?_;obtain rfl:=al8
   refine ads (au rfl ?_);have ig:eg ((0:Int)<(x:Int))=qC (.int x):=rfl;refine G ig ?_;cases e:qC (.int x)
   ·rw [e] at cJ;exact g7 rfl cJ
   ·rw [e] at cJ;exact jq rfl cJ
  ·refine G (zs ..) (G (zm ..) (G (List.map_id ..) ?_));have cq:∀ {mm:Loc} {gu:dB} {xw u7:Nat->Nat} {oq:List Nat},dK a2 to xw u7 (dL (dL P (P.fl f).p0) (P.fl f).p1) oq gu->Fr tK K gu->oq.length<=T.length+2->
     eq (ao gu) (.list [(L.int 0),(L.int 0),(L.int 0)]) λBC zb=>eq zb (.tup [BC,(L.int 0)]) λBD uq=>kz BD uq 2 λAT=>fP AT λLP Jy=>aj (fS (.new (a2.fd f)) (.at_ (L.str eC)) LP uq) λur=>fP Jy λBE agC=>aj (fS (.new (a2.fd f)) (.at_ (L.str dH)) BE ur) λB0=>aj (bx (.new to) l4 B0) λabz=>aF (cj (.new (a2.fd f)) (.at_ (L.str eC)) B0) λaqu UC=>aF (cj (.new (a2.fd f)) (.at_ (L.str dH)) UC) λapX UD=>aw (n+2) 881 [.new a2.im,.int (f:Nat),aqu,apX] UD λSR Fq=>bB False (aw (n+2)) abz [SR] Fq λas1 Fs=>k .none Fs:=λ{mm gu xw u7 oq} fI f7 r8=>by
    have adH:(dL (dL P (P.fl f).p0) (P.fl f).p1).fl=P.fl:=Dh.trans Dh;generalize hP2:dL (dL P (P.fl f).p0) (P.fl f).p1=P2 at *
    refine gz (.fp f) (gz (.x 0) (nR c2 rfl (hc ?_)));have aP:(gu++[(bh.fp f,bt.list [L.int 0,L.int 0,L.int 0])])[gu.length]? =J (.fp f,lU ⟨0,0,(P.fl f).size⟩):=c2;have Oy:=(el.app gu [(bh.fp f,bt.list [L.int 0,L.int 0,L.int 0])]).trans (el.app _ [(.x 0,.tup [.new gu.length,.int 0])]);have jf:=fI.ex Oy;refine au (vH jf.z (jf.fd f aq).1 (aC rfl) rfl rfl) (hc ?_);refine G acw ?_;have h6:=jf.setFd aq (u:=gu.length) (s:=⟨0,0,(P2.fl f).size⟩) (cf aP);refine au (vH h6.z (h6.fd f aq).1 (aC rfl) rfl rfl) (G PV ?_);have qB:=h6.fd f aq;have rh:=h6.setFd aq (u:=upd u7 f gu.length f) (s:=⟨0,0,0⟩) (by
     have :=qB.2;rw [show({P2 with fl:=upd P2.fl f ⟨0,0,(P2.fl f).size⟩}:cR).fl f=⟨0,0,(P2.fl f).size⟩ from gd] at this
     exact this)
    have Ah:upd (upd P2.fl f ⟨0,0,(P2.fl f).size⟩) f ⟨0,0,0⟩=upd P.fl f ⟨0,0,0⟩:=by refine G adH ?_;funext y;unfold upd;split<;>rfl
    rw [Ah] at rh;have Af:q0 P f=qW {P2 with fl:=upd P.fl f ⟨0,0,0⟩} f:=by unfold q0;(exact G (hP2 ..) rfl)
    rw [Af] at h;exact P0 aq rfl rh (by lia) λanJ adO Wn FV Fo Fn asU=>h anJ adO Wn FV Fo (f7.trans (Oy.fr.trans ((Fr.set (jf.fd f aq).1 rfl).trans ((Fr.set qB.1 rfl).trans Fn)))) (by lia)
   refine gz (.x 8) (pH c2 ?_);have fI:=gg.ex (el.app _ [(.x 8,.list (([.int (P.fl f).p0,.int (P.fl f).p1,.int (0:Nat)]:List L).filter qC))]);have f7:Fr tK K _:=(GP.trans (el.app _ [(.x 8,.list (([.int (P.fl f).p0,.int (P.fl f).p1,.int (0:Nat)]:List L).filter qC))])).fr;have Dl:∀ {x:Nat},¬x=0->qC (.int x)=ae:=λ{x} aO=>decide_eq_true (by lia)
   have u8:qC (.int (0:Nat))=aA:=rfl;by_cases q6:(P.fl f).p0=0
   ·have yL:dL P (P.fl f).p0=P:=aY q6;rw [yL] at fy cq;by_cases gs:(P.fl f).p1=0
    ·have bE:dL P (P.fl f).p1=P:=aY gs;rw [bE] at cq;rw [q6,gs] at fI f7⊢;exact mr (qM c2 (cW 0)) (Xb (cq (mm:=[]) fI f7 (k4 T.length 2)))
    ·have ek:([.int (P.fl f).p0,.int (P.fl f).p1,.int (0:Nat)]:List L).filter qC=[.int (P.fl f).p1]:=by exact G kE (G kE (G kE (G (Dl gs) (G u8 (G q6 (G u8 rfl))))))
     rw [ek] at fI f7⊢;refine iQ (nG c2 rfl) G2 (EW (Di (Q:=λH=>_) (aM.resolve_left gs) fI (fy gs) (by lia) λsf r1 ph kY h6 je pD=>?_))
     exact mr (qM (je _ _ _ c2 rfl) (cW 1)) (GS (cq (mm:=[]) h6 (f7.trans je) (uC pD)))
   ·by_cases gs:(P.fl f).p1=0
    ·have bE:dL (dL P (P.fl f).p0) (P.fl f).p1=dL P (P.fl f).p0:=aY gs;rw [bE] at cq;have ek:([.int (P.fl f).p0,.int (P.fl f).p1,.int (0:Nat)]:List L).filter qC=[.int (P.fl f).p0]:=G kE (G kE (G kE (G (Dl q6) (G u8 (G gs (G u8 rfl))))));rw [ek] at fI f7⊢;refine iQ (nG c2 rfl) G2 (EW (Di (Q:=λH=>_) (SQ.resolve_left q6) fI (hH q6) (by lia) λsf r1 ph kY h6 je pD=>?_))
     exact mr (qM (je _ _ _ c2 rfl) (cW 1)) (GS (cq (mm:=[]) h6 (f7.trans je) (uC pD)))
    ·have ek:([.int (P.fl f).p0,.int (P.fl f).p1,.int (0:Nat)]:List L).filter qC=[.int (P.fl f).p0,.int (P.fl f).p1]:=by exact G kE (G kE (G kE (G (Dl q6) (G (Dl gs) (G u8 rfl)))))
     rw [ek] at fI f7⊢;refine iQ (nG c2 rfl) G2 (EW (Di (Q:=λH=>_) (SQ.resolve_left q6) fI (hH q6) (by lia) λsf r1 ph kY h6 je pD=>?_))
     refine iQ (nG (je _ _ _ c2 rfl) rfl) ZF (EW (Di (Q:=λH=>_) (aM.resolve_left gs) h6 (fy gs) (by lia) λas7 asC ast FU rh we Ri=>?_))
     exact mr (qM (we _ _ _ (je _ _ _ c2 rfl) rfl) (cW 2)) (GS (cq (mm:=[]) rh (f7.trans (je.trans we)) (by lia)))
 ·refine g7 (by simp only [beq_eq_false_iff_ne,ne_eq];lia) ?_
  have kq:kv P m=(pT P (iD m) (pM m) (nK m)).2:=a8 bA;have u2:lZ P m=.int ((pT P (iD m) (pM m) (nK m)).1:Nat):=a8 bA;rw [kq,u2,L5] at h;refine a3 (kr (a:=m/2) (c:=300) (by decide)) (a3 (ks (a:=m/2/300) (c:=26) (by decide)) (a3 (f3 (a:=65)) (gz (.x 0) (a3 (kr (a:=m/2) (c:=300) (by decide)) (a3 (ks (a:=m/2/300) (c:=20) (by decide)) (a3 (f3 (a:=1)) (a3 (KZ c2 (by show 1*_<=1000;lia) (by lia) (.x 9)) ?_)))))))
  refine G Ii ?_;have Ag:f9 (1+m/2/300%20) (L.int ((65+m/2/300%26:Nat):Int))=(nK m).map di:=by
   unfold nK;refine G List.map_replicate ?_;congr 1
   show _=L.int ((hV _).toNat:Int)
   have H2:(65+m/2/300%26)%2^8=65+m/2/300%26:=Ck (by lia)
   (exact G CJ (G H2 rfl))
  refine G Ag ?_;have tf:=(GP.trans (el.app _ [(.x 0,.list [.int ((65+m/2/300%26:Nat):Int)])])).trans (el.app _ [(.x 9,.list ((nK m).map di))]);have fI:=aa.ex tf;refine a3 (kr (a:=m/2) (c:=5) (by decide)) (a3 (ks (a:=m/2/5) (c:=60) (by decide)) ?_)
  exact abt (off:=pM m) aq (Kj m) fI c2 W hn (by lia) λS4 Qi te jR jf n3 DR=>P0 (n:=n) aq rfl jf (by lia) λsf r1 ph kY h6 je pD=>h sf r1 ph kY h6 (tf.fr.trans (n3.trans je)) (by lia)
end
section
variable {m:Loc}
def lB:aU:=(j8 (fD (bw (aW (bf 44)) 9) 0) 0)
def Fj:aU:=vO lB
def p5:ds:=gF (dO (bf 44)).names (vG lB).names
theorem acP{n:Nat}{ev b0 bC:L}{q:b3}(h:let C:=aw n;q bC H):bO False (aw n) (j8 lB 0) p5 [(dP,ev),(cu,b0),(bS,bC)] H q:=bZ (by kernel_rfl) h
theorem adt{n:Nat}{ev b0 bC:L}{q:Bool->an->Prop}(h:let C:=aw n;aj (bW .LtE (L.int 2) bC H) λHb=>dU Hb (aj (bW .Lt bC (L.int 11) H) λaaE=>bo .And (!aaE) (q aA H) (aj (bx ev (z "read") H) λHc=>bB False C Hc [bC] H λKA Fv=>aF (cj b0 (.at_ bC) Fv) λLs Fw=>aF (cI (.type "bytes") [Ls] Fw) λKB ug=>aj (bW .NotEq KA KB ug) λHe=>bo .And He (q aA ug) (q ae ug))) (aj (bx ev (z "read") H) λaaG=>bB False C aaG [bC] H λanr UY=>aF (cj b0 (.at_ bC) UY) λaqk UZ=>aF (cI (.type "bytes") [aqk] UZ) λans Fx=>aj (bW .NotEq anr ans Fx) λaaH=>bo .And aaH (q aA Fx) (q ae Fx))):jb False (aw n) (m0 lB) p5 [(dP,ev),(cu,b0),(bS,bC)] H q:=bZ (by kernel_rfl) h
def Jh(e:aU):aU:=(Iu e).iter
def ajm(e:aU):Pos:=iP e jQ (kListComp:=λ_ _ _ p=>p)
theorem L3{ax:ds}{k:b3}{dW dq iter:aU}{eU:List aU}{sc:jA}{pos:Pos}:bO False C (.ListComp dW [⟨dq,iter,eU,0⟩] sc pos) ax m H k=
 (if z9 ax sc dq then sw False C iter (λH k=>bO False C iter ax m H k) ax m H λs H=>jX False (gF ax sc.names) dq (λm H q=>jb False C eU (gF ax sc.names) m H q) (λm H q=>bO False C dW (gF ax sc.names) m H q) s f6 0 (oy (gF ax sc.names) m) H [] λvs H=>k (.new H.length) (H++[.list vs]) else False):=by rfl
theorem anW{ax:ds}{K:ez}{e:aU}{ct:List cD}{p1 p2 ka:Pos}:b1 False C (.Return (J (.Compare e [.Eq] [.List [] p1] p2)) ka::ct) ax m H K=
 bO False C e ax m H (λv H=>eq H (.list []) λw H=>aj (bW .Eq v w H) λc=>K (.ret (.bool c)) m H):=by kernel_rfl
theorem aoN:∃p1 p2 ka,bw (aW (bf 44)) 9=.Return (J (.Compare lB [.Eq] [.List [] p1] p2)) ka:=⟨_,_,_,rfl⟩
theorem acH:lB=.ListComp (j8 lB 0) [⟨vO lB,Jh lB,m0 lB,0⟩] (vG lB) (ajm lB):=by kernel_rfl
theorem anG{k:kJ->an->Prop}:sw False C (Jh lB) (λH k=>bO False C (Jh lB) lF m H k) lF m H k=aj (lV [L.int 22]) λl=>k (.items l) H:=by kernel_rfl
theorem Zd{bV:Loc}{k:b3}(hJ:oy p5 m=bV)(h:aj (lV [L.int 22]) λagB=>jX False p5 Fj (λm H q=>jb False C (m0 lB) p5 m H q) (λm H q=>bO False C (j8 lB 0) p5 m H q) (.items agB) f6 0 bV H [] λAT FS=>eq FS (.list AT) λLQ ur=>eq ur (.list []) λBE BZ=>aj (bW .Eq LQ BE BZ) λaby=>k (L.bool aby) BZ):
  b1 False C ((aW (bf 44)).drop 9) lF m H (dM k):=by
 refine asb aoN λp1 p2 ka e=>?_
 have acG:(aW (bf 44)).drop 9=bw (aW (bf 44)) 9::[]:=by kernel_rfl
 refine G acG (G e (G anW (G acH (G L3 (G (aY (by kernel_rfl)) ?_)))))
 refine bZ (anG (m:=m)).symm ?_;subst hJ;exact h
end
section
variable {x:dI}
theorem RC{n:Nat}(h:x.length<=ap):gy n P f off x ap=(ap,P):=by
 induction n using n7 with
 |zero=>rfl
 |succ n=>exact a8 (λz=>by lia)
theorem ahv(aq:f=1\/f=2)(aR:off+x.length<=96)(h:x.length - ap<=48 - (off+ap)%48):(gy n P f off x ap).2.nums.length<=P.nums.length+2:=by
 induction n using n7 with
 |zero=>exact k4 _ _
 |succ n=>
  refine G DX ?_;split
  ·rename_i aD;have e:dp off x.length ap=x.length - ap:=Gc h;exact G (RC (OI e)) (Bb aq (th aR aD.1))
  ·exact k4 _ _
theorem agM{off ap len p:Nat}(aR:off+len<=96)(e:p=48 - (off+ap)%48):len - (ap+p)<=48 - (off+(ap+p))%48:=by
 have bc:=jo (off+ap) (show 0<48 by decide)
 have bA:=Nat.div_add_mod (off+ap) 48;have z:off+(ap+p)=48*((off+ap)/48+1):=by
  rw [e,Nat.mul_add,<-zu];generalize(off+ap)/48=q at *
  generalize(off+ap)%48=r at *
  clear aR e p;exact Xr bc bA
 have j2:48<=off+(ap+p):=by rw [z];exact Nat.le_mul_of_pos_right 48 (Nat.succ_pos _)
 rw [z,Nat.mul_mod_right];exact Xx aR j2
theorem ahw(aq:f=1\/f=2)(aR:off+x.length<=96):(gy n P f off x ap).2.nums.length<=P.nums.length+4:=by
 induction n using n7 with
 |zero=>exact k4 _ _
 |succ n=>
  refine G DX ?_;split
  ·rename_i aD;have a2:=Bb (P:=P) (x:=x) (off:=off) (ap:=ap) aq (th aR aD.1);by_cases q:x.length - ap<=48 - (off+ap)%48
   ·have e:dp off x.length ap=x.length - ap:=Gc q;refine G (RC (OI e)) ?_;show(jN P f off x ap).nums.length<=_;lia
   ·have e:dp off x.length ap=48 - (off+ap)%48:=pe (Nat.le_of_not_ge q);have :=ahv (n:=n) (P:=jN P f off x ap) (ap:=ap+dp off x.length ap) aq aR (agM aR e);exact cQ this (wm a2 2)
  ·exact k4 _ _
structure hS(P:cR):Prop where
 ok:∀y∈P.nums,gY y/\y<22
theorem hS.add{l:List Nat}{y:Nat}(h:∀z∈l,gY z/\z<22)(hy:gY y/\y<22):∀z∈dT y l,gY z/\z<22:=λz hz=>by
 rcases xk.mp hz with rfl|hz
 ·exact hy
 ·exact h z hz
theorem PM{y:Nat}(h:gG y):gY y/\y<22:=by unfold gG at h;exact⟨.inr (Ch h.1),by lia⟩
theorem Sy:gY 13/\13<22:=⟨lM,by decide⟩
theorem hS.piece(N:hS P)(W:et P)(aq:f=1\/f=2)(hi:(off+ap)/48=0\/(off+ap)/48=1):hS (jN P f off x ap):=by
 refine⟨hS.add ?_ (PM (W.blkP aq hi).2)⟩;unfold mn;split
 ·exact hS.add (hS.add N.ok Sy) (PM (qy _))
 ·exact N.ok
theorem hS.loop(aq:f=1\/f=2)(aR:off+x.length<=96):∀(n:Nat) {P:cR} {ap:Nat},hS P->et P->hS (gy n P f off x ap).2
 |0,P,ap,N,W=>N
 |n+1,P,ap,N,W=>by
  refine G DX ?_;split
  ·rename_i aD;exact hS.loop aq aR n (N.piece W aq (th aR aD.1)) (W.pieceP aq (th aR aD.1))
  ·exact N
theorem an3(aq:f=1\/f=2):gY (fq f)/\fq f<22:=⟨(D6 aq).1,(D6 aq).2.1⟩
theorem hS.rowP(N:hS P)(aq:f=1\/f=2):hS (qW P f):=⟨hS.add N.ok (an3 aq)⟩
theorem hS.give(N:hS P)(y:Nat):hS (dL P y):=by
 unfold dL;split
 ·exact N
 ·exact⟨hS.add N.ok Sy⟩
theorem et.sized(W:et P){aB:Nat->jx}{v:Nat}(hv:v<1000)(bj:∀y,(aB y).p0=(P.fl y).p0/\(aB y).p1=(P.fl y).p1/\((aB y).size=(P.fl y).size\/(aB y).size=v)){img:Nat->List UInt8}{D4:List Nat}(hi:img 13=P.img 13):et ⟨img,aB,D4⟩:=by
 have E:∀y c4,cK (aB y) c4=cK (P.fl y) c4:=λy c4=>by unfold cK;(exact G ((bj y).1) (G ((bj y).2.1) rfl))
 refine⟨?_,λy hy c4 cY=>by show cK (aB y) c4=0\/gG (cK (aB y) c4);refine G (E ..) ?_;exact W.pl y hy c4 cY,λy hy=>?_,λy hy c4 cY eO aft oH qG gX bl=>?_⟩
 ·show img 13=ga (b2 ⟨img,aB,D4⟩)
  refine G hi (G W.bmp ?_);unfold b2;(exact G ((bj 1).1) (G ((bj 1).2.1) (G ((bj 2).1) (G ((bj 2).2.1) rfl))))
 ·show(aB y).size<1000
  rcases(bj y).2.2 with e|e
  ·exact G e (W.sz y hy)
  ·exact G e hv
 ·show cK (aB y) c4=0
  have ve:cK (aB y) c4=cK (aB eO) oH:=bl;rw [E] at ve⊢;rw [E] at ve;exact W.dj y hy c4 cY eO aft oH qG gX ve
theorem key{A B:cR}(x:Nat)(e:A.img 13=B.img 13):(dL A x).img 13=(dL B x).img 13:=by
 unfold dL;split
 ·exact e
 ·show upd A.img 13 (i8 (A.img 13) x) 13=upd B.img 13 (i8 (B.img 13) x) 13
  exact G e (gd.trans gd.symm)
theorem Ki{m:Nat}(W:et P)(N:hS P):et (kv P m)/\hS (kv P m)/\fq (iD m)∈(kv P m).nums/\(kv P m).nums.length<=max (P.nums.length+5) 7/\(P.nums.length<=5->(kv P m).nums.length<=8)/\(P.nums.length=0->(kv P m).nums.length<=5):=by
 have aq:=Kh m;unfold kv;split
 ·generalize iD m=f at *
  have Af:q0 P f=qW {dL (dL P (P.fl f).p0) (P.fl f).p1 with fl:=upd P.fl f ⟨0,0,0⟩} f:=rfl
  refine G Af ?_;obtain⟨wL,-⟩:=W.give aq (ix:=0) (.inl rfl);obtain⟨wM,-⟩:=wL.give aq (ix:=1) (.inr rfl);have Ai:({dL P (cK (P.fl f) 0) with fl:=upd P.fl f (eF (P.fl f) 0 0)}:cR).fl f=eF (P.fl f) 0 0:=gd
  rw [Ai] at wM;have gn:=Dj (P:=P) (x:=(P.fl f).p0);have fY:=Dj (P:=dL P (P.fl f).p0) (x:=(P.fl f).p1);have r8:=uO (x:=fq f) (l:=(dL (dL P (P.fl f).p0) (P.fl f).p1).nums);have WO:et {dL (dL P (P.fl f).p0) (P.fl f).p1 with fl:=upd P.fl f ⟨0,0,0⟩}:=by
   refine wM.sized (v:=0) (by decide) (λy=>?_) ?_
   ·show(upd P.fl f ⟨0,0,0⟩ y).p0=(upd (upd P.fl f (eF (P.fl f) 0 0)) f (eF (eF (P.fl f) 0 0) 1 0) y).p0/\(upd P.fl f ⟨0,0,0⟩ y).p1=(upd (upd P.fl f (eF (P.fl f) 0 0)) f (eF (eF (P.fl f) 0 0) 1 0) y).p1/\((upd P.fl f ⟨0,0,0⟩ y).size=(upd (upd P.fl f (eF (P.fl f) 0 0)) f (eF (eF (P.fl f) 0 0) 1 0) y).size\/(upd P.fl f ⟨0,0,0⟩ y).size=0)
    by_cases q:y=f
    ·subst q;exact G gd (G gd (⟨rfl,rfl,.inr rfl⟩))
    ·exact G (iW q) (G (iW q) (G (iW q) (⟨rfl,rfl,.inl rfl⟩)))
   ·show(dL (dL P (P.fl f).p0) (P.fl f).p1).img 13=(dL {dL P (cK (P.fl f) 0) with fl:=upd P.fl f (eF (P.fl f) 0 0)} (cK (eF (P.fl f) 0 0) 1)).img 13
    exact key _ rfl
  refine⟨WO.rowP aq,hS.rowP (P:= {dL (dL P (P.fl f).p0) (P.fl f).p1 with fl:=upd P.fl f ⟨0,0,0⟩}) ⟨((N.give _).give _).ok⟩ aq,xk.mpr (.inl rfl),?_,λh=>?_,λh=>?_⟩
  ·show(dT (fq f) (dL (dL P (P.fl f).p0) (P.fl f).p1).nums).length<=_;exact XE gn fY r8
  ·show(dT (fq f) (dL (dL P (P.fl f).p0) (P.fl f).p1).nums).length<=_;lia
  ·show(dT (fq f) (dL (dL P (P.fl f).p0) (P.fl f).p1).nums).length<=_;lia
 ·have aR:=Kj m;refine G L5 ?_;generalize iD m=f at *
  generalize nK m=x at *
  generalize pM m=off at *
  obtain⟨a,b⟩:=RG aq W aR;have j0:(kO P f off x).nums=(gy (x.length+1) P f off x 0).2.nums:=by unfold kO;split<;>rfl
  have DR:=ahw (P:=P) (n:=x.length+1) (ap:=0) aq aR;have pD:=uO (x:=fq f) (l:=(kO P f off x).nums);rw [j0] at pD;refine⟨a.rowP aq,hS.rowP ⟨G j0 ((hS.loop aq aR _ N W).ok)⟩ aq,xk.mpr (.inl rfl),?_,λh=>?_,λh=>?_⟩
  ·show(dT (fq f) (kO P f off x).nums).length<=_;exact G j0 (XF DR pD)
  ·have :=b (uC h);rw [j0] at this;show(dT (fq f) (kO P f off x).nums).length<=_;refine G j0 ?_;lia
  ·show(dT (fq f) (kO P f off x).nums).length<=_;refine G j0 ?_;lia
end
section
variable {k:b3}{q:ez}
theorem abw(S:bP A al re K)(hn:re.nums=[])(aD:re.calls=2)(h:k (.bool aA) (ao K)):aw (n+1) 917 [.new A.j] (ao K) k:=by
 have e:xA (ao K) (.new A.j)=J ae:=by
  show((ao K)[A.j]?).bind _=_
  rw [d8 S.j];show(listAt (ao K) re.ns).bind _=_
  unfold listAt;rw [d8 S.ns,hn,aD];rfl
 show cond (ae&&(xA (ao K) (.new A.j)).getD aA) _ _
 rw [e];exact h
theorem S7{v:UInt8}:∀c,bR (f9 c (di v))=J (f9 c v)
 |0=>rfl
 |c+1=>by
  refine G Cc (G Cc ?_);unfold bR;refine G (S7 c) ?_;show(match oL (.int (v.toNat:Int)),_ with |J c,J r=>J (c::r)|_,_=>ac)=_
  (exact G (vz (rN v)) (G UInt8.ofNat_toNat rfl))
theorem abv{gp:Nat}(aa:eS A b7 cO al re P K)(W:et P)(hn:P.nums.length<=5)(Da:K[gp]? =J (.x 10,.list [.new (b7 1),.new (b7 2)]))(h:op A b7 re K (kv P m) λH=>k (lZ P m) H):aw (n+11) 910 [.new gp,.int m] (ao K) k:=by
 have aq:=Kh m;have lk:([.new (b7 1),.new (b7 2)]:List L)[m%2]? =J (.new (b7 (iD m))):=by
  have :m%2=0\/m%2=1:=Nat.mod_two_eq_zero_or_one m;unfold iD;rcases this with e|e<;>(refine G e ?_)<;>rfl
 refine Zb (a3 (ks (a:=m) (c:=2) (by decide)) (a3 (hL Da (n8 (jo _ (by decide)) (by decide)) lk) (a3 (kr (a:=m) (c:=2) (by decide)) (gz (.x 0) (nR c2 rfl (hc (hc ?_)))))))
 have qr:=el.app K [(.x 0,.tup [.new (b7 (iD m)),.int (m/2:Nat)])];have b5:=aa.ex qr;refine a3 (ks (a:=m/2) (c:=5) (by decide)) (au (a:=(((m/2%5:Nat):Int)==4)) rfl ?_)
 by_cases bA:m/2%5=4
 ·have kq:kv P m=q0 P (iD m):=aY bA;have u2:lZ P m=.none:=aY bA;rw [kq,u2] at h;refine jq (G bA rfl) (au (c1 (b5.nf _ aq).1 rfl rfl) (aaN aq b5 W hn λca2 d9 nl2 dZ gg fH=>h ca2 d9 nl2 dZ gg (qr.fr.trans fH)))
 ·have kq:kv P m=(pT P (iD m) (pM m) (nK m)).2:=a8 bA;have u2:lZ P m=.int ((pT P (iD m) (pM m) (nK m)).1:Nat):=a8 bA;rw [kq,u2] at h;refine g7 (by simp only [beq_eq_false_iff_ne,ne_eq];exact Nat.ToInt.of_diseq rfl rfl bA) (au (c1 (b5.nf _ aq).1 rfl rfl) ?_)
  refine a3 (kr (a:=m/2) (c:=5) (by decide)) (a3 (ks (a:=m/2/5) (c:=60) (by decide)) (a3 (kr (a:=m/2) (c:=300) (by decide)) (a3 (ks (a:=m/2/300) (c:=26) (by decide)) (a3 (f3 (a:=65)) (gz (.x 0) (a3 (kr (a:=m/2) (c:=300) (by decide)) (a3 (ks (a:=m/2/300) (c:=20) (by decide)) (a3 (f3 (a:=1)) (a3 (KZ c2 (by show 1*_<=1000;lia) (by lia) (.x 9)) ?_)))))))))
  refine G Ii ?_;have oB:L.int ((65+m/2/300%26:Nat):Int)=di (hV (65+m/2/300%26)):=by
   have H2:(65+m/2/300%26)%2^8=65+m/2/300%26:=Ck (by lia)
   show _=L.int ((hV _).toNat:Int)
   (exact G CJ (G H2 rfl))
  refine a3 (G8 c2 (G F5 (fE (by lia))) (G oB (S7 _))) ?_
  have tf:=(qr.trans (el.app _ [(.x 0,.list [.int ((65+m/2/300%26:Nat):Int)])])).trans (el.app _ [(.x 9,.list (f9 (1+m/2/300%20) (.int ((65+m/2/300%26:Nat):Int))))]);exact aaM (off:=pM m) (x:=nK m) aq (Kj m) (aa.ex tf) W (uC hn) λca2 d9 nl2 dZ gg fH=>h ca2 d9 nl2 dZ gg (tf.fr.trans fH)
theorem eS.frL{aX:dB}(aa:eS A b7 cO al re P K)(h:Fr tK K aX):eS A b7 cO al re P aX:=by
 have S:=aa.S;refine⟨⟨cm S.z λo z=>⟨o,h _ _ _ z rfl⟩,h _ _ _ S.s rfl,h _ _ _ S.n rfl,h _ _ _ S.c rfl,h _ _ _ S.d rfl,h _ _ _ S.j rfl,h _ _ _ S.row rfl,h _ _ _ S.bn rfl,h _ _ _ S.la rfl,h _ _ _ S.ke rfl,h _ _ _ S.un rfl,λt q=>h _ _ _ (S.ut t q) rfl,h _ _ _ S.ns rfl,h _ _ _ S.nt rfl,λb q=>h _ _ _ (S.bo b q) rfl,λb q=>h _ _ _ (S.bd b q) rfl⟩,
  aa.I,aa.hh,aa.pd,λf aq=>⟨h _ _ _ (aa.nf f aq).1 rfl,h _ _ _ (aa.nf f aq).2 rfl⟩,aa.img,aa.nums,aa.calls⟩
theorem dK.frP{aX:dB}(aa:dK a2 to ra fp P T K)(h:Fr r5 K aX)(hz:gW aX):dK a2 to ra fp P T aX:=aa.fr h ⟨rfl,rfl,rfl,λ_=>⟨rfl,rfl,rfl⟩⟩ hz
theorem O3{a b:Nat}(h:¬a=b):kG a b=aA:=by
 rcases aB:kG a b
 ·rfl
 ·exact absurd (Vo aB) h
noncomputable def AP(r:bh):Bool:=kG r.1 25&&(kG r.2 11||kG r.2 12)
theorem Ul{s:Nat}(a:¬s=11)(b:¬s=12):AP (.x s)=aA:=by show(ae&&(kG s 11||kG s 12))=aA;rw [O3 a,O3 b];rfl
theorem G5{gp nQ px:Nat}{gr:List L}{Q:an->Prop}(aa:eS A b7 cO al re P K)(ma:dK a2 to ra fp P T K)(W:et P)(hn:P.nums.length<=5)(ce:T.length<=900)(Da:K[gp]? =J (.x 10,.list [.new (b7 1),.new (b7 2)]))(rY:K[nQ]? =J (.x 11,.list gr))(jZ:K[px]? =J (.x 12,.list gr))(j7:gr.length<=10)
  (h:∀bJ d9 m3 oR oD ml (aX:dB),eS A b7 m3 bJ {re with nums:=(kv P m).nums,ntl:=d9} (kv P m) aX->dK a2 to oR oD (kv P m) ml aX->ml.length<=T.length+300->aX[gp]? =J (.x 10,.list [.new (b7 1),.new (b7 2)])->aX[nQ]? =J (.x 11,.list (gr++[lZ P m]))->aX[px]? =J (.x 12,.list (gr++[lZ P m]))->
   (∀(i s:Nat) (l:List L),¬s=11->¬s=12->K[i]? =J (.x s,.list l)->aX[i]? =J (.x s,.list l))->Q (ao aX)):
  aj (bx (.new nQ) l4 (ao K)) λzX=>aw (n+11) 910 [.new gp,.int m] (ao K) λD9 fJ=>bB False (aw (n+11)) zX [D9] fJ λBg iw=>aj (bx (.new px) l4 iw) λzY=>aw (n+11) 903 [.new a2.im,.new a2.fs,.int m,.new to] iw λBh kC=>bB False (aw (n+11)) zY [Bh] kC λSV nj=>Q nj:=by
 refine au (qu rY) (abv aa W hn Da λeL d9 jr cp b5 dJ=>?_)
 have rZ:=dJ _ _ _ rY rfl;have acW:=dJ _ _ _ jZ rfl;have adb:=dJ _ _ _ Da rfl;have BW:=ma.frP dJ b5.S.z;have Qm:bH gr.length=ae:=fE (by lia)
 refine lS (tN b5.S.z rZ (aC rfl) Qm) ?_;have adk:=fo (o:=.list (gr++[lZ P m])) rZ;have PZ:=aI (o:=.list (gr++[lZ P m])) rZ acW nofun
 have adc:=aI (o:=.list (gr++[lZ P m])) rZ adb nofun
 have MB:Fr AP cp (cp.set nQ (.x 11,.list (gr++[lZ P m]))):=Fr.set rZ rfl;have Fp:=BW.fr MB ⟨rfl,rfl,rfl,λ_=>⟨rfl,rfl,rfl⟩⟩ (b5.S.z.set rZ (aC rfl))
 refine au (qu PZ) (abu Fp W (uC hn) (by omega) λxw u7 oq gu rj f7 r8=>?_)
 have gg:eS A b7 jr eL {re with nums:=(kv P m).nums,ntl:=d9} (kv P m) (cp.set nQ (.x 11,.list (gr++[lZ P m]))):=⟨b5.S.set rZ rfl,b5.I,b5.hh,b5.pd,λf aq=>⟨aI rZ (b5.nf f aq).1 (aC rfl),aI rZ (b5.nf f aq).2 (aC rfl)⟩,b5.img,b5.nums,b5.calls⟩
 have fI:=gg.frL f7;have Db:=f7 _ _ _ adk rfl;have oA:=f7 _ _ _ PZ rfl;have C9:=f7 _ _ _ adc rfl;refine lS (tN rj.z oA (aC rfl) Qm) ?_;have MC:Fr AP gu (gu.set px (.x 12,.list (gr++[lZ P m]))):=Fr.set oA rfl;refine h eL d9 jr xw u7 oq _ ⟨fI.S.set oA rfl,fI.I,fI.hh,fI.pd,λf aq=>⟨aI oA (fI.nf f aq).1 (aC rfl),aI oA (fI.nf f aq).2 (aC rfl)⟩,fI.img,fI.nums,fI.calls⟩ (rj.fr MC ⟨rfl,rfl,rfl,λ_=>⟨rfl,rfl,rfl⟩⟩ (rj.z.set oA (aC rfl))) r8 (aI oA C9 nofun) (aI oA Db nofun) (fo oA) λi s l cP d6 e=>?_
 have eW:∀ {s:Nat},¬s=11->¬s=12->AP (.x s)=aA:=λ{s} a b=>Ul a b
 exact MC _ _ _ (f7 _ _ _ (MB _ _ _ (dJ _ _ _ e rfl) (eW cP d6)) rfl) (eW cP d6)
end
def AN(r:bh):Bool:=r5 r||tK r||AP r
theorem Fr.wide{S g6:bh->Bool}{K aX:dB}(h:Fr S K aX)(hs:∀r,g6 r=aA->S r=aA):Fr g6 K aX:=λi r o e da=>h i r o e (hs r da)
theorem X1(r:bh)(h:AN r=aA):r5 r=aA:=by unfold AN at h;simp only [Us] at h;exact h.1.1
theorem X2(r:bh)(h:AN r=aA):fN r=aA:=O8 (by decide) (X1 r h)
section
variable {k:b3}{q:ez}
theorem dK.frS{aX:dB}(aa:dK a2 to ra fp P T K)(h:Fr fN K aX)(hz:gW aX):dK a2 to ra fp P T aX:=aa.fr h ⟨rfl,rfl,rfl,λ_=>⟨rfl,rfl,rfl⟩⟩ hz
theorem RP{l:List L}{fR:bh}(e:K[i]? =J (r,.list l))(e2:K[j]? =J (fR,.list l))(aQ:l.all hK=ae):bW .NotEq (.new i) (.new j) (ao K)=J aA:=by
 show(match(ao K)[i]?,(ao K)[j]?with
  |J (.list a),J (.list b)|J (.scr a),J (.list b)=>if a.length=b.length then(if a.all hK&&b.all hK then J (a==b) else ac) else J aA
  |_,_=>ac).map (!·)=_
 refine G (d8 e) (G (d8 e2) ?_);show(if l.length=l.length then(if l.all hK&&l.all hK then J (l==l) else ac) else J aA).map (!·)=_
 refine G (aY rfl) (G aQ ?_);simp
theorem P7{l:List L}{fR:bh}(e:K[i]? =J (r,.list l))(e2:K[j]? =J (fR,.list l))(aQ:l.all hK=ae):bW .Eq (.new i) (.new j) (ao K)=J ae:=by
 show(match(ao K)[i]?,(ao K)[j]?with
  |J (.list a),J (.list b)|J (.scr a),J (.list b)=>if a.length=b.length then(if a.all hK&&b.all hK then J (a==b) else ac) else J aA
  |_,_=>ac)=_
 refine G (d8 e) (G (d8 e2) ?_);show(if l.length=l.length then(if l.all hK&&l.all hK then J (l==l) else ac) else J aA)=_
 refine G (aY rfl) (G aQ ?_);simp
theorem ah4{a:dI}:bW .NotEq (.bytes a) (.bytes a) H=J aA:=by show J (!(a==a))=_;simp
theorem JN{a b:Int}(h:a=b):bW .NotEq (.int a) (.int b) H=J aA:=by subst h;show J (!(a==a))=_;simp
theorem Sx:∀l:List UInt8,bR (l.map di)=J l
 | []=>rfl
 |a::l=>by
  refine G h9 ?_;unfold bR;refine G (Sx l) ?_;show(match oL (.int (a.toNat:Int)),_ with |J c,J r=>J (c::r)|_,_=>ac)=_
  (exact G (vz (rN a)) (G UInt8.ofNat_toNat rfl))
def K1:List L:=(nn 22).map dz
theorem an1:lV [L.int 22]=J K1:=by rfl
theorem ZT{a b v:L}:eu p5 Fj (.one v) [(dP,a),(cu,b)] H=J [(dP,a),(cu,b),(bS,v)]:=by kernel_rfl
theorem ZU{a b v aJ:L}:eu p5 Fj (.one v) [(dP,a),(cu,b),(bS,aJ)] H=J [(dP,a),(cu,b),(bS,v)]:=by kernel_rfl
theorem abP{a b c d e f aB h i j l:L}:oy p5 [(dP,a),(eB,b),(eP,c),(cu,d),(ew,e),(iq,f),(gC,aB),(io,h),(ey,i),(eX,j),(fV,l)]=[(dP,a),(cu,d)]:=by kernel_rfl
theorem aht{mm:Loc}(hJ:oy p5 mm=[(dP,.new A.d),(cu,.new a2.im)])(S:bP A al re K)(am:Inv al re)(ma:dK a2 to ra fp P T K)(bA:∀y,gY y->e0 re y=P.img y)(h:∀aX,el K aX->k (.bool ae) (ao aX)):
  b1 False (aw (n+2)) ((aW (bf 44)).drop 9) lF mm (ao K) (dM k):=by
 refine Zd hJ (au an1 (wV (items:=K1) (P:=λm=>m=[(dP,.new A.d),(cu,.new a2.im)]\/ ∃v,m=[(dP,.new A.d),(cu,.new a2.im),(bS,v)]) (mm:=λv=>[(dP,.new A.d),(cu,.new a2.im),(bS,v)]) (c:=λ_=>aA) (f:=id) (λ_=>rfl)
  (λv m bc=>by rcases bc with rfl|⟨u,rfl⟩;exact ZT;exact ZU) (λv=>.inr ⟨v,rfl⟩) (λv hv q cJ=>?_) (λv hv _ q cJ=>acP cJ) 1000 0 _ [] (.inl rfl) (by decide) (by decide) ?_))
 ·refine bU (hQ.mp hv) λy hy al9=>?_;obtain rfl:=al9
  have hy:=MU.mp hy;have Pt:gY y->aj (bx (.new A.d) (z "read") (ao K)) λHc=>bB False (aw (n+2)) Hc [dz y] (ao K) λKA Fv=>aF (cj (.new a2.im) (.at_ (dz y)) Fv) λLs Fw=>aF (cI (.type "bytes") [Ls] Fw) λKB ug=>aj (bW .NotEq KA KB ug) λHe=>bo .And He (q aA ug) (q ae ug):=λaR=>by
   refine au (c1 S.d rfl rfl) (HG S am hy (a3 (hL ma.im (eE ‹_› (by decide)) (ma.row hy)) (a3 (G8 (ma.ir y aR hy) (w0 (by refine G (ma.len y aR) ?_;decide)) (Sx _)) (au (a:=aA) ?_ (ot rfl cJ)))))
   exact G (bA y aR) ah4
  refine adt (au (a:=eg ((2:Int)<=(y:Int))) rfl ?_);by_cases a:2<=y
  ·refine jq (decide_eq_true (sJ.mpr ‹_›)) (au (a:=eg ((y:Int)<11)) rfl ?_);by_cases b:y<11
   ·exact ot (G (decide_eq_true (mc.mpr ‹_›)) rfl) cJ
   ·exact pj (G (decide_eq_false (by lia)) rfl) (Pt (.inr (wo b)))
  ·exact g7 (decide_eq_false (by lia)) (Pt (.inl (wq a)))
 ·have dh:([]:List L)++((K1.drop 0).filter λ_=>aA).map id=[]:=by rfl
  refine G dh (gz (.x 0) (gz (.x 0) (au (P7 (l:=[]) (cf c2) c2 rfl) ?_)));exact h _ ((el.app K _).trans (el.app _ _))
abbrev UB(A:g1)(b7 cO:Nat->Nat)(a2:lE)(to:Nat)(ra fp:Nat->Nat)(re:gj)(P:cR)(T:List Nat)(K:dB)(k:b3):Prop:=∀bJ re' aX,bP A bJ re' aX->Inv bJ re'->bJ.held=ac->bJ.pd=[]->re'.nums=[]->re'.calls=0->re'.commits=re.commits+1->re'.unl=[]->
 (∀f,f=1\/f=2->aX[b7 f]? =J (.nd f,r0 A f (P.fl f) (cO f))/\aX[cO f]? =J (.pl f,lU (P.fl f)))->(∀y,gY y->cnt bJ re' y=P.img y)->dK a2 to ra fp P T aX->Fr AN K aX->k (.bool ae) (ao aX)
theorem aeq{Bd gp nQ px:Nat}{gr:List L}{D0:L}(aa:eS A b7 cO al re P K)(ma:dK a2 to ra fp P T K)(N:hS P)(gI:P.nums.length<=8)(IV:P.nums≠ [])(ce:T.length<=4000)(w8:re.calls=2)(bT:re.unl=[])
  (rY:K[nQ]? =J (.x 11,.list gr)) (jZ:K[px]? =J (.x 12,.list gr)) (j7:gr.all hK=ae) (h:UB A b7 cO a2 to ra fp re P T K k):
  ed (aw (n+8)) ((aW (bf 44)).drop 5) lF (dM k) .next [(dP,.new A.d),(eB,.new A.n),(eP,.new gp),(cu,.new a2.im),(ew,.new a2.fs),(iq,.new Bd),(gC,.new nQ),(io,.new px),(ey,.new to),(eX,.int re.writes),(fV,D0)] (ao K):=by
 refine Xc (au (aN aa.S.n rfl rfl) (au (c1 aa.S.j rfl rfl) (abl aa.S w8 λcp b6 dJ=>?_)))
 have BW:=ma.frS dJ b6.z;refine au (RP (dJ _ _ _ rY rfl) (dJ _ _ _ jZ rfl) j7) (lr rfl (au (aN b6.d rfl rfl) (au (JN rfl) (lr rfl ?_))));have nN:re.nums.length<=8:=G aa.nums gI;refine au (aN b6.n rfl rfl) (au (c1 b6.j rfl rfl) (Pl b6 nN ?_));refine K9 (Q:=λanu U0=>aF (a5 .Sub (L.int 8) anu U0) λapZ Fs=>aj (bW .NotEq (.int (8 - (re.nums.length:Int))) apZ Fs) λaay=>bo .Or aay _ _) BW ce (cQ ‹_› (by decide)) ?_
 have cc:=b6.app [(.x 0,.set ((dd T).map dz))];have Fp:=BW.ex (.app cp [(.x 0,.set ((dd T).map dz))]);refine a3 (si (a:=8) gI) (au (JN (G aa.nums (Xq gI))) (lr rfl ?_));have Vc:uz re.nums:=⟨nN,G aa.nums N.ok⟩;refine au (aN cc.n rfl rfl) (au (c1 cc.j rfl rfl) (abm (re:= {re with calls:=1}) Vc cc (aa.I.calls 1 re.commits) aa.hh aa.pd bT rfl (G aa.nums IV) λz2 KY gu eb o5 hu jC kn lf qs tg wN rO zP f7=>?_))
 have rj:=Fp.frS f7 eb.z;refine au (aN eb.d rfl rfl) (a3 rfl ?_);refine K9 (Q:=λann UJ=>aF (a5 .Mult (L.int 2) ann UJ) λap5 UL=>aF (a5 .Add (.int (re.writes+2)) ap5 UL) λap7 UN=>aj (bW .NotEq (.int KY.writes) ap7 UN) λaaz=>bo .Or aaz _ _) rj ce (cQ ‹_› (by decide)) ?_
 have gV:=eb.app [(.x 0,.set ((dd T).map dz))];have yY:=rj.ex (.app gu [(.x 0,.set ((dd T).map dz))]);refine a3 (xl (a:=2) (c:=P.nums.length) (by decide) (eI ‹_› (by decide))) (a3 rfl (au (JN ?_) (lr rfl ?_)))
 ·refine G tg ?_;show re.writes+2+2*(re.nums.length:Int)=_
  exact G aa.nums rfl
 have oB:=gV.un;rw [wN] at oB;refine au (aN gV.d rfl rfl) (gz (.x 0) (au (RP (l:=[]) (cf oB) c2 rfl) (lr rfl ?_)));have lb:=gV.app [(.x 0,.list [])];have wg:=yY.ex (.app _ [(.x 0,.list [])]);refine au (c1 lb.d rfl rfl) (HG (m:=2) lb o5 (by decide) (Jl ?_))
 refine G zP ?_;generalize hK5:gu++[(bh.x 0,bt.set ((dd T).map dz))]++[(bh.x 0,bt.list [])]=kY at *
 refine a3 (a:=.bytes (jv.take 4)) (b:=ao kY) ?_ (a3 (CQ ⟨by decide,by decide⟩) (au (a:=aA) (by rfl) (lr rfl ?_)))
 ·show(if bH jv.length then(jY jv ac (J 4)).map (L.bytes ·,ao kY) else ac)=_
  rfl
 have je:Fr fN K kY:=by
  exact cT hK5 ((dJ.trans (Fr.app _ _)).trans (f7.trans ((Fr.app _ _).trans (Fr.app _ _))))
 refine aht abP lb o5 wg (λy hy=>((rO y hy).2).trans (aa.img y hy)) λFU GQ=>?_
 have we:Fr fN K FU:=je.trans GQ.fr;refine h z2 KY FU (lb.ex GQ) o5 hu jC kn lf qs wN (λf aq=>⟨we _ _ _ (aa.nf f aq).1 rfl,we _ _ _ (aa.nf f aq).2 rfl⟩) (λy hy=>((rO y hy).1).trans (aa.img y hy)) (wg.ex GQ) (we.wide X2)
end
theorem O2{a b c d e f aB h i j v:L}{H:an}:eu lF Fi (.one v) [(dP,a),(eB,b),(eP,c),(cu,d),(ew,e),(iq,f),(gC,aB),(io,h),(ey,i),(eX,j)] H=J [(dP,a),(eB,b),(eP,c),(cu,d),(ew,e),(iq,f),(gC,aB),(io,h),(ey,i),(eX,j),(fV,v)]:=by kernel_rfl
theorem ZG{a b c d e f aB h i j v aJ:L}{H:an}:eu lF Fi (.one v) [(dP,a),(eB,b),(eP,c),(cu,d),(ew,e),(iq,f),(gC,aB),(io,h),(ey,i),(eX,j),(fV,aJ)] H=J [(dP,a),(eB,b),(eP,c),(cu,d),(ew,e),(iq,f),(gC,aB),(io,h),(ey,i),(eX,j),(fV,v)]:=by kernel_rfl
structure p3(A:g1)(b7:Nat->Nat)(a2:lE)(gp:Nat)(cO:Nat->Nat)(to:Nat)(ra fp:Nat->Nat)(al:hq)(re:gj)(P:cR)(T:List Nat)(K:dB):Prop where
 S:bP A al re K
 I:Inv al re
 hh:al.held=ac
 pd:al.pd=[]
 nums:re.nums=[]
 calls:re.calls=0
 unl:re.unl=[]
 nf:∀f,f=1\/f=2->K[b7 f]? =J (.nd f,r0 A f (P.fl f) (cO f))/\K[cO f]? =J (.pl f,lU (P.fl f))
 img:∀y,gY y->cnt al re y=P.img y
 W:et P
 GL:dK a2 to ra fp P T K
 er_:K[gp]? =J (.x 10,.list [.new (b7 1),.new (b7 2)])
theorem p3.ex{A:g1}{b7:Nat->Nat}{a2:lE}{gp:Nat}{cO:Nat->Nat}{to:Nat}{ra fp:Nat->Nat}{al:hq}{re:gj}{P:cR}{T:List Nat}{K aX:dB}(B:p3 A b7 a2 gp cO to ra fp al re P T K)(h:el K aX):p3 A b7 a2 gp cO to ra fp al re P T aX:=
 ⟨B.S.ex h,B.I,B.hh,B.pd,B.nums,B.calls,B.unl,λf aq=>⟨h _ _ _ (B.nf f aq).1,h _ _ _ (B.nf f aq).2⟩,B.img,B.W,B.GL.ex h,h _ _ _ B.er_⟩
section
variable {k:b3}{gp:Nat}{q:ez}
theorem dK.newTo{u:Nat}(aa:dK a2 to ra fp P T K)(e:K[u]? =J (.to,.list [])):dK a2 u ra fp {P with nums:=[]} [] K:=⟨aa.z,aa.im,aa.ir,aa.fs,aa.fd,e,rfl,aa.len⟩
theorem TN(P:cR)(m:Nat):hK (lZ P m)=ae:=by unfold lZ;split<;>rfl
abbrev Ut(A:g1)(b7:Nat->Nat)(a2:lE)(gp:Nat)(re:gj)(K:dB)(k:b3):Prop:=∀m3 tW oR oD bJ re' P' ml (aX:dB),p3 A b7 a2 gp m3 tW oR oD bJ re' P' ml aX->re'.commits=re.commits+1->(∀(i s:Nat) (l:List L),¬s=11->¬s=12->K[i]? =J (.x s,.list l)->aX[i]? =J (.x s,.list l))->k (.bool ae) (ao aX)
theorem abx{Bd:Nat}{ms:List Nat}(B:p3 A b7 a2 gp cO to ra fp al re P T K)(ii:K[Bd]? =J (.x 13,.list (ms.map dz)))(bc:(∃a,ms=[a])\/ ∃a b,ms=[a,b])(h:Ut A b7 a2 gp re K k):aw (n+12) 922 [.new A.d,.new A.n,.new gp,.new a2.im,.new a2.fs,.new Bd] (ao K) k:=by
 have qr:=(((el.app K [(bh.x 11,bt.list [])]).trans (el.app _ [(bh.x 12,bt.list [])])).trans (el.app _ [(bh.to,bt.list [])])).trans (el.app _ [(bh.x 0,bt.tup [.new K.length,.new (K++[(bh.x 11,bt.list [])]).length,.new (K++[(bh.x 11,bt.list [])]++[(bh.x 12,bt.list [])]).length,.int re.writes])]);have wJ:=B.S.ex (((el.app K [(bh.x 11,bt.list [])]).trans (el.app _ [(bh.x 12,bt.list [])])).trans (el.app _ [(bh.to,bt.list [])]));refine Zc (gz (.x 11) (gz (.x 12) (gz .to (au (aN wJ.d rfl rfl) (gz (.x 0) (nR c2 rfl (hc (hc (hc (hc ?_))))))))));have adj:(K++[(bh.x 11,bt.list [])]++[(bh.x 12,bt.list [])]++[(bh.to,bt.list [])]++[(bh.x 0,bt.tup [.new K.length,.new (K++[(bh.x 11,bt.list [])]).length,.new (K++[(bh.x 11,bt.list [])]++[(bh.x 12,bt.list [])]).length,.int re.writes])])[K.length]? =J (.x 11,.list []):=cf (cf (cf c2));have acV:(K++[(bh.x 11,bt.list [])]++[(bh.x 12,bt.list [])]++[(bh.to,bt.list [])]++[(bh.x 0,bt.tup [.new K.length,.new (K++[(bh.x 11,bt.list [])]).length,.new (K++[(bh.x 11,bt.list [])]++[(bh.x 12,bt.list [])]).length,.int re.writes])])[(K++[(bh.x 11,bt.list [])]).length]? =J (.x 12,.list []):=cf (cf c2);have ac7:(K++[(bh.x 11,bt.list [])]++[(bh.x 12,bt.list [])]++[(bh.to,bt.list [])]++[(bh.x 0,bt.tup [.new K.length,.new (K++[(bh.x 11,bt.list [])]).length,.new (K++[(bh.x 11,bt.list [])]++[(bh.x 12,bt.list [])]).length,.int re.writes])])[(K++[(bh.x 11,bt.list [])]++[(bh.x 12,bt.list [])]).length]? =J (.to,.list []):=cf c2;generalize K.length=nQ at *
 generalize(K++[(bh.x 11,bt.list [])]).length=px at *
 generalize(K++[(bh.x 11,bt.list [])]++[(bh.x 12,bt.list [])]).length=tW at *
 generalize K++[(bh.x 11,bt.list [])]++[(bh.x 12,bt.list [])]++[(bh.to,bt.list [])]++[(bh.x 0,bt.tup [.new nQ,.new px,.new tW,.int re.writes])]=cp at *
 have jd:=B.ex qr;have b6:=jd.S;have QJ:re.nums.length<=8:=by refine G B.nums ?_;decide
 refine au (aN b6.n rfl rfl) (au (c1 b6.j rfl rfl) (Pm b6 QJ (G B.calls rfl) (by refine G B.nums (G B.calls ?_);decide) λdZ cc fH=>?_))
 refine au (aN cc.n rfl rfl) (au (c1 cc.j rfl rfl) (Pm (re:= {re with calls:=re.calls+1}) cc QJ (by show cH (re.calls+1+1)=ae;exact G B.calls rfl) (by show(re.nums.length:Int)+(re.calls+1+1)*4<=8;refine G B.nums (G B.calls ?_);decide) λgu eb f7=>?_))
 have rg:Fr fN cp gu:=fH.trans f7;have w8:re.calls+1+1=2:=G B.calls rfl;refine au (aN eb.n rfl rfl) (abw eb B.nums w8 (au rfl (g7 rfl ?_)));have fI:eS A b7 cO al {re with calls:=re.calls+1+1} {P with nums:=[]} gu:=⟨eb,B.I.calls _ _,B.hh,B.pd.trans B.nums.symm,λf aq=>⟨rg _ _ _ (jd.nf f aq).1 rfl,rg _ _ _ (jd.nf f aq).2 rfl⟩,B.img,B.nums,by show¬re.calls+1+1=0;lia⟩
 have rj:dK a2 tW ra fp {P with nums:=[]} [] gu:=(jd.GL.frS rg eb.z).newTo (rg _ _ _ ac7 rfl)
 have CK:et {P with nums:=[]}:=B.W.img rfl rfl
 have MW:hS {P with nums:=[]}:=⟨(λ_ h=>absurd h jl)⟩
 have Aj:=rg _ _ _ (qr _ _ _ ii) rfl;have C9:=rg _ _ _ jd.er_ rfl;have Db:=rg _ _ _ adj rfl;have oA:=rg _ _ _ acV rfl;have eW:∀ {s:Nat},¬s=11->¬s=12->AN (.x s)=aA:=λ{s} a b=>Ul a b
 have cq:∀ {bJ d9 jr h0 hY e7} {fj:cR} {jR:dB} {gr:List L} {D0:L},eS A b7 jr bJ {re with calls:=re.calls+1+1,nums:=fj.nums,ntl:=d9} fj jR->dK a2 tW h0 hY fj e7 jR->et fj->hS fj->fj.nums.length<=8->fj.nums≠ []->e7.length<=4000->jR[gp]? =J (.x 10,.list [.new (b7 1),.new (b7 2)])->jR[nQ]? =J (.x 11,.list gr)->jR[px]? =J (.x 12,.list gr)->gr.all hK=ae->
   (∀(i s:Nat) (l:List L),¬s=11->¬s=12->gu[i]? =J (.x s,.list l)->jR[i]? =J (.x s,.list l))->
   ed (aw (n+11)) ((aW (bf 44)).drop 5) lF (dM k) .next [(dP,.new A.d),(eB,.new A.n),(eP,.new gp),(cu,.new a2.im),(ew,.new a2.fs),(iq,.new Bd),(gC,.new nQ),(io,.new px),(ey,.new tW),(eX,.int re.writes),(fV,D0)] (ao jR):=by
  intro bJ d9 jr h0 hY e7 fj jR gr D0 aa ma W N gI IV ce e1 e2 aP j7 fr;exact aeq (n:=n+3) (re:= {re with calls:=re.calls+1+1,nums:=fj.nums,ntl:=d9}) aa ma N gI IV ce w8 B.unl e2 aP j7 λCV anQ kY lb jy hu jC kn lf qs wN rO zP wg je=>h jr tW h0 hY CV anQ fj e7 kY ⟨lb,jy,hu,jC,kn,lf,wN,rO,zP,W,wg,je _ _ _ e1 (eW (by decide) (by decide))⟩ qs λi s l cP d6 e=>je _ _ _ (fr i s l cP d6 (rg _ _ _ (qr _ _ _ e) rfl)) (eW cP d6)
 refine pH Aj ?_;rcases bc with⟨a,rfl⟩|⟨a,b,rfl⟩
 ·have dx:=Ki (m:=a) CK MW;refine iQ (nG Aj rfl) O2 (LX (G5 (n:=n) (m:=a) (Q:=λH=>_) fI rj CK (hf _) (hf _) C9 Db oA (hf _) λpr d9 aig S4 Qi te jR jf yY DR jD Li Lq Ap=>?_))
  refine mr (qM (Ap _ _ _ (by decide) (by decide) Aj) (cW 1)) ?_
  exact cq jf yY dx.1 dx.2.1 (by have :=dx.2.2.2.2.2 rfl;exact cQ ‹_› (by decide)) (λz=>by have :=dx.2.2.1;rw [z] at this;rcases this) (by have :([]:List Nat).length=0:=rfl;lia) jD Li Lq (by refine G (zs ..) ?_;simp [TN]) Ap
 ·have dx:=Ki (m:=a) CK MW;have en:=Ki (m:=b) dx.1 dx.2.1;have n1:=dx.2.2.2.2.2 rfl;refine iQ (nG Aj rfl) O2 (LX (G5 (n:=n) (m:=a) (Q:=λH=>_) fI rj CK (hf _) (hf _) C9 Db oA (hf _) λpr d9 aig S4 Qi te jR jf yY DR jD Li Lq Ap=>?_))
  have P4:=Ap _ _ _ (by decide) (by decide) Aj
  have q6:([]:List Nat).length=0:=rfl;refine iQ (nG P4 rfl) ZG (LX (G5 (n:=n) (m:=b) (Q:=λH=>_) (re:= {re with calls:=re.calls+1+1,nums:=(kv {P with nums:=[]} a).nums,ntl:=d9}) jf yY dx.1 n1 (by lia) jD Li Lq (by show 1<=10;decide) λCV asZ asX sf r1 ph kY h6 wg pD iO ao8 ED Qk=>?_))
  refine mr (qM (Qk _ _ _ (by decide) (by decide) P4) (cW 2)) ?_
  exact cq h6 wg en.1 en.2.1 (en.2.2.2.2.1 n1) (λz=>by have :=en.2.2.1;rw [z] at this;rcases this) (by lia) iO ao8 ED (by simp [TN]) λi s l cP d6 e=>Qk i s l cP d6 (Ap i s l cP d6 e)
end
variable {gp:Nat}
end Mine.Internal.P
end
noncomputable section
set_option tactic.hygienic true
open PySem PySem.W PyProof.Rows PySem.Calls
namespace Mine.Internal.P
noncomputable def c5{ay:Type}(k:Nat)(p l:List ay):List ay:=k.rec l λ_ y=>p++y
noncomputable def c6(l:List Int):List L:=l.map .int
def f2:ds:=(dO (bf 45)).names
def uc:aU:=(j8 (fD (bw (aW (bf 45)) 0) 0) 2)
def My:aU:=vO uc
def ud:ds:=gF (dO (bf 45)).names (vG uc).names
def yS:aU:=nP (bw (aW (bf 45)) 7)
theorem SF{n:Nat}{m9:L}{H:an}{ct:List cD}{K:ez}(h:let C:=aw n;eq H (.list []) λgK cN=>aj (bW .Eq m9 gK cN) λeT=>dU eT (eq cN (.list [(L.int 0),(L.int 1)]) λnU eQ=>b1 False C ct f2 [(gL,m9),(ip,nU)] eQ K) (jJ (eA L.none) (eA (L.int 10)) λapK Lr=>aF (cj m9 (.sl apK Lr) cN) λi9 dN=>lp i9 dN λafy=>jX False ud My (λm H q=>jb False C (m0 uc) ud m H q) (λm H q=>bO False C (j8 uc 0) ud m H q) (.lst afy) f6 0 [] dN [] λvt o1=>eq o1 (.list vt) λil jg=>b1 False C ct f2 [(gL,m9),(ip,il)] jg K)):b1 False (aw n) (bw (aW (bf 45)) 0::ct) f2 [(gL,m9)] H K:=bZ (by kernel_rfl) h
theorem Ze{n:Nat}{m9 pI tR b0 ev bC e3 fG ep:L}{H:an}{k:b3}(h:let C:=aw n;aF (cI (.builtin "len") [pI] H) λSS kg=>aj (lV [(L.int 0),SS,(L.int 2)]) λRd=>gR False f2 yS (λm H q=>b1 False C (ei (bw (aW (bf 45)) 7)) f2 m H q) (.items Rd) f6 0 [(gL,m9),(ip,pI),(l5,tR),(cu,b0),(dP,ev),(bS,bC),(eB,e3),(eP,fG),(ew,ep)] kg (ed C ((aW (bf 45)).drop 8) f2 (dM k))):b1 False (aw n) ((aW (bf 45)).drop 7) f2 [(gL,m9),(ip,pI),(l5,tR),(cu,b0),(dP,ev),(bS,bC),(eB,e3),(eP,fG),(ew,ep)] H (dM k):=bZ (by kernel_rfl) h
theorem aqP{n:Nat}{m9 pI tR b0 ev bC e3 fG ep aN:L}{H:an}{q:ez}(h:let C:=aw n;aF (a5 .Add aN (L.int 2) H) λpR g3=>jJ (eA aN) (eA pR) λxS apB=>aF (cj pI (.sl xS apB) g3) λiX hP=>C 922 [ev,e3,fG,b0,ep,iX] hP λsd mN=>aj (ky sd) λHp=>dU (!Hp) (q (.ret (L.bool aA)) [(gL,m9),(ip,pI),(l5,tR),(cu,b0),(dP,ev),(bS,bC),(eB,e3),(eP,fG),(ew,ep),(e4,aN)] mN) (q .next [(gL,m9),(ip,pI),(l5,tR),(cu,b0),(dP,ev),(bS,bC),(eB,e3),(eP,fG),(ew,ep),(e4,aN)] mN)):b1 False (aw n) (ei (bw (aW (bf 45)) 7)) f2 [(gL,m9),(ip,pI),(l5,tR),(cu,b0),(dP,ev),(bS,bC),(eB,e3),(eP,fG),(ew,ep),(e4,aN)] H q:=bZ (by kernel_rfl) h
theorem Xd{n:Nat}{m9 pI tR b0 ev bC e3 fG ep aN:L}{H:an}{k:b3}(h:let C:=aw n;aF (cj fG (.at_ (L.int 0)) H) λvR jh=>aj (aV vR dH jh) λMh=>aF (cj fG (.at_ (L.int 1)) jh) λnS i0=>aj (aV nS dH i0) λv4=>aj (aV e3 hl i0) λBJ=>aj (aV BJ sE i0) λE2=>eq i0 (.list [Mh,v4,E2]) λmy iw=>aF (cj ep (.at_ (L.int 0)) iw) λnT i1=>aF (cj nT (.at_ (L.str dH)) i1) λq4 y0=>aF (cj ep (.at_ (L.int 1)) y0) λl2 rn=>aF (cj l2 (.at_ (L.str dH)) rn) λmz rp=>aF (cI (.builtin "len") [pI] rp) λSX FM=>aF (a5 .Add SX (L.int 1) FM) λaql U1=>aF (a5 .FloorDiv aql (L.int 2) U1) λBu sH=>eq sH (.list [q4,mz,Bu]) λmA wh=>aj (bW .Eq my mA wh) λuV=>k (L.bool uV) wh):(let C:=aw n;ed C ((aW (bf 45)).drop 8) f2 (dM k) .next [(gL,m9),(ip,pI),(l5,tR),(cu,b0),(dP,ev),(bS,bC),(eB,e3),(eP,fG),(ew,ep),(e4,aN)] H):=bZ (by kernel_rfl) h
theorem acQ{n:Nat}{fg:L}{H:an}{q:b3}(h:let C:=aw n;aF (cI (.builtin "abs") [fg] H) λSZ uk=>aF (a5 .Pow (L.int 10) (L.int 12) uk) λaqo wi=>aF (a5 .Mod SZ aqo wi) λaqp um=>q aqp um):bO False (aw n) (j8 uc 0) ud [(fV,fg)] H q:=bZ (by kernel_rfl) h
theorem adu{n:Nat}{fg:L}{H:an}{q:Bool->an->Prop}(h:let C:=aw n;q ae H):jb False (aw n) (m0 uc) ud [(fV,fg)] H q:=bZ (by kernel_rfl) h
def B1(l:List L)(dx:bt)(ms:List L):an:=(.scr l::dx::.list ms::.inst 192 [(iY,(.int 48)),(mG,(.int 22)),(z "inodes",(.int 4)),(z "log",(.int 9)),(lA,(.int 2)),(jc,(.int 24)),(eP,(.int 2)),(z "indirect",(.int 12)),(z "log_start",(.int 2)),(BM,(.int 11)),(BL,(.int 13)),(v7,(.int 14))]::(c5 22 [.list [(.int 0)],.list (f9 48 (.int 0))] (.list [(.new 5),(.new 51),(.new 9),(.new 11),(.new 13),(.new 15),(.new 17),(.new 19),(.new 21),(.new 23),(.new 25),(.new 71),(.new 86),(.new 55),(.new 33),(.new 35),(.new 37),(.new 39),(.new 41),(.new 43),(.new 45),(.new 47)]::.ba (64::48::32::16::22::0::0::0::8::0::0::0::4::0::0::0::9::0::0::0::2::0::0::0::11::0::0::0::13::0::0::0::2::(c5 15 [0] []))::.list (c6 [270544960,22,8,4,9,2,11,13,2])::.list (c6 (64::48::32::16::22::0::0::0::8::0::0::0::4::0::0::0::9::0::0::0::2::0::0::0::11::0::0::0::13::0::0::0::2::(c5 15 [0] [])))::.list (c6 [255,63])::.list [(.int 0)]::.list (f9 46 (.int 0))::.list (c6 (255::63::(c5 46 [0] [])))::.list (c6 [1,2])::.list (c6 [0,0,0])::.list (c6 [2,0,0,0,0,0,1,0])::.list (c6 [0,0,0,0])::.list (c6 [2,0,0,0,0,0,1,0,0,0,0,0])::.list (c6 [0,0,0,0])::.list (c6 (2::0::0::0::0::0::1::(c5 9 [0] [])))::.list (c6 [0,0,0,0])::.list (c6 (2::0::0::0::0::0::1::(c5 13 [0] [])))::.list (c6 [0,0,0,0])::.list (c6 (2::0::0::0::0::0::1::(c5 17 [0] [])))::.tup (c6 [11,24])::.list (f9 24 (.int 0))::.list (c6 (c5 24 [0] (2::0::0::0::0::0::1::(c5 17 [0] []))))::.list []::.list (c6 (c5 24 [0] (2::0::0::0::0::0::1::(c5 17 [0] []))))::.list (c6 [0,0,0])::.list (c6 [2,0,0,0,0,0,1,0])::.list (c6 [0,0,0,0])::.list (c6 [2,0,0,0,0,0,1,0,0,0,0,0])::.list (c6 [0,0,0,0])::.list (c6 (2::0::0::0::0::0::1::(c5 9 [0] [])))::.list (c6 [0,0,0,0])::.list (c6 (2::0::0::0::0::0::1::(c5 13 [0] [])))::.list (c6 [0,0,0,0])::.list (c6 (2::0::0::0::0::0::1::(c5 17 [0] [])))::.tup (c6 [12,0])::.list []::.list (c6 (2::0::0::0::0::0::1::(c5 17 [0] [])))::.list (f9 24 (.int 0))::.list (c6 (2::0::0::0::0::0::1::(c5 41 [0] [])))::.inst 754 [(mG,(.int 22)),(dH,(.int 48)),(z "kept",(.new 88)),(z "latest",(.new 89)),(pY,(.new 97)),(eX,(.int 4)),(pX,(.int 1)),(z "last",.none),(yP,.none),(z "is_dead",(.bool aA))]::(c5 2 [.dict [((.int 1),(.bytes (64::48::32::16::22::0::0::0::8::0::0::0::4::0::0::0::9::0::0::0::2::0::0::0::11::0::0::0::13::0::0::0::2::(c5 15 [0] [])))),((.int 11),(.bytes (c5 24 [0] (2::0::0::0::0::0::1::(c5 17 [0] []))))),((.int 12),(.bytes (2::0::0::0::0::0::1::(c5 41 [0] [])))),((.int 13),(.bytes (255::63::(c5 46 [0] []))))]] [.list [(.new 93),(.new 94),(.new 95),(.new 96)],.tup [(.new 48),(.new 87)],.list (c6 [1,11,12,13]),.tup [(.int 1),(.bytes (64::48::32::16::22::0::0::0::8::0::0::0::4::0::0::0::9::0::0::0::2::0::0::0::11::0::0::0::13::0::0::0::2::(c5 15 [0] [])))],.tup [(.int 11),(.bytes (c5 24 [0] (2::0::0::0::0::0::1::(c5 17 [0] []))))],.tup [(.int 12),(.bytes (2::0::0::0::0::0::1::(c5 41 [0] [])))],.tup [(.int 13),(.bytes (255::63::(c5 46 [0] [])))],.list [],.inst 658 [(dP,(.new 87)),(nZ,(.int 14)),(dH,(.int 48)),(jc,(.new 99)),(sD,(.new 100)),(z "hits",(.int 0)),(z "reads",(.int 2)),(eX,(.int 0))],.list [(.new 109),(.new 115)],.dict [((.int 11),(.new 109)),((.int 12),(.new 115))],.inst 865 [(fU,(.new 98)),(q8,(.int 2)),(dH,(.int 9)),(eC,(.int 8)),(nZ,(.int 8)),(z "each",(.int 4)),(e5,(.new 102)),(t0,(.new 103)),(mH,(.int 0)),(sE,(.int 0))],.list [],.dict [],.inst 441 [(hl,(.new 101)),(fU,(.new 98)),(hO,(.new 3)),(z "table",(.new 105))],.dict [((.int 1),(.new 107)),((.int 2),(.new 113))],.tup (c6 [11,24]),.inst 281 [(eB,(.new 104)),(bS,(.int 1)),(iZ,(.int 1)),(z "kind",(.int 2)),(z "major",(.int 0)),(z "minor",(.int 0)),(z "links",(.int 1)),(dH,(.int 0)),(eC,(.new 111))],.list [],.inst 539 [(bS,(.int 11)),(gf,(.new 110)),(iZ,(.int 0)),(nc,(.int 0))],.ba (c5 24 [0] (2::0::0::0::0::0::1::(c5 17 [0] []))),.list (c6 [0,0,0]),.tup (c6 [12,0]),.inst 281 [(eB,(.new 104)),(bS,(.int 2)),(iZ,(.int 1)),(z "kind",(.int 2)),(z "major",(.int 0)),(z "minor",(.int 0)),(z "links",(.int 1)),(dH,(.int 0)),(eC,(.new 117))],.list [],.inst 539 [(bS,(.int 12)),(gf,(.new 116)),(iZ,(.int 0)),(nc,(.int 0))],.ba (2::0::0::0::0::0::1::(c5 41 [0] [])),.list (c6 [0,0,0]),.list [(.new 107),(.new 113)],.list (c6 [0,0,0]),.dict [((.str eC),(.new 119)),((.str dH),(.int 0))],.list (c6 [0,0,0]),.dict [((.str eC),(.new 121)),((.str dH),(.int 0))],.list [(.new 120),(.new 122)],.tup [(.new 118),(.new 123)]]))))
theorem aoo{n:Nat}{l:List L}{dx:bt}{ms:List L}{ct:List cD}{K:ez}:b1 False (aw (n+12)) (bw (aW (bf 45)) 1::bw (aW (bf 45)) 2::bw (aW (bf 45)) 3::bw (aW (bf 45)) 4::bw (aW (bf 45)) 5::bw (aW (bf 45)) 6::ct) (dO (bf 45)).names [(gL,.new 0),(ip,.new 2)] [.scr l,dx,.list ms] K=b1 False (aw (n+12)) ct (dO (bf 45)).names [(gL,(.new 0)),(ip,(.new 2)),(l5,(.new 3)),(cu,(.new 48)),(dP,(.new 87)),(bS,(.int 13)),(eB,(.new 104)),(eP,(.new 118)),(ew,(.new 123))] (B1 l dx ms) K:=by kernel_rfl
def B2(l:List L)(dx en:bt)(ms:List L):an:=(.scr l::dx::en::.list ms::.inst 192 [(iY,(.int 48)),(mG,(.int 22)),(z "inodes",(.int 4)),(z "log",(.int 9)),(lA,(.int 2)),(jc,(.int 24)),(eP,(.int 2)),(z "indirect",(.int 12)),(z "log_start",(.int 2)),(BM,(.int 11)),(BL,(.int 13)),(v7,(.int 14))]::(c5 22 [.list [(.int 0)],.list (f9 48 (.int 0))] (.list [(.new 6),(.new 52),(.new 10),(.new 12),(.new 14),(.new 16),(.new 18),(.new 20),(.new 22),(.new 24),(.new 26),(.new 72),(.new 87),(.new 56),(.new 34),(.new 36),(.new 38),(.new 40),(.new 42),(.new 44),(.new 46),(.new 48)]::.ba (64::48::32::16::22::0::0::0::8::0::0::0::4::0::0::0::9::0::0::0::2::0::0::0::11::0::0::0::13::0::0::0::2::(c5 15 [0] []))::.list (c6 [270544960,22,8,4,9,2,11,13,2])::.list (c6 (64::48::32::16::22::0::0::0::8::0::0::0::4::0::0::0::9::0::0::0::2::0::0::0::11::0::0::0::13::0::0::0::2::(c5 15 [0] [])))::.list (c6 [255,63])::.list [(.int 0)]::.list (f9 46 (.int 0))::.list (c6 (255::63::(c5 46 [0] [])))::.list (c6 [1,2])::.list (c6 [0,0,0])::.list (c6 [2,0,0,0,0,0,1,0])::.list (c6 [0,0,0,0])::.list (c6 [2,0,0,0,0,0,1,0,0,0,0,0])::.list (c6 [0,0,0,0])::.list (c6 (2::0::0::0::0::0::1::(c5 9 [0] [])))::.list (c6 [0,0,0,0])::.list (c6 (2::0::0::0::0::0::1::(c5 13 [0] [])))::.list (c6 [0,0,0,0])::.list (c6 (2::0::0::0::0::0::1::(c5 17 [0] [])))::.tup (c6 [11,24])::.list (f9 24 (.int 0))::.list (c6 (c5 24 [0] (2::0::0::0::0::0::1::(c5 17 [0] []))))::.list []::.list (c6 (c5 24 [0] (2::0::0::0::0::0::1::(c5 17 [0] []))))::.list (c6 [0,0,0])::.list (c6 [2,0,0,0,0,0,1,0])::.list (c6 [0,0,0,0])::.list (c6 [2,0,0,0,0,0,1,0,0,0,0,0])::.list (c6 [0,0,0,0])::.list (c6 (2::0::0::0::0::0::1::(c5 9 [0] [])))::.list (c6 [0,0,0,0])::.list (c6 (2::0::0::0::0::0::1::(c5 13 [0] [])))::.list (c6 [0,0,0,0])::.list (c6 (2::0::0::0::0::0::1::(c5 17 [0] [])))::.tup (c6 [12,0])::.list []::.list (c6 (2::0::0::0::0::0::1::(c5 17 [0] [])))::.list (f9 24 (.int 0))::.list (c6 (2::0::0::0::0::0::1::(c5 41 [0] [])))::.inst 754 [(mG,(.int 22)),(dH,(.int 48)),(z "kept",(.new 89)),(z "latest",(.new 90)),(pY,(.new 98)),(eX,(.int 4)),(pX,(.int 1)),(z "last",.none),(yP,.none),(z "is_dead",(.bool aA))]::(c5 2 [.dict [((.int 1),(.bytes (64::48::32::16::22::0::0::0::8::0::0::0::4::0::0::0::9::0::0::0::2::0::0::0::11::0::0::0::13::0::0::0::2::(c5 15 [0] [])))),((.int 11),(.bytes (c5 24 [0] (2::0::0::0::0::0::1::(c5 17 [0] []))))),((.int 12),(.bytes (2::0::0::0::0::0::1::(c5 41 [0] [])))),((.int 13),(.bytes (255::63::(c5 46 [0] []))))]] [.list [(.new 94),(.new 95),(.new 96),(.new 97)],.tup [(.new 49),(.new 88)],.list (c6 [1,11,12,13]),.tup [(.int 1),(.bytes (64::48::32::16::22::0::0::0::8::0::0::0::4::0::0::0::9::0::0::0::2::0::0::0::11::0::0::0::13::0::0::0::2::(c5 15 [0] [])))],.tup [(.int 11),(.bytes (c5 24 [0] (2::0::0::0::0::0::1::(c5 17 [0] []))))],.tup [(.int 12),(.bytes (2::0::0::0::0::0::1::(c5 41 [0] [])))],.tup [(.int 13),(.bytes (255::63::(c5 46 [0] [])))],.list [],.inst 658 [(dP,(.new 88)),(nZ,(.int 14)),(dH,(.int 48)),(jc,(.new 100)),(sD,(.new 101)),(z "hits",(.int 0)),(z "reads",(.int 2)),(eX,(.int 0))],.list [(.new 110),(.new 116)],.dict [((.int 11),(.new 110)),((.int 12),(.new 116))],.inst 865 [(fU,(.new 99)),(q8,(.int 2)),(dH,(.int 9)),(eC,(.int 8)),(nZ,(.int 8)),(z "each",(.int 4)),(e5,(.new 103)),(t0,(.new 104)),(mH,(.int 0)),(sE,(.int 0))],.list [],.dict [],.inst 441 [(hl,(.new 102)),(fU,(.new 99)),(hO,(.new 4)),(z "table",(.new 106))],.dict [((.int 1),(.new 108)),((.int 2),(.new 114))],.tup (c6 [11,24]),.inst 281 [(eB,(.new 105)),(bS,(.int 1)),(iZ,(.int 1)),(z "kind",(.int 2)),(z "major",(.int 0)),(z "minor",(.int 0)),(z "links",(.int 1)),(dH,(.int 0)),(eC,(.new 112))],.list [],.inst 539 [(bS,(.int 11)),(gf,(.new 111)),(iZ,(.int 0)),(nc,(.int 0))],.ba (c5 24 [0] (2::0::0::0::0::0::1::(c5 17 [0] []))),.list (c6 [0,0,0]),.tup (c6 [12,0]),.inst 281 [(eB,(.new 105)),(bS,(.int 2)),(iZ,(.int 1)),(z "kind",(.int 2)),(z "major",(.int 0)),(z "minor",(.int 0)),(z "links",(.int 1)),(dH,(.int 0)),(eC,(.new 118))],.list [],.inst 539 [(bS,(.int 12)),(gf,(.new 117)),(iZ,(.int 0)),(nc,(.int 0))],.ba (2::0::0::0::0::0::1::(c5 41 [0] [])),.list (c6 [0,0,0]),.list [(.new 108),(.new 114)],.list (c6 [0,0,0]),.dict [((.str eC),(.new 120)),((.str dH),(.int 0))],.list (c6 [0,0,0]),.dict [((.str eC),(.new 122)),((.str dH),(.int 0))],.list [(.new 121),(.new 123)],.tup [(.new 119),(.new 124)]]))))
theorem aoq{n:Nat}{l:List L}{dx en:bt}{ms:List L}{ct:List cD}{K:ez}:b1 False (aw (n+12)) (bw (aW (bf 45)) 1::bw (aW (bf 45)) 2::bw (aW (bf 45)) 3::bw (aW (bf 45)) 4::bw (aW (bf 45)) 5::bw (aW (bf 45)) 6::ct) (dO (bf 45)).names [(gL,.new 0),(ip,.new 3)] [.scr l,dx,en,.list ms] K=b1 False (aw (n+12)) ct (dO (bf 45)).names [(gL,(.new 0)),(ip,(.new 3)),(l5,(.new 4)),(cu,(.new 49)),(dP,(.new 88)),(bS,(.int 13)),(eB,(.new 105)),(eP,(.new 119)),(ew,(.new 124))] (B2 l dx en ms) K:=by kernel_rfl
theorem Ia:∀ {rs:List bh} {H:an},rs.length=H.length->ao (rs.zip H)=H
 | [],[],_=>rfl
 | [],_::_,h=>nomatch h
 |_::_,[],h=>nomatch h
 |_::rs,o::H,h=>congrArg (o:: ·) (Ia (rs:=rs) (H:=H) (M3 h))
theorem PS:∀ {l:List (L×L)} {k v:L},dV l k=J v->(k,v)∈l
 | [],_,_,h=>br h
 |(y,u)::l,k,v,h=>by
  rw [oz] at h;by_cases q:y=k
  ·rw [aY q] at h;cases h;rw [q];exact fK
  ·rw [a8 q] at h;exact f8 _ (PS h)
noncomputable def bY:jx:=⟨0,0,0⟩
def AU:List (L×L):=[((.int 1),(.bytes (64::48::32::16::22::0::0::0::8::0::0::0::4::0::0::0::9::0::0::0::2::0::0::0::11::0::0::0::13::0::0::0::2::(c5 15 [0] [])))),((.int 11),(.bytes (c5 24 [0] (2::0::0::0::0::0::1::(c5 17 [0] []))))),((.int 12),(.bytes (2::0::0::0::0::0::1::(c5 41 [0] [])))),((.int 13),(.bytes (255::63::(c5 46 [0] []))))]
def wX:List UInt8:=(c5 24 [0] (2::0::0::0::0::0::1::(c5 17 [0] [])))
def wY:List UInt8:=(2::0::0::0::0::0::1::(c5 41 [0] []))
noncomputable def Jd(y:Nat):List UInt8:=if y=11 then wX else if y=12 then wY else match dV AU (.int y) with
 |J (.bytes x)=>x
 |_=>jv
def uD:cR:= {img:=Jd,fl:=λ_=>bY,nums:=dd [1,11,12,13]}
def qt(d:Nat):hq:= {hits:=0,reads:=2,cw:=0,bs:=[⟨109+d,110+d,11,wX,0,0⟩,⟨115+d,116+d,12,wY,0,0⟩],bnl:=[(.int 11,.new (109+d)),(.int 12,.new (115+d))],held:=ac,pd:=[]}
def xx(d:Nat):gj:= {lal:=AU,kel:=AU,un:=97+d,unl:=[],writes:=4,flushes:=1,ns:=102+d,nums:=[],nt:=103+d,ntl:=[],calls:=0,commits:=0}
theorem Rl:jj AU:=⟨by decide+kernel,by decide+kernel⟩
theorem DB(d:Nat):Inv (qt d) (xx d):=by
 have two:∀ {Q:e6->Prop},Q ⟨109+d,110+d,11,wX,0,0⟩->Q ⟨115+d,116+d,12,wY,0,0⟩->∀b∈(qt d).bs,Q b:=λa b x aO=>by
  rcases fw.mp aO with rfl|aO
  ·exact a
  ·rw [jk.mp aO];exact b
 refine⟨by show [11,12].Nodup;decide,two (by show 11<22;decide) (by show 12<22;decide),two (by show wX.length=48;decide+kernel) (by show wY.length=48;decide+kernel),by show 2<=14;decide,λn=>?_,⟨by show [L.int 11,L.int 12].Nodup;decide,by show∀x∈[L.int 11,L.int 12],x∈Jp;decide+kernel⟩,Rl,Rl,⟨Cb,(λ_ h=>absurd h jl)⟩,λn v e=>?_,λ_=>rfl,Cb,hf _,nofun,two rfl rfl,two rfl rfl,two (λ_ _=>by kernel_rfl) (λ_ _=>by kernel_rfl),nofun⟩
 ·by_cases h:n=11
  ·subst h;rfl
  ·by_cases ak:n=12
   ·subst ak;rfl
   ·have e1:¬L.int 11=L.int (n:Int):=xe (a:=11) λz=>h z.symm
    have e2:¬L.int 12=L.int (n:Int):=xe (a:=12) λz=>ak z.symm
    rw [Im (two (λz=>h z.symm) (λz=>ak z.symm))]
    exact PT λz=>by
     rcases fw.mp z with z|z
     ·exact e1 z.symm
     ·exact e2 (jk.mp z).symm
 ·have :=PS e;have a:∀p∈AU,(match p.2 with | .bytes x=>x.length==48|_=>aA)=ae:=by decide+kernel
  have :=a _ this;cases v<;>first |exact⟨_,rfl,by simpa using this⟩|cases this
theorem SE{P:Nat->Prop}(h:∀i∈[0,1,11,12,13,14,15,16,17,18,19,20,21],P i){y:Nat}(aR:gY y)(hy:y<22):P y:=
 h y ((by decide:∀y<22,(y<2\/11<=y)->y∈[0,1,11,12,13,14,15,16,17,18,19,20,21]) y hy aR)
theorem DA(d:Nat)(y:Nat):cnt (qt d) (xx d) y=Jd y:=by
 unfold Jd;by_cases h:y=11
 ·subst h;rfl
 ·by_cases ak:y=12
  ·subst ak;rfl
  ·rw [a8 h,a8 ak];unfold cnt;rw [Im (bs:=(qt d).bs) λb hb=>by
    rcases fw.mp hb with rfl|hb
    ·exact λz=>h z.symm
    ·rw [jk.mp hb];exact λz=>ak z.symm]
   rfl
theorem SK(ix:Nat):cK bY ix=0:=by unfold cK;split<;>rfl
theorem TY:et uD:=⟨by decide+kernel,λ_ _ _ _=>.inl (SK _),λ_ _=>by show 0<1000;decide,λ_ _ _ _ _ _ _ _ _ _=>SK _⟩
def an5:List bh:=(.scr::.x 0::.x 14::.s::.x 0::.ir 0::.x 0::.x 0::.x 0::.ir 2::.x 0::.ir 3::.x 0::.ir 4::.x 0::.ir 5::.x 0::.ir 6::.x 0::.ir 7::.x 0::.ir 8::.x 0::.ir 9::.x 0::.ir 10::(c5 7 [.x 0] (.ir 14::.x 0::.ir 15::.x 0::.ir 16::.x 0::.ir 17::.x 0::.ir 18::.x 0::.ir 19::.x 0::.ir 20::.x 0::.ir 21::.im::.x 0::.x 0::.ir 1::.x 0::.x 0::.x 0::.ir 13::(c5 15 [.x 0] (.ir 11::(c5 14 [.x 0] (.ir 12::.d::.ke::.la::.x 0::.x 0::.to::(c5 4 [.x 0] [.un,.c,.row,.bn,.j,.ns,.nt,.n,.tb,.x 0,.nd 1,.x 0,.bo 11,.bd 11,.pl 1,.x 0,.nd 2,.x 0,.bo 12,.bd 12,.pl 2,.x 10,.fp 1,.fd 1,.fp 2,.fd 2,.fs,.x 0]))))))))
def zh(l:List L)(dx:bt)(ms:List L):dB:=an5.zip (B1 l dx ms)
theorem ade{l:List L}{dx:bt}{ms:List L}:ao (zh l dx ms)=B1 l dx ms:=Ia (by kernel_rfl)
def Uo:g1:= {s:=3,d:=87,c:=98,j:=101,n:=104,row:=99,bn:=100,la:=89,ke:=88,tb:=105}
noncomputable def ah0(f:Nat):Nat:=if f=1 then 107 else 113
noncomputable def aij(f:Nat):Nat:=if f=1 then 111 else 117
def ahz:lE:= {im:=48,fs:=123,fd:=λf=>if f=1 then 120 else 122}
noncomputable def S5(y:Nat):Nat:=([5,51,9,11,13,15,17,19,21,23,25,71,86,55,33,35,37,39,41,43,45,47]:List Nat)[y]?.getD 0
noncomputable def adP(f:Nat):Nat:=if f=1 then 119 else 121
theorem aae{l:List L}{dx:bt}{ms:List L}:p3 Uo ah0 ahz 118 aij 92 S5 adP (qt 0) (xx 0) uD [1,11,12,13] (zh l dx ms):=by
 have two:∀ {Q:e6->Prop},Q ⟨109,110,11,wX,0,0⟩->Q ⟨115,116,12,wY,0,0⟩->∀b∈(qt 0).bs,Q b:=λa b x aO=>by
  rcases fw.mp aO with rfl|aO
  ·exact a
  ·rw [jk.mp aO];exact b
 have z:gW (zh l dx ms):=⟨_,rfl⟩;refine⟨⟨z,?_,?_,?_,?_,?_,?_,?_,?_,?_,?_,(λ_ h=>absurd h jl),?_,?_,two ?_ ?_,two ?_ ?_⟩,DB 0,rfl,rfl,rfl,rfl,rfl,?_,λy _=>DA 0 y,TY,⟨z,?_,?_,?_,?_,?_,rfl,?_⟩,?_⟩
 case refine_17=>rintro f (rfl|rfl)<;>constructor<;>kernel_rfl
 case refine_19=>
  intro y h ak;refine SE (P:=λy=>((zh l dx ms))[S5 y]? =J (bh.ir y,bt.list (List.map di (uD.img y)))) ?_ h ak
  iterate 13 refine MO.mpr ⟨by kernel_rfl,?_⟩
  exact λ_ h=>absurd h jl
 case refine_21=>rintro f (rfl|rfl)<;>constructor<;>kernel_rfl
 case refine_23=>intro y _;rw [show uD.img y=cnt (qt 0) (xx 0) y from(DA 0 y).symm];exact C2 (DB 0)
 all_goals kernel_rfl
def an6:List bh:=(.scr::.x 0::.x 0::.x 14::.s::.x 0::.ir 0::.x 0::.x 0::.x 0::.ir 2::.x 0::.ir 3::.x 0::.ir 4::.x 0::.ir 5::.x 0::.ir 6::.x 0::.ir 7::.x 0::.ir 8::.x 0::.ir 9::.x 0::.ir 10::(c5 7 [.x 0] (.ir 14::.x 0::.ir 15::.x 0::.ir 16::.x 0::.ir 17::.x 0::.ir 18::.x 0::.ir 19::.x 0::.ir 20::.x 0::.ir 21::.im::.x 0::.x 0::.ir 1::.x 0::.x 0::.x 0::.ir 13::(c5 15 [.x 0] (.ir 11::(c5 14 [.x 0] (.ir 12::.d::.ke::.la::.x 0::.x 0::.to::(c5 4 [.x 0] [.un,.c,.row,.bn,.j,.ns,.nt,.n,.tb,.x 0,.nd 1,.x 0,.bo 11,.bd 11,.pl 1,.x 0,.nd 2,.x 0,.bo 12,.bd 12,.pl 2,.x 10,.fp 1,.fd 1,.fp 2,.fd 2,.fs,.x 0]))))))))
def zi(l:List L)(dx en:bt)(ms:List L):dB:=an6.zip (B2 l dx en ms)
theorem adf{l:List L}{dx en:bt}{ms:List L}:ao (zi l dx en ms)=B2 l dx en ms:=Ia (by kernel_rfl)
def Up:g1:= {s:=4,d:=88,c:=99,j:=102,n:=105,row:=100,bn:=101,la:=90,ke:=89,tb:=106}
noncomputable def ah1(f:Nat):Nat:=if f=1 then 108 else 114
noncomputable def aik(f:Nat):Nat:=if f=1 then 112 else 118
def ahA:lE:= {im:=49,fs:=124,fd:=λf=>if f=1 then 121 else 123}
noncomputable def S6(y:Nat):Nat:=([6,52,10,12,14,16,18,20,22,24,26,72,87,56,34,36,38,40,42,44,46,48]:List Nat)[y]?.getD 0
noncomputable def adQ(f:Nat):Nat:=if f=1 then 120 else 122
theorem aaf{l:List L}{dx en:bt}{ms:List L}:p3 Up ah1 ahA 119 aik 93 S6 adQ (qt 1) (xx 1) uD [1,11,12,13] (zi l dx en ms):=by
 have two:∀ {Q:e6->Prop},Q ⟨110,111,11,wX,0,0⟩->Q ⟨116,117,12,wY,0,0⟩->∀b∈(qt 1).bs,Q b:=λa b x aO=>by
  rcases fw.mp aO with rfl|aO
  ·exact a
  ·rw [jk.mp aO];exact b
 have z:gW (zi l dx en ms):=⟨_,rfl⟩;refine⟨⟨z,?_,?_,?_,?_,?_,?_,?_,?_,?_,?_,(λ_ h=>absurd h jl),?_,?_,two ?_ ?_,two ?_ ?_⟩,DB 1,rfl,rfl,rfl,rfl,rfl,?_,λy _=>DA 1 y,TY,⟨z,?_,?_,?_,?_,?_,rfl,?_⟩,?_⟩
 case refine_17=>rintro f (rfl|rfl)<;>constructor<;>kernel_rfl
 case refine_19=>
  intro y h ak;refine SE (P:=λy=>((zi l dx en ms))[S6 y]? =J (bh.ir y,bt.list (List.map di (uD.img y)))) ?_ h ak
  iterate 13 refine MO.mpr ⟨by kernel_rfl,?_⟩
  exact λ_ h=>absurd h jl
 case refine_21=>rintro f (rfl|rfl)<;>constructor<;>kernel_rfl
 case refine_23=>intro y _;rw [show uD.img y=cnt (qt 1) (xx 1) y from(DA 1 y).symm];exact C2 (DB 1)
 all_goals kernel_rfl
end Mine.Internal.P
end
noncomputable section
open PySem PySem.W PyProof.Rows PySem.Calls
namespace Mine.Internal.P
def qV(m:Nat):List L:=(nn ((m+1)/2)).map λi=>dz (2*i)
theorem apf{n:Nat}{P:Nat->Prop}(h:∀i∈nn n,P i){m:Nat}(bc:m<n):P m:=h m (MU.mpr bc)
theorem anX{m:Nat}(h:m<=10):lV [.int 0,.int (m:Int),.int 2]=J (qV m):=by
 refine apf (n:=11) (P:=λm:Nat=>lV [.int 0,.int (m:Int),.int 2]=J (qV m)) ?_ (MZ h)
 show∀i∈[0,1,2,3,4,5,6,7,8,9,10],_
 iterate 11 refine MO.mpr ⟨rfl,?_⟩
 exact λ_ h=>absurd h jl
section
variable {A:g1}{b7 cO:Nat->Nat}{al:hq}{re:gj}{a2:lE}{to:Nat}{ra fp:Nat->Nat}{P:cR}{T:List Nat}{K:dB}{k:b3}{n gp mk:Nat}{i j:Nat}{r:bh}{q:ez}{H:an}{ms:List Nat}{sc pl nm:L}
abbrev MA(A:g1)(a2:lE)(gp mk:Nat)(sc pl nm:L):Loc:=[(gL,sc),(ip,.new mk),(l5,pl),(cu,.new a2.im),(dP,.new A.d),(bS,nm),(eB,.new A.n),(eP,.new gp),(ew,.new a2.fs)]
abbrev Fm(A:g1)(a2:lE)(gp mk:Nat)(sc pl nm v:L):Loc:=[(gL,sc),(ip,.new mk),(l5,pl),(cu,.new a2.im),(dP,.new A.d),(bS,nm),(eB,.new A.n),(eP,.new gp),(ew,.new a2.fs),(e4,v)]
theorem ZH{a b c d e f aB h i v:L}:eu f2 yS (.one v) [(gL,a),(ip,b),(l5,c),(cu,d),(dP,e),(bS,f),(eB,aB),(eP,h),(ew,i)] H=J [(gL,a),(ip,b),(l5,c),(cu,d),(dP,e),(bS,f),(eB,aB),(eP,h),(ew,i),(e4,v)]:=by kernel_rfl
theorem ZI{a b c d e f aB h i u v:L}:eu f2 yS (.one v) [(gL,a),(ip,b),(l5,c),(cu,d),(dP,e),(bS,f),(eB,aB),(eP,h),(ew,i),(e4,u)] H=J [(gL,a),(ip,b),(l5,c),(cu,d),(dP,e),(bS,f),(eB,aB),(eP,h),(ew,i),(e4,v)]:=by kernel_rfl
theorem agJ{ao9:L}(B:p3 A b7 a2 gp cO to ra fp al re P T K)(hJ:K[mk]? =J (.x 14,.list (ms.map dz)))(ak:ms.length<=10)(aD:re.commits=(((ms.length+1)/2:Nat):Int))(h:∀H,k (.bool ae) H):
  ed (aw (n+12)) ((aW (bf 45)).drop 8) f2 (dM k) .next (Fm A a2 gp mk sc pl nm ao9) (ao K):=by
 have n1:=B.nf 1 (.inl rfl);have n2:=B.nf 2 (.inr rfl);refine Xd (a3 (hL (p:=0) B.er_ (by decide) rfl) (au (aN n1.1 rfl rfl) (a3 (hL (p:=1) B.er_ (by decide) rfl) (au (aN n2.1 rfl rfl) (au (aN B.S.n rfl rfl) (au (aN B.S.j rfl rfl) (gz (.x 0) ?_)))))))
 have ma:=B.GL.ex (el.app K [(bh.x 0,bt.list [.int (P.fl 1).size,.int (P.fl 2).size,.int re.commits])]);have ch:=ma.fd 1 (.inl rfl);have cd:=ma.fd 2 (.inr rfl);have H6:(K++[(bh.x 0,bt.list [.int (P.fl 1).size,.int (P.fl 2).size,.int re.commits])])[mk]? =_:=cf hJ;have e1:(K++[(bh.x 0,bt.list [.int (P.fl 1).size,.int (P.fl 2).size,.int re.commits])])[K.length]? =_:=c2;refine a3 (hL (p:=0) ma.fs (by decide) rfl) (a3 (DJ ch.1 rfl rfl) (a3 (hL (p:=1) ma.fs (by decide) rfl) (a3 (DJ cd.1 rfl rfl) (a3 (pE H6 (fE (by refine G (d0 ..) ?_;omega))) ?_))))
 refine G (d0 ..) (a3 (f3 (c:=1)) (a3 (kr (c:=2) (by decide)) (gz (.x 0) ?_)))
 refine au (P7 (cf e1) (cT aD c2) rfl) (h _)
theorem agK(ak:ms.length<=10)(h:∀H,k (.bool ae) H):∀(c3 p:Nat) {mm:Loc} {cO to ra fp al re P T K},p3 A b7 a2 gp cO to ra fp al re P T K->re.commits=(p:Int)->K[mk]? =J (.x 14,.list (ms.map dz))->p<=(ms.length+1)/2->(ms.length+1)/2<p+c3->
   ((mm=MA A a2 gp mk sc pl nm/\ ¬p=(ms.length+1)/2)\/ ∃v,mm=Fm A a2 gp mk sc pl nm v)->
   gR False f2 yS (λm H q=>b1 False (aw (n+12)) (ei (bw (aW (bf 45)) 7)) f2 m H q) (.items (qV ms.length)) c3 p mm (ao K) (ed (aw (n+12)) ((aW (bf 45)).drop 8) f2 (dM k)):=by
 intro c3;induction c3 with
 |zero=>
  exact @λp mm cO to ra fp al re P T K B aD hJ aZ cC Bl=>by
   exact absurd cC (n9.mpr aZ)
 |succ c3 ih=>
  exact @λp mm cO to ra fp al re P T K B aD hJ aZ cC Bl=>by
   by_cases hp:p=(ms.length+1)/2
   ·rcases Bl with Bl|⟨v,rfl⟩
    ·exact absurd hp Bl.2
    ·refine mr ?_ (agJ B hJ ak (hp▸aD) h);show J ((qV ms.length)[p]?.map n4.one)=_
     exact G (mP (by unfold qV;rw [d0,uy];exact iB (id (rf hp)))) rfl
   ·have iC:itemAt (.items (qV ms.length)) p (ao K)=J (J (.one (dz (2*p)))):=by
     show J ((qV ms.length)[p]?.map n4.one)=_
     have :(qV ms.length)[p]? =J (dz (2*p)):=by
      unfold qV;exact G kZ (G (B7 (Ci aZ hp)) rfl)
     exact G this rfl
    have step:b1 False (aw (n+12)) (ei (bw (aW (bf 45)) 7)) f2 (Fm A a2 gp mk sc pl nm (dz (2*p))) (ao K) λdn m H=>match dn with
      | .next| .cont=>gR False f2 yS (λm H q=>b1 False (aw (n+12)) (ei (bw (aW (bf 45)) 7)) f2 m H q) (.items (qV ms.length)) c3 (p+1) m H (ed (aw (n+12)) ((aW (bf 45)).drop 8) f2 (dM k))
      | .brk=>ed (aw (n+12)) ((aW (bf 45)).drop 8) f2 (dM k) .next m H
      | .ret v=>ed (aw (n+12)) ((aW (bf 45)).drop 8) f2 (dM k) (.ret v) m H:=by
     refine aqP (a3 (f3 (a:=2*p) (c:=2)) ?_);refine a3 (Tg hJ (fE (by refine G (d0 ..) ?_;omega)) (Xu aZ ak) (by decide) (.x 13)) ?_
     have jd:=B.ex (el.app K [(bh.x 13,bt.list (((ms.map dz).drop (2*p)).take 2))]);have e1:(K++[(bh.x 13,bt.list (((ms.map dz).drop (2*p)).take 2))])[K.length]? =J (.x 13,.list (((ms.drop (2*p)).take 2).map dz)):=G F6 (G MR c2);have H6:(K++[(bh.x 13,bt.list (((ms.map dz).drop (2*p)).take 2))])[mk]? =_:=cf hJ;have bc:(∃a,(ms.drop (2*p)).take 2=[a])\/ ∃a b,(ms.drop (2*p)).take 2=[a,b]:=by
      have aQ:(ms.drop (2*p)).length=ms.length - 2*p:=wl;match e:ms.drop (2*p),aQ with
      | [],aQ=>exact(mf (M2 (Xv aZ ‹_›)) aQ).elim
      | [a],_=>exact .inl ⟨a,rfl⟩
      |a::b::_,_=>exact .inr ⟨a,b,rfl⟩
     refine abx (n:=n) jd e1 bc λm3 tW oR oD bJ re' P' ml aX Uq c' adS=>au rfl (g7 rfl ?_)
     exact ih (p+1) Uq (G c' (G aD rfl)) (adS _ _ _ (by decide) (by decide) H6) (Xw aZ hp) (rP cC) (.inr ⟨_,rfl⟩)
    rcases Bl with⟨rfl,_⟩|⟨v,rfl⟩
    ·exact iQ iC ZH step
    ·exact iQ iC ZI step
theorem Rm(B:p3 A b7 a2 gp cO to ra fp al re P T K)(aD:re.commits=0)(hJ:K[mk]? =J (.x 14,.list (ms.map dz)))(ai:¬ms.length=0)(ak:ms.length<=10)(h:∀H,k (.bool ae) H):
  b1 False (aw (n+12)) ((aW (bf 45)).drop 7) f2 (MA A a2 gp mk sc pl nm) (ao K) (dM k):=by
 refine Ze (a3 (pE hJ (fE (by refine G (d0 ..) ?_;omega))) ?_)
 refine G (d0 ..) (au (anX ak) ?_);refine agK ak h f6 0 B aD hJ (hf _) (by unfold f6;exact Xz ak) (.inl ⟨rfl,XA ai⟩)
end
variable {A:g1}{b7 cO ra fp:Nat->Nat}{al:hq}{re:gj}{a2:lE}{to n gp i j:Nat}{P:cR}{T:List Nat}{K:dB}{r:bh}{H:an}
section
variable {kB bI:an}
section
variable {l:List L}{ct:List cD}{K:ez}{k:b3}{fQ:List Int}
theorem an7(aD:bW .Eq (.new 0) (.new 1) [.scr l,.list []]=J ae)(h:b1 False (aw n) ct f2 [(gL,.new 0),(ip,.new 2)] [.scr l,.list [],.list [.int 0,.int 1]] K):
  b1 False (aw n) (bw (aW (bf 45)) 0::ct) f2 [(gL,.new 0)] [.scr l] K:=by
 exact SF (au aD h)
theorem ahy{i:Nat}{kt:Nat->Prop}(e:H[i]? =J (.list l))(h:kt i):lp (.new i) H kt:=by
 have e:listOf (.new i) H=J i:=by
  show((H[i]?.bind AX).bind λ_=>J i)=_
  rw [e];rfl
 unfold lp;rw [e];exact h
theorem ZJ{m:Loc}{v:L}(bc:m=[]\/ ∃u,m=[(fV,u)]):eu ud My (.one v) m H=J [(fV,v)]:=by
 rcases bc with rfl|⟨u,rfl⟩<;>kernel_rfl
noncomputable def tO(a:Int):Nat:=a.natAbs%1000000000000
noncomputable def RJ:L->L
 | .int a=>dz (tO a)
 |_=>.none
theorem acX{a:Int}{q:b3}(h:q (dz (tO a)) H):bO False (aw n) (j8 uc 0) ud [(fV,.int a)] H q:=by
 refine acQ (a3 (a:=.int (a.natAbs:Nat)) (b:=H) rfl (a3 (a:=.int ((1000000000000:Nat):Int)) (b:=H) rfl (a3 (ks (c:=1000000000000) (by decide)) h)))
theorem an9(aD:bW .Eq (.new 0) (.new 1) [.scr (fQ.map .int),.list []]=J aA)(aQ:fQ.length<=63)
  (h:b1 False (aw n) ct f2 [(gL,.new 0),(ip,.new 3)] [.scr (fQ.map .int),.list [],.list ((fQ.take 10).map .int),.list (((fQ.take 10).map tO).map dz)] K):
  b1 False (aw n) (bw (aW (bf 45)) 0::ct) f2 [(gL,.new 0)] [.scr (fQ.map .int)] K:=by
 refine SF (au aD (a3 (a:=.new 2) (b:=[.scr (fQ.map .int),.list [],.list ((fQ.take 10).map .int)]) ?_ ?_))
 ·show(if bH (fQ.map L.int).length then(jY (fQ.map L.int) ac (J 10)).map λl=>(L.new 2,[bt.scr (fQ.map .int),bt.list []]++[bt.list l]) else ac)=_
  rw [aY (fE (by rw [d0];omega))]
  rw [F6];rfl
 ·refine ahy (l:=(fQ.take 10).map .int) rfl (wV (s:=.lst 2) (H:=[.scr (fQ.map .int),.list [],.list ((fQ.take 10).map .int)]) (items:=(fQ.take 10).map .int) (P:=λm=>m=[]\/ ∃u,m=[(fV,u)]) (mm:=λv=>[(fV,v)]) (c:=λ_=>ae) (f:=RJ) (λp=>rfl) (λv m bc=>ZJ bc) (λv=>.inr ⟨v,rfl⟩) (λv _ q h=>adu h) (λv hv _ q h=>?_) f6 0 [] [] (.inl rfl) ?_ (hf _) ?_)
  ·refine bU (hQ.mp hv) λa _ amf=>?_;obtain rfl:=amf
   exact acX h
  ·rw [d0,o6];unfold f6;exact XQ
  ·have e:[]++(((fQ.take 10).map L.int).drop 0|>.filter λ_=>ae).map RJ=((fQ.take 10).map tO).map dz:=by
    rw [zs,zm,Vg.mpr (λ_ _=>rfl),B8,B8];rfl
   rw [e];exact h
theorem aon{dx:bt}{ms:List L}(dh:kB=[.scr l,dx,.list ms])(e1:bI=B1 l dx ms)(h:b1 False (aw (n+12)) ct f2 [(gL,(.new 0)),(ip,(.new 2)),(l5,(.new 3)),(cu,(.new 48)),(dP,(.new 87)),(bS,(.int 13)),(eB,(.new 104)),(eP,(.new 118)),(ew,(.new 123))] bI K):
  b1 False (aw (n+12)) (bw (aW (bf 45)) 1::bw (aW (bf 45)) 2::bw (aW (bf 45)) 3::bw (aW (bf 45)) 4::bw (aW (bf 45)) 5::bw (aW (bf 45)) 6::ct) f2 [(gL,.new 0),(ip,.new 2)] kB K:=by
 subst dh;subst e1;unfold f2 at h⊢;rw [aoo];exact h
theorem aop{dx en:bt}{ms:List L}(dh:kB=[.scr l,dx,en,.list ms])(e1:bI=B2 l dx en ms)(h:b1 False (aw (n+12)) ct f2 [(gL,(.new 0)),(ip,(.new 3)),(l5,(.new 4)),(cu,(.new 49)),(dP,(.new 88)),(bS,(.int 13)),(eB,(.new 105)),(eP,(.new 119)),(ew,(.new 124))] bI K):
  b1 False (aw (n+12)) (bw (aW (bf 45)) 1::bw (aW (bf 45)) 2::bw (aW (bf 45)) 3::bw (aW (bf 45)) 4::bw (aW (bf 45)) 5::bw (aW (bf 45)) 6::ct) f2 [(gL,.new 0),(ip,.new 3)] kB K:=by
 subst dh;subst e1;unfold f2 at h⊢;rw [aoq];exact h
theorem an8(dh:kB=[.scr l])(e1:bI=[.scr l,.list [],.list [.int 0,.int 1]])(aD:bW .Eq (.new 0) (.new 1) [.scr l,.list []]=J ae)(h:b1 False (aw n) ct f2 [(gL,.new 0),(ip,.new 2)] bI K):
 b1 False (aw n) (bw (aW (bf 45)) 0::ct) f2 [(gL,.new 0)] kB K:=by subst dh;subst e1;exact an7 aD h
theorem aoa(dh:kB=[.scr (fQ.map .int)])(e1:bI=[.scr (fQ.map .int),.list [],.list ((fQ.take 10).map .int),.list (((fQ.take 10).map tO).map dz)])(aD:bW .Eq (.new 0) (.new 1) [.scr (fQ.map .int),.list []]=J aA)(aQ:fQ.length<=63)(h:b1 False (aw n) ct f2 [(gL,.new 0),(ip,.new 3)] bI K):
 b1 False (aw n) (bw (aW (bf 45)) 0::ct) f2 [(gL,.new 0)] kB K:=by subst dh;subst e1;exact an9 aD aQ h
theorem agH{KK:dB}{ms:List Nat}(vc:KK=zh l (.list []) [.int 0,.int 1])(bc:ms=[0,1])(w5:kB=[.scr l])(ai:bI=[.scr l,.list [],.list [.int 0,.int 1]])(aQ:l=[])(h:∀H,k (.bool ae) H):b1 False (aw (n+12)) (aW (bf 45)) f2 [(gL,.new 0)] kB (dM k):=by
 have a:=Rm (n:=n) (k:=k) (sc:=.new 0) (pl:=.new 3) (nm:=.int 13) (ms:=ms) (mk:=2) (K:=KK) (by rw [vc];exact aae) rfl (by rw [vc,bc];rfl) (by rw [bc];decide) (by rw [bc];decide) h
 have b:=aon ai (by rw [vc];exact ade) a
 have c:=an8 w5 ai (by subst aQ;rfl) b
 exact bZ (by kernel_rfl) c
theorem agI{KK:dB}{ms:List Nat}(vc:KK=zi (fQ.map .int) (.list []) (.list ((fQ.take 10).map .int)) (((fQ.take 10).map tO).map dz))(bc:ms=(fQ.take 10).map tO)(w5:kB=[.scr (fQ.map .int)])(ai:bI=[.scr (fQ.map .int),.list [],.list ((fQ.take 10).map .int),.list (((fQ.take 10).map tO).map dz)])(aQ:¬fQ=[])(IA:fQ.length<=63)(h:∀H,k (.bool ae) H):b1 False (aw (n+12)) (aW (bf 45)) f2 [(gL,.new 0)] kB (dM k):=by
 have a:=Rm (n:=n) (k:=k) (sc:=.new 0) (pl:=.new 4) (nm:=.int 13) (ms:=ms) (mk:=3) (K:=KK) (by rw [vc];exact aaf) rfl (by rw [vc,bc];rfl) (by rw [bc];induction fQ using mO with |nil=>exact absurd rfl aQ|cons a b=>simp) (by rw [bc,d0,o6];exact sT 10 fQ.length) h
 have b:=aop ai (by rw [vc];exact adf) a
 have c:=aoa w5 ai (by induction fQ using mO with |nil=>exact absurd rfl aQ|cons a b=>rfl) IA b
 exact bZ (by kernel_rfl) c
theorem asV(w5:kB=[.scr (fQ.map .int)])(IA:fQ.length<=63)(h:∀H,k (.bool ae) H):aw (n+13) 927 [.new 0] kB k:=by
 refine Bk (st:=bf 45) (ss:=aW (bf 45)) (m:=[(gL,.new 0)]) (by kernel_rfl) (by decide) (by kernel_rfl) rfl (by kernel_rfl) ?_
 by_cases e:fQ=[]
 ·exact agH (l:=fQ.map .int) rfl rfl w5 rfl (by rw [e];rfl) h
 ·exact agI rfl rfl w5 rfl e IA h
end
end
variable {l:List L}
end Mine.Internal.P
end
noncomputable section
open PySem
namespace Mine.Internal
section
variable {M:qh}{A:kI}{E:aG->cn->Prop}{h:bq}{aB:Array GenState}{d:Drawn}{t:Nat}{os:gv}
variable {nm q:Str}{C N:a1}{bs bm tm:List aG}{hdct:Bool}{sn:List Str}{sub:List aG}{ab:Bool}{col:Option Bool}{dd:Option a1}{k0 k1 k2 k3 k5:Option aG}{B newId m1:String}
theorem ar0(a9:zx B newId m1 tm)(dv:bm.contains (.type B)=ae){ct:List aG}{Q:Unit->cn->Prop}(dD:h.get? C=J (wE nm q C N bs bm hdct sn sub ab col dd k0 k1 k2 k3 k5 newId))
  (cJ:Q () ⟨h,aB,d,t,os⟩):cG M A (rE newId ⟨.ref C::ct,[]⟩) Q E ⟨h,aB,d,t,os⟩:=by
 have aeO:(lK C::bm).contains (.type B)=ae:=by(exact G (uw ..) (G dv (G (E8 ..) rfl)))
 have QS:=a9.noStar;simp only [rE,a9.newKind,a9.newSplit,a9.newRow];repeat (first |refine ta dD ?_|(refine CH dD ?_;(refine G aeO ?_))|refine wpAny_staticBase_exc dD ?_|refine wpAny_madeBy_exc dD ?_|simp only [bne_self_eq_false,ng,if_false]|wp_step)
 exact cJ
theorem arZ(a9:zx B newId m1 tm)(dv:bm.contains (.type B)=ae){e:a1}{Kb:Obj}{ct:List aG}{Q:Unit->cn->Prop}
  (dD:h.get? C=J (wE nm q C N bs bm hdct sn sub ab col dd k0 k1 k2 k3 k5 newId)) (bl:h.get? e=J Kb) (II:Kb.cls=.ref C) (cJ:Q () ⟨h,aB,d,t,os⟩):
  cG M A (rE m1 ⟨.ref e::ct,[]⟩) Q E ⟨h,aB,d,t,os⟩:=by
 have Ay:(lK C::bm).contains (.type B)=ae:=by(exact G (uw ..) (G dv (G (E8 ..) rfl)))
 have asJ:=a9.noStar;simp only [rE,a9.initKind,a9.initSplit,a9.initRow];repeat (first |(with_reducible refine ta bl ?_;(refine G II ?_))|with_reducible refine ta dD ?_|(with_reducible refine CH dD ?_;(refine G Ay ?_))|wp_step)
 refine wpAny_onRaise ?_;rw [show∀(a b:String) (n:Nat),Bind.check ⟨.positional,"*",B,.self,[⟨"args",.varPos,aA⟩]⟩ a b n (List.map (λx=>x.fst) ({pos:=lK e::ct}:Args).kw)=bK () from
  λa b n=>check_star_args _ _ _ _ _ _]
 exact cL cJ
end
section
variable {prog:uG}{w:eJ}{A:kI}{R:Result->cn->Prop}{E:aG->cn->Prop}{h:bq}{aB:Array GenState}{d:Drawn}{t:Nat}{os:gv}
variable {nm q:Str}{C N:a1}{bs bm tm:List aG}{hdct:Bool}{sn:List Str}{sub:List aG}{ab:Bool}{col:Option Bool}{dd:Option a1}{k0 k1 k2 k3 k5:Option aG}{B newId m1:String}
theorem ar1(a9:zx B newId m1 tm)(dv:bm.contains (.type B)=ae)(dy:bm.contains (.type "AttributeError")=aA)(eT:bm.contains (.type "NameError")=aA){ct:List aG}
  (dD:h.get? C=J (wE nm q C N bs bm hdct sn sub ab col dd k0 k1 k2 k3 k5 newId))
  (cJ:R (.ok (.ret (.ref (h.objs.size+1)))) ⟨(h.push {cls:=.type "tuple",data:=.seq ct.toArray}).push
   {cls:=.ref C,data:=.fields #[.ref h.objs.size,.none,.none,.none,.bool aA,.none]},aB,d,t,os⟩) (hrest:ct.length<=mh:=by size_fits):
  codeAny (c8 prog w) A (.builtin newId ⟨.ref C::ct,[]⟩) R ⟨h,aB,d,t,os⟩:=by
 have asH:=a9.ends;have Ay:(lK C::bm).contains (.type B)=ae:=by rw [uw,dv,E8]
 have aeK:(lK C::bm).contains (.type "AttributeError")=aA:=G uw (G dy rfl);have aeN:(lK C::bm).contains (.type "NameError")=aA:=G uw (G eT rfl);refine codeAny_builtinAt a9.entry (wpAt_bind (wpAt_bind (wpAt_stack λp asx=>wpAt_of_wpAny ?_)))
 wp_walk
 refine wpAt_of_wpAny (G a9.owner ?_);repeat (first |with_reducible refine wpAny_madeHere_exc a9.canon dD ?_|with_reducible refine ta dD ?_|(with_reducible refine CH dD ?_;first |(rw [Ay])|rw [aeK]|rw [aeN])|wp_step)
 rw [ib];exact cJ
theorem ar3(a9:zx B newId m1 tm)(dv:bm.contains (.type B)=ae)(dy:bm.contains (.type "AttributeError")=aA)(eT:bm.contains (.type "NameError")=aA){ct:List aG}{u5:a1}{A9:Obj}{Q:Fin->cn->Prop}
  (dD:h.get? C=J (wE nm q C N bs bm hdct sn sub ab col dd k0 k1 k2 k3 k5 newId)) (hi:∀av:bq,(∀b o,h.get? b=J o->av.get? b=J o)->PySem.W.Looks (c8 prog w) av (jp (.ref C) "__init__") (J (.ref u5)))
  (IM:h.get? u5=J A9) (IN:A9.cls=.type "function")
  (cJ:∀av e,Heap.MadeExcOf h av e (.ref C) ct->h.objs.size<=av.objs.size->
   cG (c8 prog w) A (call (.ref u5) (.ref e::ct)) (λr aS=>r=.none/\Q (.done (.ret (.ref e))) aS) E ⟨av,aB,d,t,os⟩) (hrest:ct.length<=mh:=by size_fits):
  cG (c8 prog w) A (Builtin.«type.__call__» ⟨.ref C::ct,[]⟩) Q E ⟨h,aB,d,t,os⟩:=by
 repeat (first |with_reducible refine ta dD ?_|with_reducible refine wpAny_madeBy_exc dD ?_|wp_step)
 refine codeAny_call_builtin_code (Gm _ a9.quiet) (ar0 a9 dv dD ?_);refine ar1 a9 dv dy eT dD ?_ hrest;have qO:∀b o,h.get? b=J o->((h.push {cls:=.type "tuple",data:=.seq ct.toArray}).push {cls:=.ref C,data:=.fields #[.ref h.objs.size,.none,.none,.none,.bool aA,.none]}).get? b=J o:=λb o e=>k6 _ (k6 _ e)
 have aeu:=qO _ _ dD;have aeW:=qO _ _ IM;have QE:((h.push {cls:=.type "tuple",data:=.seq ct.toArray}).push
   {cls:=.ref C,data:=.fields #[.ref h.objs.size,.none,.none,.none,.bool aA,.none]}).get? (h.objs.size+1)=J
   {cls:=.ref C,data:=.fields #[.ref h.objs.size,.none,.none,.none,.bool aA,.none]}:=by heap_get
 have aeL:(lK C::bm).contains (.ref C)=ae:=by simp
 repeat (first |with_reducible refine ta QE ?_|(with_reducible refine CH aeu ?_;(refine G aeL ?_))|wp_step)
 refine(hi _ qO).here (rJ (b4 ?_));refine bN (λ_=>tc (T:="function") ⟨_,aeW,IN⟩) (yM (by decide) ?_)
 refine cL (b4 (wI (cJ _ (h.objs.size+1) ⟨qO,VE (uB _),h.objs.size,QE,VE (cW _),?_⟩ (by refine G (ib ..) (G (ib ..) ?_);lia)) (λr aS da=>?_) λ_ _ x=>x))
 ·exact k6 _ (Heap.get?_push_at rfl rfl)
 ·refine cz da λalF jG=>?_;obtain rfl:=alF
  wp_walk
  exact jG
theorem arY(a9:zx B newId m1 tm)(dv:bm.contains (.type B)=ae)(dy:bm.contains (.type "AttributeError")=aA)(eT:bm.contains (.type "NameError")=aA){ct:List aG}{u5:a1}{A9:Obj}{Q:aG->cn->Prop}
  (dD:h.get? C=J (wE nm q C N bs bm hdct sn sub ab col dd k0 k1 k2 k3 k5 newId)) (hi:∀av:bq,(∀b o,h.get? b=J o->av.get? b=J o)->PySem.W.Looks (c8 prog w) av (jp (.ref C) "__init__") (J (.ref u5)))
  (IM:h.get? u5=J A9) (IN:A9.cls=.type "function")
  (cJ:∀av e,Heap.MadeExcOf h av e (.ref C) ct->h.objs.size<=av.objs.size->
   cG (c8 prog w) (A.under (.builtin "type.__call__" ⟨.ref C::ct,[]⟩)) (call (.ref u5) (.ref e::ct)) (λr aS=>r=.none/\Q (.ref e) aS) E ⟨av,aB,d,t,os⟩) (hrest:ct.length<=mh:=by size_fits):
  cG (c8 prog w) A (call (.ref C) ct) Q E ⟨h,aB,d,t,os⟩:=by
 have ch:=tc_lookup;have cd:=tc_bind (.ref C);have gm:(⟨h,aB,d,t,os⟩:cn).TypeIs (.ref C) "type":=⟨_,dD,rfl⟩;refine CG (Gv ?_);repeat (any_goals (first |assumption|with_reducible refine ta dD ?_|wp_step))
 refine⟨rfl,?_⟩;refine codeAny_call_builtin_at (Gm _ (by decide+kernel)) NO (wpAny_check_type_call_sub dD (ar3 (hrest:=hrest) a9 dv dy eT dD hi IM IN λav e bc hz=>?_))
 exact cJ av e bc hz
end
section
variable {M:qh}{A:kI}{E:aG->cn->Prop}{s:cn}{Z:Env}
variable {nm q:Str}{C N:a1}{bs bm tm:List aG}{hdct:Bool}{sn:List Str}{sub:List aG}{ab:Bool}{col:Option Bool}{dd:Option a1}{k0 k1 k2 k3 k5:Option aG}{B newId m1:String}
theorem ar2{x:Sem aG}{Q:nq->cn->Prop}(dv:bm.contains (.type "BaseException")=ae)(a6:A.handled=ac)
  (h:cG M A x (λv eo=>∃e D t,v=.ref e/\eo.heap.get? C=J (wE nm q C N bs bm hdct sn sub ab col dd k0 k1 k2 k3 k5 newId)/\
   eo.heap.get? e=J {cls:=.ref C,dict:=D,data:=.fields #[t,.none,.none,.none,.bool aA,.none]}/\E (.ref e) eo) E s):
  cG M A (raiseStmt Z (J x) ac) Q E s:=by
 have Ay:(lK C::bm).contains (.type "BaseException")=ae:=by(exact G (uw ..) (G dv (G (E8 ..) rfl)))
 refine b4 (wI h (λv eo h₁=>?_) λ_ _ x=>x)
 refine tZ h₁ λe D t alG dD bl tC=>?_;obtain rfl:=alG
 obtain⟨hp,aB,d,tk,os⟩:=eo;repeat (first |with_reducible refine ta bl ?_|with_reducible refine ta dD ?_|(with_reducible refine CH dD ?_;(refine G Ay ?_))|wp_step)
 exact wpAny_raiseNew_none a6 tC
end
variable {A:kI}{E:aG->cn->Prop}{h:bq}{t:Nat}{nm q:Str}{C N:a1}{bs bm tm sub:List aG}{hdct ab:Bool}{sn:List Str}{col:Option Bool}{dd:Option a1}{k0 k1 k2 k3 k5:Option aG}{B newId m1:String}
end Mine.Internal
end
noncomputable section
open PySem PySem.W PyProof.Rows PySem.Calls
namespace Mine.Internal
section
variable {Q:aG->cn->Prop}{e:a1}{Z:Env}{pos:Pos}{v:aG}{x:Str}
theorem aga(P:cB):p6 P 36 (aL 2 0):=⟨JX,_,by kernel_rfl,rfl,rfl,rfl,rfl,rfl,rfl,by kernel_rfl,λs vs X aQ=>by refine oY (JB aQ) λa0 hu alx=>?_;obtain rfl:=alx;exact binds_K (K:=dk P) X rfl (show _=J JW from rfl) rfl rfl rfl⟩
theorem aod:Ed (aL 2 0)=ae:=by decide+kernel
theorem SA(P:cB):ue P 36 (aL 2 0):=Ik (aga P) aod
section
variable {w:eJ}{A:kI}{E:aG->cn->Prop}{s:cn}
theorem Ya{P:cB}{f:a1}{st:cD}{vs':List aG}{R:Result->cn->Prop}(a9:ue P f st)(B:(dk P).In s.heap)(ae7:s.heap.NoLimit)(aQ:vs'.length=(fF st).args.length)(bA:A.depth<1000)
  (h:∀Z cP,Z.scope=dO st->Z.globals=k8->Z.builtins=s6->uF s Z.locals (kk Z.kindOf (((fF st).args.map (·.arg)).zip vs') λ_=>ac) Z.cells (s5 Z.kindOf (((fF st).args.map (·.arg)).zip vs') λ_=>ac) cP->
   cP.gens=s.gens->cP.os=s.os->cG (c8 prog w) (A.deeper Z) (execs (aW st) Z) (λf aS=>R (.ok (.ret (match f with | .ret v=>v|_=>.none))) aS) (λ_ _=>False) cP):
  codeAny (c8 prog w) A (.call (.ref f) ⟨vs',[]⟩) R s:=by
 refine Ui a9.fd λo fd aR aeR hb iS bj ll IF Az IG=>Uj (codeRec_of B Az) λc J9 acd apg aD IZ IK cJ=>?_
 have pA:=a9.co;have AD:=a9.gen;rw [<-iS] at pA AD;refine Gv ?_;show cG _ _ (callAny (.ref f) ⟨vs',[]⟩) _ _ _
 refine bN (λ_=>GC (B _ _ aR)) ?_
 simp only [aeR,callFunction,pA,AD,hb,aD];refine b4 (m:=rG (.ref c) 1) (mi IZ IK cJ (bN (λ_=>cL) ?_))
 refine bN (λ_=>IG s vs' B aQ _ _ _ _) (G ll ?_)
 have j5:fd.scope.kind=.function:=G iS a9.kind;refine b4 (wpAny_newFunctionEnv_cells j5 (λx aO=>?_) λZ bl aS X=>?_)
 ·refine G iS ?_;rcases a9.pk _ (List.of_mem_zip aO).1 with ai|ai
  ·exact .inl ai
  ·exact .inr ⟨ai,z4 _ _ _ (.inr (mem_of_lookup ai))⟩
 exact bN (λ_=>wpAny_enterFrame (ae7.keeps X.toInCall.keep) bA) (oY X.toInCall.same λai tk qH=>cL ⟨rfl,codeAny_func (wI (h Z aS (G bl iS) (G bl bj) (G bl IF) X (by(exact G qH rfl)) (by(exact G qH rfl))) (λ_ _ x=>x) λ_ _ x=>x.elim)⟩)
end
section
variable {w:eJ}{A:kI}{E:aG->cn->Prop}{s:cn}
theorem Z8:aW (aL 2 0)=[.Expr (.Call (.Attribute (.Name yN ⟨8,8,8,18⟩) pW ⟨8,8,8,27⟩) [.Name bQ ⟨8,28,8,32⟩,.Name kU ⟨8,34,8,40⟩] [] ⟨8,8,8,41⟩) ⟨8,8,8,41⟩,
 .Assign [.Attribute (.Name bQ ⟨9,8,9,12⟩) kU ⟨9,8,9,19⟩] (.Name kU ⟨9,22,9,28⟩) ⟨9,8,9,28⟩]:=by kernel_rfl
theorem adD(P:cB):findCls (dk P) (.type "ValueError") (.type "type") pW=J (.val (.builtin "ValueError.__init__")):=by kernel_rfl
theorem adC(P:cB):nr (dk P) (.ref 76) "__setattr__"=J (J (.builtin "object.__setattr__")):=by kernel_rfl
theorem adB(P:cB):nr (dk P) (.ref 76) kU=J ac:=by kernel_rfl
theorem aoX(P:cB):subIn (dk P) (.ref 76) (.type "object")=J ae:=by kernel_rfl
theorem apt:typeOf (.type "ValueError")=bK (.type "type"):=by kernel_rfl
theorem aoV:Manifest.isStub "ValueError"=aA:=by decide+kernel
theorem aeC:handedIn (.builtin "ValueError.__init__")=ae:=by kernel_rfl
theorem aad:zC yN=J (.type "ValueError"):=by kernel_rfl
theorem aen(P:cB):nsIn (dk P) k8 yN=J ac:=by kernel_rfl
theorem adA(P:cB):nr (dk P) (.ref 76) "__init__"=J (J (.ref 36)):=by kernel_rfl
noncomputable abbrev qx(D:Option a1)(t:aG):Obj:= {cls:=.ref 76,dict:=D,data:=.fields #[t,.none,.none,.none,.bool aA,.none]}
theorem z6{P:cB}{h:bq}(X:(dk P).In h):∃nm q bs hdct sn sub ab col dd k0 k1 k2 k3 k5,h.get? 76=J (wE nm q 76 75 bs (.ref 39::[.type "ValueError",.type "Exception",.type "BaseException",.type "object"]) hdct sn sub ab col dd k0 k1 k2 k3 k5 "ValueError.__new__"):=
 ⟨_,_,_,_,_,_,_,_,_,_,_,_,_,_,X 76 _ rfl⟩
theorem Dd:zx "ValueError" "ValueError.__new__" "ValueError.__init__" [.type "ValueError",.type "Exception",.type "BaseException",.type "object"]:=PySem.F.excBase_ValueError
theorem abE{t:a1}{ct:List aG}(B:(dk w.params).In s.heap)(bl:s.heap.get? e=J (qx ac (.ref t)))(da:ct.length<10)
  (q:∀aS,(∀b o,b≠e->s.heap.get? b=J o->aS.heap.get? b=J o)->aS.heap.get? e=J (qx ac (.ref s.heap.objs.size))->aS.gens=s.gens->aS.os=s.os->s.heap.objs.size<=aS.heap.objs.size->Q .none aS):
  cG (c8 prog w) A (PySem.call (.builtin "ValueError.__init__") (.ref e::ct)) Q E s:=by
 obtain⟨nm,Bf,bs,hdct,sn,sub,ab,col,dd,k0,k1,k2,k3,k5,dD⟩:=z6 B;obtain⟨a6,aB,d,tk,os⟩:=s;refine CG (codeAny_call_builtin Dd.init.plain Dd.initEntry (arZ Dd (by decide) dD bl rfl ?_))
 unfold Builtin.«BaseException.__init__»;refine jt (by simp) ?_
 unfold newTuple ass;have w9:(a6.push {cls:=.type "tuple",data:=.seq ct.toArray}).get? e=J (qx ac (.ref t)):=k6 _ bl;refine b4 (qp (b4 (b4 (mi w9 rfl (x:=.ref t) rfl (b4 (GH w9 rfl (by simp) ?_))))) (by show ct.toArray.size<=mh;refine G iA (G k9 ?_);lia))
 refine wpAny_letGo (cL (q _ (λb o hb fc=>?_) ?_ rfl rfl ?_))
 ·show Heap.get? (NI _ _ _) b=_
  refine G (uE _ _ (Cm hb)) ?_;exact k6 _ fc
 ·show Heap.get? (NI _ _ _) e=_
  refine G (s0 _ w9 rfl) ?_;rfl
 ·show a6.objs.size<=(NI _ _ _).objs.size
  refine G (qg ..) ?_;show _<=(Heap.push a6 _).objs.size
  exact G (ib ..) (uB _)
theorem aom{t:aG}{Q:Unit->cn->Prop}(B:(dk w.params).In s.heap)(bl:s.heap.get? e=J (qx ac t))
  (q:∀aS D,(∀b o,b≠e->s.heap.get? b=J o->aS.heap.get? b=J o)->aS.heap.get? e=J (qx (J D) t)->aS.gens=s.gens->aS.os=s.os->s.heap.objs.size<=aS.heap.objs.size->Q () aS):
  cG (c8 prog w) A (setAttr (.ref e) kU v) Q E s:=by
 obtain⟨nm,Bf,bs,hdct,sn,sub,ab,col,dd,k0,k1,k2,k3,k5,dD⟩:=z6 B;obtain⟨a6,aB,d,tk,os⟩:=s;have am:InstAt a6 e (qx ac t) 76 ac:=⟨bl,rfl,rfl,trivial⟩;have zL:=PySem.F.store_object;refine set_plain (s:=⟨a6,aB,d,tk,os⟩) B am (adC _) ?_;have sub:Looks (c8 prog w) a6 (isInstance (.ref e) (.type "object")) ae:=am.type.andThen (looks_subIn B (aoX _));refine codeAny_call_builtin zL.slot.plain zL.entry (@check_slot (c8 prog w) _ _ ⟨a6,aB,d,tk+1,os⟩ "object.__setattr__" "object" "__setattr__" (.ref e) [.str kU tk,v] [] _ zL.kind zL.split sub (zL.args (.ref e) (.str kU tk) v) ?_);have bc:Looks (c8 prog w) a6 (mroOf (.ref 76)) [.ref 76,.ref 39,.type "ValueError",.type "Exception",.type "BaseException",.type "object"]:=(Looks.ld (part:=ac) (B 76 _ rfl)).andThen .now;have Vb:Looks (c8 prog w) a6 (Builtin.ObjectAttr.storeTaker? ac) ac:=.now;refine G (osa_eq ..) (G (refuse_eq ..) ?_);refine b4 (b4 (am.type.at (b4 (bc.at ?_))));refine G (refuseLoop_ref ..) (G (refuseLoop_ref ..) (G (PySem.F.store_ValueError.passes ..) ?_));refine cL (bN (λ_=>am.type.at) (b4 ((Cv B (adB _)).at (bN (λ_=>Vb.at) ?_))))
 have aD:∃i5,clsIn (dk w.params) 76=J i5/\i5.hasDict=ae:=⟨_,rfl,rfl⟩;refine bU aD λi5 aD pB=>bN (λ_=>cL) (b4 (b4 (NY bl (b4 ((looks_clsIn B aD).at ?_)))))
 refine G pB ?_;have w9:(a6.push {cls:=.type "dict",data:=.dict #[]}).get? e=J (qx ac t):=k6 _ bl;have QB:e≠a6.objs.size:=mf (gE bl);refine bN (λ_=>wpAny_alloc) (bN (λ_=>wpAny_update w9) (cL ?_))
 have aeZ:((a6.push {cls:=.type "dict",data:=.dict #[]}).update e λo=> {o with dict:=J a6.objs.size}).get? a6.objs.size=J {cls:=.type "dict",data:=.dict #[]}:=
  (VF _ _ _ _ QB.symm).trans (hU _ rfl)
 have AH:((a6.push {cls:=.type "dict",data:=.dict #[]}).update e λo=> {o with dict:=J a6.objs.size}).Ns a6.objs.size (λ_=>ac):=
  ⟨_,#[],_,aeZ,rfl,λe bl=>absurd bl (by simp),λ_=>rfl⟩
 show cG _ _ (VC a6.objs.size (.str kU tk) kU v) _ _ _
 unfold VC Builtin.ObjectAttr.newKeyGuard;refine bN (λ_=>cL) (b4 (wpAny_nsSet1 (Heap.Ns1.of_empty AH) λav lm hs=>?_))
 refine E3 (lm.count (Within.cons kU v Within.nil)) λJ8 asB asA afb aeQ aeM=>?_
 refine bN (λ_=>NZ afb (G aeQ (pastItsLine_dict (cQ aeM (by refine G sO ?_;refine G List.length_nil ?_;refine G k9 ?_;exact F9 (0+1) 16777216))))) ?_
 refine cL (q _ a6.objs.size (λb o hb fc=>?_) ?_ rfl rfl ?_)
 ·exact(hs.2 b (mf (gE fc))).trans ((VF _ _ _ _ hb).trans (k6 _ fc))
 ·exact(hs.2 e QB).trans (s0 _ w9 rfl)
 ·show a6.objs.size<=av.objs.size
  refine G hs.1 (G (qg ..) (G (ib ..) ?_));exact uB _
theorem aeg{pl:Sem Bool}{Q:aG×List aG->cn->Prop}(X:(dk w.params).In s.heap)(q:Q (.builtin "ValueError.__init__",[]) {s with toks:=s.toks+1}):cG (c8 prog w) A (getMethod (.type "ValueError") pW pl) Q E s:=by
 have afn:NT (.type "ValueError")=bK ac:=by unfold NT;dsimp only;exact G aoV rfl
 have ML:Looks (c8 prog w) s.heap (typeOf (.type "ValueError")) (.type "type"):=Looks.of_pure apt;have bj:nr (dk w.params) (.type "type") "__getattribute__"=J (J (.builtin "type.__getattribute__")):=type_tga;unfold getMethod specialOf;refine b4 (b4 (ML.here ((Cv X bj).here ?_)));refine yM canon_tga (b4 (wI (Q:=λv=>Q (v,[])) (E:=E) ?_ (λ_ _ z=>cL z) λ_ _ z=>z))
 have Vd:Looks (c8 prog w) s.heap (NT (.type "ValueError")) ac:=Looks.of_pure afn;refine cls_open X Vd ML bj (looks_hook X (r:=ac) (by rfl)) (by show subIn (dk w.params) _ _=_;rfl) (adD _)
  (cL (by show cG _ _ (handedOut _) _ _ _;exact G (handedOut_of aeC) (cL q)))
theorem CO{m:Str->Option aG}(hk:Z.scope.kind=.function)(aQ:Z.kindOf x=J .local)(hn:s.heap.Ns Z.locals m)(hv:m x=J v)(aO:(x==("__debug__":Str))=aA)(q:Q v s):
 cG (c8 prog w) A (eval (.Name x pos) Z) Q E s:=wpAny_Name (wpAny_loadName_local hk aQ hn hv q) aO
theorem X9(B:l7 w s.heap)(hk:Z.scope.kind=.function)(aQ:Z.kindOf x=J .globalImplicit)(bj:Z.globals=k8)(hb:Z.builtins=s6)
  (ai:nsIn (dk w.params) k8 x=J ac) (ak:zC x=J v) (aZ:x≠"__name__") (aO:(x==("__debug__":Str))=aA) (q:Q v s):cG (c8 prog w) A (eval (.Name x pos) Z) Q E s:=by
 refine wpAny_Name ?_ aO;unfold loadName;simp only [Go,hk,aQ,NK,E7,ng,if_false];unfold loadGlobal;refine G bj (b4 ((Gq B.k ai).here ?_));refine bU B.b λxj tE bc=>G hb (bN (λ_=>wpAny_nsGet tE) (G (bc x aZ) (G ak ?_)))
 exact cL q
theorem OU(X:(dk w.params).In s.heap)(hk:Z.scope.kind=.function)(aQ:Z.kindOf x=J .globalImplicit)(bj:Z.globals=k8)
  (ai:nsIn (dk w.params) k8 x=J (J v)) (aO:(x==("__debug__":Str))=aA) (q:Q v s):cG (c8 prog w) A (eval (.Name x pos) Z) Q E s:=by
 refine wpAny_Name ?_ aO;unfold loadName;simp only [Go,hk,aQ,NK,E7,ng,if_false];unfold loadGlobal;exact G bj (b4 ((Gq X ai).here (cL q)))
theorem ao0:s8 (.Call (.Attribute (.Name yN ⟨8,8,8,18⟩) pW ⟨8,8,8,27⟩) [.Name bQ ⟨8,28,8,32⟩,.Name kU ⟨8,34,8,40⟩] [] ⟨8,8,8,41⟩) ac 8 Z=bK aA:=rfl
theorem aic:(dO (aL 2 0)).names.lookup bQ=J .local /\(dO (aL 2 0)).names.lookup kU=J .local /\(dO (aL 2 0)).names.lookup yN=J .globalImplicit:=by decide+kernel
theorem afM{bu:bq}{t:a1}{tk:Tok}(B:l7 w bu)(k0:∀b o,bu.get? b=J o->s.heap.get? b=J o)(gX:bu.get? e=ac)(bA:A.depth<990)(bl:s.heap.get? e=J (qx ac (.ref t)))
  (q:∀aS D vM,(∀b o,b≠e->s.heap.get? b=J o->aS.heap.get? b=J o)->aS.heap.get? e=J (qx (J D) (.ref vM))->aS.gens=s.gens->aS.os=s.os->s.heap.objs.size<=aS.heap.objs.size->s.heap.objs.size<=vM->Q .none aS):
  cG (c8 prog w) A (PySem.call (.ref 36) [.ref e,.str x tk]) Q E s:=by
 have E9:=B.keeps k0;have jL:∀b o,bu.get? b=J o->b≠e:=λb o fc z=>by rw [z,gX] at fc;exact br fc
 refine CG (Ya (SA w.params) E9.k E9.lim rfl (eE ‹_› (by decide)) λZ cP iS bj hb X d1 dx=>?_)
 have hk:Z.scope.kind=.function:=G iS ((SA w.params).kind);refine dS aic λn1 n2 A4=>?_
 have gn:Z.kindOf bQ=J .local :=by show Z.scope.names.lookup _=_;exact G iS n1
 have fY:Z.kindOf kU=J .local :=by show Z.scope.names.lookup _=_;exact G iS n2
 have r8:Z.kindOf yN=J .globalImplicit:=by show Z.scope.names.lookup _=_;exact G iS A4
 have DP:=X.toInCall.keep;have mu:s.heap.objs.size<=Z.locals:=X.toInCall.fresh;have dW:e<s.heap.objs.size:=gE bl;have ah2:Z.locals≠e:=λz=>by rw [z] at mu;exact jn _ (eE dW mu)
 have ns:=X.toInCall.ns;have QT:s.heap.objs.size<=cP.heap.objs.size:=jz (eI mu ns.lt);have vs:kk Z.kindOf (((fF (aL 2 0)).args.map (·.arg)).zip [.ref e,.str x tk]) (λ_=>ac) bQ=J (.ref e):=by
  show kk Z.kindOf [(bQ,.ref e),(kU,.str x tk)] (λ_=>ac) bQ=J (.ref e)
  unfold kk;refine G (aY gn) ?_;unfold kk;refine G (aY fY) ?_;unfold kk;exact(a8 (by decide)).trans (aY rfl)
 have bg:kk Z.kindOf (((fF (aL 2 0)).args.map (·.arg)).zip [.ref e,.str x tk]) (λ_=>ac) kU=J (.str x tk):=by
  show kk Z.kindOf [(bQ,.ref e),(kU,.str x tk)] (λ_=>ac) kU=J (.str x tk)
  unfold kk;refine G (aY gn) ?_;unfold kk;refine G (aY fY) ?_;unfold kk;exact aY rfl
 generalize kk Z.kindOf (((fF (aL 2 0)).args.map (·.arg)).zip [.ref e,.str x tk]) (λ_=>ac)=nm at ns vs bg
 have e1:=DP _ _ bl;have jd:l7 w cP.heap:=E9.keeps DP;refine G Z8 ?_;refine NV (wpAny_Expr_any (prog:=prog) (w:=w) ?_ (by unfold interactive;exact G hk rfl) ao0)
 refine methodCall_KW (X9 jd hk r8 bj hb (aen _) aad (by decide) (by decide) (aeg jd.k ?_))
 refine callWith_builtin rfl (evalArgs_plain (spliced_cons (CO hk gn ns vs (by decide) (spliced_cons (CO hk fY ns bg (by decide) (spliced_nil ?_))))))
 refine abE jd.k e1 (by simp) λd6 k2 e2 g2 en fu=>?_
 have RV:d6.heap.Ns Z.locals nm:=let⟨o,aH,ii,a,b⟩:=ns;⟨o,aH,ii,k2 _ _ ah2 a,b⟩
 have Ur:l7 w d6.heap:=B.keeps λb o fc=>k2 _ _ (jL _ _ fc) (DP _ _ (k0 _ _ fc))
 refine NV (wpAny_Assign_stores (CO hk fY RV bg (by decide) ?_) rfl rfl)
 show cG _ _ (PySem.assign (.Attribute (.Name bQ ⟨9,8,9,12⟩) kU ⟨9,8,9,19⟩) Z (.str x tk)) _ _ _
 have mV:∀o n pos aJ,PySem.assign (.Attribute o n pos) Z aJ=(gO [aJ] (eval o Z)>>=λeN=>gw pos.atName>>=λ_=>gO [aJ,eN] (setAttr eN n aJ)>>=λ_=>zF [aJ,eN] []):=λ_ _ _ _=>rfl
 refine G (mV ..) (b4 (rJ (CO hk gn RV vs (by decide) (b4 (GI (b4 (rJ (aom Ur.k e2 λhN D k3 aP hx sa f1=>wpAny_release (wpAny_execs_nil ?_)))))))))
 exact q _ D _ (λb o hb fc=>k3 _ _ hb (k2 _ _ hb (DP _ _ fc))) aP (hx.trans (g2.trans d1)) (sa.trans (en.trans dx)) (cQ QT (cQ fu f1)) QT
end
end
variable {Q E:aG->cn->Prop}{Z:Env}{pos:Pos}{x:Str}{w:eJ}{A:kI}{s:cn}
theorem agd(P:cB):wC (dk P) (.ref 76)=ae:=by kernel_rfl
theorem Qp(P:cB):nsIn (dk P) k8 sB=J (J (.ref 76)):=by kernel_rfl
structure N3(h av:bq)(e:a1):Prop where
 keep:∀b o,h.get? b=J o->av.get? b=J o
 new:h.get? e=ac
 obj:∃D t,av.get? e=J (qx D (.ref t))
 size:h.objs.size<=av.objs.size
theorem ahI{x:Str}{tk:Tok}{Q:aG->cn->Prop}(B:l7 w s.heap)(bA:A.depth<970)(q:∀aS e,N3 s.heap aS.heap e->aS.gens=s.gens->aS.os=s.os->Q (.ref e) aS):cG (c8 prog w) A (PySem.call (.ref 76) [.str x tk]) Q E s:=by
 obtain⟨nm,Bf,bs,hdct,sn,sub,ab,col,dd,k0,k1,k2,k3,k5,dD⟩:=z6 B.k;obtain⟨a6,aB,d,aph,os⟩:=s;refine arY Dd (by decide) (by decide) (by decide) dD (λav k=>Cv (B.k.keeps k) (adA _)) (B.k 36 _ rfl) rfl (λav e m ahW=>?_) (by simp [k9])
 refine kT m.there λt dF jK A2=>?_
 refine afM (s:=⟨av,aB,d,aph,os⟩) B m.keeps m.new (by show A.depth+1<990;exact eI ‹_› (by decide)) dF λaS D vM k1 k2 k3 oI k5 Q9=>⟨rfl,q aS e ⟨λb o fc=>k1 b o (λz=>by rw [z,m.new] at fc;exact br fc) (m.keeps b o fc),m.new,⟨_,_,k2⟩,cQ ahW k5⟩ k3 oI⟩
theorem anK{Z:Env}{x:Str}{k:Nat}{JR PH pt pos:Pos}{Q:nq->cn->Prop}(B:l7 w s.heap)(a6:A.handled=ac)(bA:A.depth<970)(hk:Z.scope.kind=.function)(aQ:Z.kindOf sB=J .globalImplicit)(bj:Z.globals=k8)
  (q:∀aS e,N3 s.heap aS.heap e->aS.gens=s.gens->aS.os=s.os->E (.ref e) aS):cG (c8 prog w) A (exec (.Raise (J (.Call (.Name sB JR) [.Constant (.str x) k PH] [] pt)) ac pos) Z) Q E s:=by
 obtain⟨nm,Bf,bs,hdct,sn,sub,ab,col,dd,k0,k1,k2,k3,k5,dD⟩:=z6 B.k;refine G (arm_exec_Raise ..) (bN (λ_=>GI) (ar2 (C:=76) (bm:=.ref 39::[.type "ValueError",.type "Exception",.type "BaseException",.type "object"]) (nm:=nm) (q:=Bf) (N:=75) (bs:=bs) (hdct:=hdct) (sn:=sn) (sub:=sub) (ab:=ab) (col:=col) (dd:=dd) (k0:=k0) (k1:=k1) (k2:=k2) (k3:=k3) (k5:=k5) (newId:="ValueError.__new__") (by decide) a6 ?_))
 refine b4 (wpAny_Call_ofName (OU B.k hk aQ bj (Qp _) (by decide) ?_))
 refine callWith_of (P:=λh=>(dk w.params).In h) rfl (keeps_K (agd _)) (evalArgs_plain (spliced_cons (Constant_str (k:=k) (pos:=PH) (spliced_nil ⟨B.k,?_⟩))))
 exact ahI (s:= {s with toks:=s.toks+1}) B bA λaS e r aB o=>oY r.obj λD t bl=>bN (λ_=>GI) (cL ⟨e,D,.ref t,rfl,r.keep _ _ dD,bl,q aS e r aB o⟩)
noncomputable def pJ(h:bq):List a1->bq
 | []=>h
 |b::l=>pJ (h.hide b) l
theorem Kc:∀ {l:List a1} {h:bq} {b:a1} {o:Obj},(pJ h l).get? b=J o->h.get? b=J o
 | [],_,_,_,e=>e
 |_::l,_,_,_,e=>Heap.of_hide (Kc (l:=l) e)
theorem JK:∀ {l:List a1} {h:bq} {b:a1},h.get? b=ac->(pJ h l).get? b=ac:=λ{l h b} e=>by
 cases q:(pJ h l).get? b with
 |none=>rfl
 |some o=>rw [Kc q] at e;exact br e.symm
theorem ahJ{b:a1}(l:List a1):∀ {h:bq},b∈l->(pJ h l).get? b=ac:=by
 induction l with
 |nil=>intro h m;rcases m
 |cons c l ih=>
  intro h m;show(pJ (h.hide c) l).get? b=ac
  rcases fw.mp m with rfl|m
  ·exact JK (Heap.hide_self h b)
  ·exact ih m
theorem RF{b:a1}{o:Obj}(l:List a1):∀ {h:bq},b∉l->h.get? b=J o->(pJ h l).get? b=J o:=by
 induction l with
 |nil=>intro h m e;exact e
 |cons c l ih=>intro h m e;exact ih (λz=>m (f8 _ z)) ((Heap.hide_ne h λz=>m (by exact G z fK)).trans e)
theorem Ql{h base:bq}:∀ {l:List Env},(∀Z∈l,Z.scope.kind≠.module/\∃b,Z.frame=J b/\base.get? b=ac/\∃o aH n,h.get? b=J o/\o.data=.dict aH n)->h.FunFrames base l
 | [],_=>trivial
 |Z::l,k=>by
  refine ar5 (k Z fK) λa b e f o aH n aB dd=>?_
  exact⟨a,⟨b,o,e,f,aB,λvs q=>by rw [dd] at q;cases q⟩,Ql λe bl=>k e (f8 _ bl)⟩
theorem bz.frames{a9:List a1}{n:Nat}{ah:Ctx}(ok:bz a9 n ah):∃A,ah.In A/\A.handled=ac/\A.depth+2*n<990/\A.frames=J (ah.code.envs++pg ah.below):=by
 obtain⟨⟨A,a,q,b,c⟩,-,-,-⟩:=ok;exact⟨{A with frames:=J (ah.code.envs++pg ah.below)},⟨a.1,a.2.1,λl aQ=>ci aQ,a.2.2.2.1,a.2.2.2.2⟩,q,b,rfl⟩
def yQ:mL:=λf vs H k=>f≠917/\tn False (λ_ _ _ _=>False) f vs H k
theorem PI{Θ:fa}{d:Nat}:n0 Θ d (λ_ _ _ _=>False):=λ_ _ _ _ h=>h.elim
theorem ab5{Θ:fa}{d:Nat}:n0 Θ (d+5) yQ:=λf vs H k h=>by
 refine cz h λq h=>?_
 unfold tn at h;cases e:r3 f with
 |none=>rw [e] at h;exact h.elim
 |some st=>
  rw [e] at h;refine cz (Il Θ.w.params e) λa9 c=>?_
  by_cases aQ:vs.length=(fF st).args.length
  ·exact Pr a9 (λb=>(Tl PI 40).2 _ c) aQ (by simpa only [aQ,if_true] using h)
  ·simp only [aQ,if_false] at h
section
variable {Θ:fa}{d:Nat}{ah:Ctx}{ρ:cr}{m:Loc}{H:an}{h av:bq}
structure GO(fs:List a1)(h av:bq):Prop where
 keep:∀b o,h.get? b=J o->b∉fs->av.get? b=J o
 slot:∀b o,h.get? b=J o->b∈fs->∃sl,av.get? b=J {o with slots:=sl}
theorem fW.turned(x:fW Θ ρ H h)(t:GO Θ.fs h av):fW Θ ρ H av:=by
 have fh:∀(i:Nat) (p:a1×a1),ρ[i]? =J p->p.1∉Θ.fs/\p.2∉Θ.fs:=λi p e=>⟨λz=>((x.frm _ z).2.2 i p e).1 rfl,λz=>((x.frm _ z).2.2 i p e).2 rfl⟩
 refine⟨x.len,λb o e=>t.keep b o (x.old b o e) λz=>?_,x.low,x.sep,λi p o e1 e2=>(x.obj i p o e1 e2).keeps (λo e=>t.keep _ o e (fh i p e1).1) λo e=>t.keep _ o e (fh i p e1).2,λb hb=>?_⟩
 ·have :=(x.frm b z).1;rw [e] at this;exact br this.symm
 ·refine dS (x.frm b hb) λa alt f=>?_;obtain⟨o,e,c,aH,n,dd⟩:=alt
  exact cm (t.slot b o e hb) λsl cU=>⟨a,⟨_,cU,c,aH,n,dd⟩,f⟩
end
def yV(H:an)(i:Nat):Prop:=∃(aN:List (Str×L)) (l:Nat) (c e oJ:Int) (eW:List L),H[i]? =J (.inst 865 aN)/\cy aN sC=ac/\cy aN yO=ac/\cy aN e5=J (.new l)/\
 cy aN mH=J (.int c)/\cy aN (z "each")=J (.int e)/\cy aN nZ=J (.int oJ)/\H[l]? =J (.list eW)/\bH eW.length=ae/\cH (c+1)=ae/\cH e=ae/\oJ<eW.length+(c+1)*e
theorem DT{ay:Type}{l:List (Str×L)}{x:Str}{aB:L->Option ay}{c:ay->L}{y:ay}(h:∀v y,aB v=J y->v=c y)(e:(cy l x).bind aB=J y):cy l x=J (c y):=gb e λv e1 e2=>e1.trans (congrArg J (h v y e2))
theorem ad0{vs:List L}{H:an}{k:L->an->Prop}(h:Bj False vs H k):∃i,vs=[.new i]/\yV H i/\k (.bool aA) H:=by
 rcases vs with _|⟨v,vs⟩
 ·exact h.elim
 rcases vs with _|⟨_,_⟩
 ·rcases e:xA H v with _|b
  ·have h:cond (ae&&(xA H v).getD aA) (k (.bool aA) H) False:=h;rw [e] at h;exact h.elim
  ·have h:cond (ae&&(xA H v).getD aA) (k (.bool aA) H) False:=h;rw [e] at h;rcases b
   ·exact h.elim
   ·refine gb e λj e1 e=>gb e λo ej e=>gb e λp e2 e=>gb e λl aP e=>gb e λc jD e=>gb e λd iO e=>gb e λoJ Ae e=>gb e λeW ek e=>?_
    have b:=ci e;refine cz (fm b) λhH b=>cz (fm b) λfy b=>cz (fm b) λfz b=>cz (fm b) λjV b=>cz (fm b) λou b=>cz (fm b) λrR tl=>?_
    rw [JO e1];rw [afO e2,Vo hH] at ej;exact⟨j,rfl,⟨p.2,l,c,d,oJ,eW,ej,Gg.mp fy,Gg.mp fz,DT (λ_ _=>JO) aP,DT (λ_ _=>r4) jD,DT (λ_ _=>r4) iO,DT (λ_ _=>r4) Ae,xi ek,jV,ou,rR,of_decide_eq_true tl⟩,h⟩
 ·exact h.elim
theorem aeF{H:an}{i:Nat}{k:L->an->Prop}(a9:yV H i)(h:k (.bool aA) H):tn False (λ_ _ _ _=>False) 792 [.new i] H k:=by
 obtain⟨aN,l,c,e,oJ,eW,ej,fy,fz,e1,e2,aP,jD,ek,jV,ou,rR,tl⟩:=a9;have bL:∀ {n:Str} {v:L},cy aN n=J v->(∀s,v≠.st s)->aV (.new i) n H=J v:=λ{n v} e hv=>by
  unfold aV;simp only [ej,e];rcases v<;>first |rfl|exact absurd rfl (hv _)
 have hu:=bL e1 (by simp)
 have jC:=bL e2 (by simp)
 have kn:=bL aP (by simp)
 have lf:=bL jD (by simp)
 have ar:cI (.builtin "len") [.new l] H=J (.int eW.length,H):=by
  show(H[l]?).bind _=_
  rw [ek];exact aY jV
 have bm:a5 .Mult (.int (c+1)) (.int e) H=J (.int ((c+1)*e),H):=by
  show(if(cH (c+1)&&cH e)=ae then J (L.int ((c+1)*e),H) else ac)=_
  refine G ou (G rR ?_);rfl
 have Zp:bW .LtE (.int (eW.length+(c+1)*e)) (.int oJ) H=J aA:=by
  show J (eg ((eW.length:Int)+(c+1)*e<=oJ))=J aA
  (exact G (decide_eq_false (Int.not_le.mpr tl)) rfl)
 have w:=P.YY (n:=0) (self:=.new i) (H:=H) (k:=k) (by
  show P.aj (aV (.new i) e5 H) _
  refine G hu ?_;show P.aF (cI (.builtin "len") [.new l] H) _
  refine G ar ?_;show P.aj (aV (.new i) mH H) _
  refine G jC ?_;show P.aj (aV (.new i) (z "each") H) _
  refine G kn ?_;show P.aF (a5 .Mult (.int (c+1)) (.int e) H) _
  refine G bm ?_;show P.aj (aV (.new i) nZ H) _
  refine G lf ?_;show P.aj (bW .LtE (.int (eW.length+(c+1)*e)) (.int oJ) H) λpo=>k (L.bool po) H
  exact G Zp (h))
 exact w
abbrev Bo:aU:=.UnaryOp .Not (.Call (.Attribute (.Name bQ ⟨579,15,579,19⟩) yO ⟨579,15,579,28⟩) [] [] ⟨579,15,579,30⟩) ⟨579,11,579,30⟩
abbrev anV:cD:=.AugAssign (.Attribute (.Name bQ ⟨581,8,581,12⟩) mH ⟨581,8,581,18⟩) .Add (.Constant (.int 1) 0 ⟨581,22,581,23⟩) ⟨581,8,581,23⟩
theorem Z9:aW (aL 34 4)=[.If Bo [.Raise (J (.Call (.Name sB ⟨580,18,580,24⟩) [.Constant (.str (z "the log")) 0 ⟨580,25,580,34⟩] [] ⟨580,18,580,35⟩)) ac ⟨580,12,580,35⟩] [] ⟨579,8,580,35⟩,anV]:=by kernel_rfl
theorem abM:tt 40 Bo=ae:=by decide+kernel
theorem aid:(dO (aL 34 4)).names.lookup sB=J .globalImplicit:=by decide+kernel
theorem apc{v:L}{H:an}{k:Bool->an->Prop}{W:an->(L->an->Prop)->Prop}:ge False yQ Bo W (dO (aL 34 4)).names (((fF (aL 34 4)).args.map (·.arg)).zip [v]) H k=
 P.aj (bx v yO H) λc=>bB False yQ c [] H λr H=>P.aj (ky r) λb=>k (!b) H:=by kernel_rfl
theorem apd{H:an}{i:Nat}(a9:yV H i){W:an->(L->an->Prop)->Prop}:ge False yQ Bo W (dO (aL 34 4)).names (((fF (aL 34 4)).args.map (·.arg)).zip [.new i]) H (λb bb=>b=ae/\bb=H):=by
 refine G apc ?_;have ig:bx (.new i) yO H=J (.fn 792 [.new i]):=by
  refine Uk a9 λaN l c e oJ eW ej fy fz _=>?_
  unfold bx;simp only [ej,fz];rfl
 exact G ig (⟨by decide,aeF a9 ⟨rfl,rfl⟩⟩)
variable {Θ:fa}{d:Nat}{ah:Ctx}{ρ:cr}{m:Loc}{H:an}{h av:bq}
theorem adX{base:bq}{n:Nat}(ok:bz Θ.fs n ah)(lW:fW Θ ρ H h)(sm:h.UpToSlots av)(bc:∀b∈Θ.fs,base.get? b=ac):av.FunFrames base (ah.code.envs++pg ah.below):=
 Ql λZ bl=>by
  obtain⟨a,b,hb,e⟩:=ok.fr Z bl;refine dS (lW.frm b hb) λ_ alv _=>?_;obtain⟨o,aR,-,aH,n,dd⟩:=alv
  obtain⟨sl,cU⟩:=sm b o aR λvs q=>by rw [dd] at q;cases q
  exact⟨a,b,e,bc b hb,_,aH,n,cU,dd⟩
theorem d3.outer{X:List a1}{du:cr}{ai ak:bq}(ext:gM h ai)(nD:∀b∈X,h.objs.size<=b)(cd:d3 X ρ ai du ak):d3 [] ρ h du ak:=by
 refine⟨cd.sub,λi p e hi=>?_,λb o e hb _=>cd.keep b o (ext.1 b o e) hb λz=>?_,cQ ext.2 cd.size⟩
 ·have :=cd.new i p e hi;have :=ext.2;lia
 ·exact absurd (gE e) (n9.mpr (nD b z))
def FX(Θ:fa)(outer:List Env)(ρ:cr)(H:an)(h:bq)(e:aG)(av:bq):Prop:=∃a2 du ak mV a0,fW {Θ with fs:=a2::Θ.fs} du H ak/\d3 [] ρ h du ak/\e=.ref mV/\
 Heap.FlyingW (pJ ak (a2::Θ.fs)) outer mV (.ref 76) a0 av/\ak.UpToSlots av
theorem ZV{i:Nat}{aJ:aG}(ok:bz Θ.fs (d+15) ah)(lW:fW Θ ρ H h)(f0:bg ρ (.new i) aJ)(a9:yV H i):
  dm Θ.w Θ.O ah (PySem.call (.ref 806) [aJ]) (λ_ _=>False) (FX Θ (ah.code.envs++pg ah.below) ρ H h) h:=by
 refine cz (Il Θ.w.params (f:=806) (st:=aL 34 4) rfl) λUy _=>H8 (d:=d+10) (vs:=[.new i]) Uy rfl ok lW (.cons f0 .nil) λgU Z ai vA aD Ds iS ext nD IE gk=>Jn aD ?_
 have k1:bz (Θ.fr Z).fs (d+10+4) gU:=vA;refine G Z9 (G (CB ..) ?_);refine dm.bind (G (exec_If ..) ?_);have ce:ST (Θ.fr Z) yQ (d+10) Bo:=(tU (Θ:=Θ.fr Z) (d:=d+10) (ab5 (d:=d+5)) 40).t _ abM;refine dm.bindJ (af.standAt (dm.bindJ (af.mono (ce (k:=λb bb=>b=ae/\bb=H) k1 gk (G iS (apd a9))) λb ak cV=>?_)))
 obtain⟨du,jK,cN,cX,cd,aM,a7,q3⟩:=cV;subst aM a7 q3;refine G (aY rfl) (G (CB ..) ?_);refine dm.bind (Ug k1.frames λA cS a6 bA qE=>?_)
 have AA:gU.code.envs=[Z]:=G aD rfl;have IQ:A.frames=J (Z::(ah.code.envs++pg ah.below)):=G qE (G AA (G IE rfl));have hk:Z.scope.kind=.function:=cX.fr.kind;refine dm.any cS λs e1 e2 aP=>?_
 subst e1;have aQ:Z.kindOf sB=J .globalImplicit:=by show Z.scope.names.lookup _=_;exact G iS aid
 refine anK cX.rel.base a6 (by lia) hk aQ cX.fr.glob λaS e r aB o=>⟨?_,by refine G aB ?_;exact e2,by refine G o ?_;exact aP⟩
 refine dm.any cS λhN e1 e2 aP=>oY r.obj λD t bl=>?_
 have vP:s.heap.UpToSlots aS.heap:=.of_keeps r.keep;have IR:=adX (base:=pJ s.heap (Z.locals::Θ.fs)) k1 cX.rel vP λb hb=>ahJ _ hb
 rw [AA,IE] at IR;rw [<-e1] at IR bl vP;refine wpAny_leaving_firstW (a0:=.ref t) IQ IR Ds bl (λb o fc=>by exact G e1 (r.keep b o (Kc fc))) (JK r.new) rfl rfl rfl λgl mu=>⟨?_,e2,aP⟩
 refine v5 mu λaz aT ca c7=>?_
 exact⟨Z.locals,du,s.heap,e,.ref t,cX.rel,cd.outer ext nD,rfl,⟨az,JK r.new,aT.2.2,ca⟩,vP.trans c7⟩
theorem dm.ite_{ay:Type}{c:Prop}{_:Decidable c}{t u:Sem ay}{Q:ay->bq->Prop}{X:aG->bq->Prop}(k1:dm Θ.w Θ.O ah t Q X h)(k2:dm Θ.w Θ.O ah u Q X h):dm Θ.w Θ.O ah (if c then t else u) Q X h:=by
 by_cases q:c
 ·rw [aY q];exact k1
 ·rw [a8 q];exact k2
theorem abC{i:Nat}{p1 p2 ka:Pos}(hp:(p2.endLine==ka.line)=ae)(ok:bz Θ.fs (d+15) ah)(a:bD Θ Z ρ m H h)(e:oK Z.scope.names m hl=J (.new i))(a9:yV H i):
  dm Θ.w Θ.O ah (eval (.Call (.Attribute (.Name hl p1) sC p2) [] [] ka) Z) (λ_ _=>False) (λe av=>∃bG ai,bD Θ Z bG m H ai/\d3 (own Z) ρ h bG ai/\FX Θ (ah.code.envs++pg ah.below) bG H ai e av) h:=by
 have dh:eval (.Call (.Attribute (.Name hl p1) sC p2) [] [] ka) Z=(eval (.Name hl p1) Z>>=λeN=>gw p2.atName>>=λ_=>Gy (.Name hl p1) sC p2 ka Z eN (0+0) (jB ka (ic [] Z)) []):=rfl
 have Kd:bz Θ.fs (d+11+4) ah:=ok;refine G dh (G (eval_Name _ _ _ (by decide)) ?_)
 refine dm.bindJ (af.bv (λ_=>af.standAt) (af.mono (Bm ok a e) λo' ai ⟨bG,dF,bI,bL,ch,aM,a7,b9⟩=>dm.bindJ (af.standAt ?_)))
 subst aM a7;unfold Gy;have ig:bx (.new i) sC bI=J (.fn 806 [.new i]):=by
  refine Uk a9 λaN l c e oJ eW ej fy fz _=>?_
  unfold bx;simp only [ej,fy];rfl
 have Ie:NR (0+0) (jB ka (ic [] Z)) []=ae:=by rfl
 refine G Ie (dm.bindJ (af.holding (af.mono (Rp Kd bL b9 ig) λc' ak cV=>?_)))
 obtain⟨du,jK,cN,cX,cd,aM,a7,q3⟩:=cV;subst aM a7;obtain⟨f',An⟩:=c';refine dS (id q3) λd1 g2 hx=>?_
 dsimp only at d1 g2;subst d1;unfold methodCallPos;refine G hp ?_;simp only [Bool.not_true,Bool.false_or,if_true,zk];refine cz ((tU (Θ:=Θ) (d:=d+11) PI 40).es [] rfl) λhn hs=>?_
 have yL:ju False (λ_ _ _ _=>False) [] Z.scope.names jK cN (λvs bb=>vs=[]/\bb=cN):=⟨rfl,rfl⟩
 unfold Cy;refine dm.bindJ (af.holding (af.mono (Eg (f':=.ref 806) (pos:=ka) hs hn Kd cX yL) λzR aZ ⟨kf,A2,cg,fx,ee,aM,a7,vs,gJ,iF,vC⟩=>dm.bindJ (af.standAt ?_)))
 subst aM iF vC;obtain⟨vs',iT⟩:=zR;dsimp only at a7 gJ;subst a7;rcases gJ;have n1:(jB ka (ic [] Z)).any (·.1)=aA:=rfl;refine G n1 (dm.bindJ (af.mono (Tq Kd fx (q3.sub ee.sub)) λqO cC cV=>?_))
 obtain⟨rc,A3,eD,ko,jE,aM,a7,Be⟩:=cV;subst aM a7;refine bU (All2.one (g2.mono λ_ _ r=>r.sub (ee.sub.trans jE.sub))) λaJ alw f0=>?_;obtain rfl:=alw
 have vw:dm Θ.w Θ.O ah (PySem.call (.ref 806) [aJ]) (λ_ _=>False) (λe av=>∃bG ai,bD Θ Z bG A3 eD ai/\d3 (own Z) ρ h bG ai/\FX Θ (ah.code.envs++pg ah.below) bG eD ai e av) cC:=
  (ZV ok ko.rel f0 a9).mono (λ_ _ z=>z) λe av z=>⟨rc,cC,ko,ch.trans (cd.trans (ee.trans jE)),z⟩
 have vN:∀ {t:Sem aG} {X:aG->bq->Prop},dm Θ.w Θ.O ah t (λ_ _=>False) X cC->dm Θ.w Θ.O ah (t>>=λr=>gO [r] point>>=λ_=>bK r) (λ_ _=>False) X cC:=λce=>
  dm.bind (ce.mono (λ_ _ z=>z.elim) λ_ _ z=>z)
 rcases Be with rfl|rfl
 ·exact dm.ite_ (vN vw) (vN (dm.keep vw))
 ·exact vN vw
theorem agc(P:cB):p6 P 917 (bf 43):=⟨(yK 2),_,by kernel_rfl,rfl,rfl,rfl,rfl,rfl,rfl,by kernel_rfl,λs vs X aQ=>by refine cm (JA aQ) λa0 aly=>?_;obtain rfl:=aly;exact BindsTo.of_eq rfl⟩
theorem aiX(P:cB):ue P 917 (bf 43):=Ik (agc P) (by decide+kernel)
theorem aaa:aW (bf 43)=[.Try [.Expr (.Call (.Attribute (.Name hl ⟨691,8,691,15⟩) sC ⟨691,8,691,21⟩) [] [] ⟨691,8,691,23⟩) ⟨691,8,691,23⟩]
 [.ExceptHandler (J (.Name sB ⟨692,11,692,17⟩)) ac [.Return (J (.Constant (.bool aA) 0 ⟨693,15,693,20⟩)) ⟨693,8,693,20⟩] ⟨692,4,693,20⟩] [] [] ⟨690,4,693,20⟩,
 .Return (J (.Constant (.bool ae) 0 ⟨694,11,694,15⟩)) ⟨694,4,694,15⟩]:=by kernel_rfl
theorem aim{v:L}:oK (dO (bf 43)).names (((fF (bf 43)).args.map (·.arg)).zip [v]) hl=J v:=by kernel_rfl
theorem aie:(dO (bf 43)).names.lookup sB=J .globalImplicit:=by decide+kernel
theorem ahK{Θ:fa}(x:fW Θ ρ H h):∀b o,Θ.h₀.get? b=J o->(pJ h Θ.fs).get? b=J o:=λb o e=>
 RF _ (λz=>by have :=(x.frm b z).1;rw [e] at this;exact br this.symm) (x.old b o e)
theorem apk{Θ:fa}{av:bq}(x:fW Θ ρ H h)(st:(pJ h Θ.fs).StaysIn av)(sm:h.UpToSlots av):GO Θ.fs h av:=
 ⟨λb o e hn=>st b o (RF _ hn e),λb o e hb=>sm b o e λvs q=>by
  refine dS (x.frm b hb) λ_ alz _=>?_;obtain⟨o',cU,-,aH,n,dd⟩:=alz
  rw [e] at cU;obtain rfl:=ci cU;rw [dd] at q;cases q⟩
theorem d3.turned{Θ:fa}{X:List a1}{du:cr}{aZ gH:bq}(f:d3 X ρ h du aZ)(x:fW Θ du H aZ)(t:GO Θ.fs aZ gH)(hz:h.objs.size<=gH.objs.size):d3 X ρ h du gH:=
 ⟨f.sub,f.new,λb o e hb f4=>(f.keep b o e hb f4).trans λo' cU=>by
  by_cases q:b∈Θ.fs
  ·refine cm (t.slot b o' cU q) λsl Ae=>?_
   refine dS (x.frm b q) λ_ alA _=>?_;refine kT alA λen e2 dy _=>?_
   rw [cU] at e2;obtain rfl:=ci e2;exact⟨sl,Ae,λz=>absurd dy z⟩
  ·exact .of (t.keep b o' cU q),hz⟩
theorem an2{Θ:fa}{d:Nat}{vs:List L}{k:L->an->Prop}(bu:Bj False vs H k):BS Θ (d+25) 917 vs H k:=by
 intro ah ρ h vs' ok lW hv;refine kT (ad0 bu) λi alB a9 kt=>?_;obtain rfl:=alB
 refine dm.toJ (H8 (d:=d+20) (aiX _) rfl ok lW hv λgU Z ai vA aD Ds iS ext nD IE gk=>Jn aD (.of ?_))
 have k1:bz (Θ.fr Z).fs (d+9+15) gU:=vA;refine G aaa (G (CB ..) ?_);refine af.bind ?_;show af _ _ _ (gw _>>=λ_=>tryStmt aA (execs [_] Z) [_] (execs [] Z) [] Z) _ _
 refine af.bind (af.standAt ?_);refine af.bind (dm.attempt ?_);refine G (CB ..) (dm.bind (G (exec_Expr _ _ _ (RT gk) rfl) (dm.bindJ (af.standAt (dm.bind ((abC rfl k1 gk (G iS aim) a9).mono (λ_ _ z=>z.elim) λe av z=>?_))))))
 refine asa z λbG ak bL ch a2 du aZ mV a0 gJ ee alC QD sm=>?_;clear z;obtain rfl:=alC
 have AA:gU.code.envs=[Z]:=G aD rfl;refine Ug k1.frames λA cS a6 bA qE=>?_
 have IQ:A.frames=J (Z::pg gU.below):=G qE (G AA rfl);rw [AA] at QD;refine af.any cS λs e1 e2 aP=>?_
 subst e1;refine b4 (wpAny_looks_onW IQ Ds QD λcC ae0 apS=>?_)
 refine b4 (wpAny_landsW ae0 λgl Ao apT=>?_)
 have Mu:l7 Θ.w gl:=Θ.base.keeps λb o e=>Ao.1 b o (ahK gJ b o e)
 have hk:Z.scope.kind=.function:=bL.fr.kind;have aQ:Z.kindOf sB=J .globalImplicit:=by show Z.scope.names.lookup _=_;exact G iS aie
 obtain⟨nm,Bf,bs,hdct,sn,sub,ab,col,dd,c0,dv,dy,eT,kK,dD⟩:=z6 Mu.k;refine tY Ao.first λKb gr aeS II _ _=>?_
 refine wpAny_handleBy_cons (codeAny_handlers_test (OU Mu.k hk aQ bL.fr.glob (Qp _) (by decide) (wpAny_excMatches_sub_self dD aeS II (by decide) ?_))) (by intro q;cases q)
 refine codeAny_handlers_suite (wpAny_setFlight_noneW Ao.1 Ao.2.2.1 Ao.2.2.2.at λgH aoM _ _ agi=>?_)
 refine NV (G (exec_Return_some ..) (b4 (GI (b4 (hG (a:=.bool aA) rfl (cL ?_))))));have apU:aZ.UpToSlots gH:=sm.trans (apS.trans (apT.trans λb o e hn=>⟨o.slots,agi b o e hn⟩))
 have T:=apk gJ aoM apU;have hd:=gJ.turned T;have hz:h.objs.size<=gH.objs.size:=by
  refine dS (gJ.frm Z.locals (f8 _ fK)) λ_ alD _=>?_;refine bU alD λo e _=>?_
  exact cm (T.slot _ _ e (f8 _ fK)) λsl cU=>jz (eI (nD _ fK) (gE cU))
 refine⟨af.pure ?_,e2,aP⟩;exact⟨du,H,.bool aA,⟨hd.len,hd.old,hd.low,hd.sep,hd.obj,λb hb=>hd.frm b (f8 _ (f8 _ hb))⟩,((ch.trans ee.wide).outer ext nD).turned gJ T hz,rfl,kt⟩
theorem PJ(w:eJ)(bp:gv)(h₀:bq)(B:l7 w h₀):∀(n:Nat) (fs:List a1),n0 ⟨w,bp,h₀,B,fs⟩ (5*n+25) (Ec False n)
 |0,fs=>λ_ _ _ _ h=>h.elim
 |n+1,fs=>λf vs H k h=>by
  have h:(if f=917 then Bj False vs H k else tn False (Ec False n) f vs H k):=h
  by_cases q:f=917
  ·rw [aY q] at h;subst q;exact an2 (d:=5*(n+1)) h
  ·rw [a8 q] at h;unfold tn at h;cases e:r3 f with
   |none=>rw [e] at h;exact h.elim
   |some st=>
    rw [e] at h;refine cz (Il w.params e) λa9 c=>?_
    by_cases aQ:vs.length=(fF st).args.length
    ·exact Pr (d:=5*n+25) a9 (λb=>(Tl (PJ w bp h₀ B n (b::fs)) 40).2 _ c) aQ (by simpa only [aQ,if_true] using h)
    ·simp only [aQ,if_false] at h
theorem afT{ρ:cr}{vs:List aG}{ns:List Int}(x:IntsAre vs ns):All2 (bg ρ) (ns.map L.int) vs:=by
 induction x with
 |nil=>exact .nil
 |cons n t h ih=>exact .cons ⟨t,rfl⟩ ih
theorem ad3:(frameCount l6.below+l6.code.weight<=301):=by decide+kernel
theorem ad4:(l6.units<=100):=by decide+kernel
theorem ad5:qQ l6.code=ae:=by kernel_rfl
theorem ad2:l6.In {depth:=301,units:=100}:=⟨rfl,ad3,(λ_ h=>nomatch h),(λ_ h=>nomatch h),ad4⟩
theorem ad6:∀x∈l6.below,qQ x.1=ae:=λx h=>nomatch h
theorem aiZ(n:Nat)(h:n<200):bz [] n l6:=by
 refine⟨⟨_,ad2,rfl,?_,?_⟩,ad5,ad6,λZ h=>nomatch h⟩
 ·show 301+2*n<990
  omega
 ·show 100+40*n<9800
  omega
theorem Ba{ay:Type}{a b:ay}{i:Nat}(h:[a][i]? =J b):i=0/\b=a:=by
 induction i using n7 with
 |zero=>obtain rfl:=ci h;exact⟨rfl,rfl⟩
 |succ i=>exact br h
theorem aqR:Ow:=by
 intro w eo B bj a vs ns ha hi hn;have C:=PJ w eo.os eo.heap B 13 [] 927 [.new 0] [.scr (ns.map .int)] (λv _=>v=.bool ae) (P.asV rfl hn λ_=>rfl)
 have lW:fW ⟨w,eo.os,eo.heap,B,[]⟩ [(a,a)] [.scr (ns.map .int)] eo.heap:=by
  refine⟨rfl,λ_ _ e=>e,λi p e q=>absurd (Ba e).1 q,λi j p q e1 e2 jL=>absurd ((Ba e1).1.trans (Ba e2).1.symm) jL,λi p o e1 e2=>?_,λb hb=>nomatch hb⟩
  refine cz (Ba e1) λama amb=>?_;obtain rfl:=ama;obtain rfl:=amb
  refine cz (Ba e2) λ_ amc=>?_;obtain rfl:=amc
  exact⟨rfl,vs,ha,afT hi⟩
 refine lJ _ _ _ (λv _ aS y=>?_) (λ_ _ _ y=>y) _ _ (C l6 [(a,a)] eo.heap [.ref a] (aiZ _ (by decide)) lW (.cons ⟨(a,a),rfl,rfl⟩ .nil) eo jQ rfl bj rfl)
 refine dS y λamd nC o'=>?_;refine tZ amd λcb bb kb fR _ hv Ku=>?_;obtain rfl:=Ku
 exact⟨hv,fR.old,o',nC⟩
theorem cw:PySem.Challenge.rw_nz0227_01.Holds:=afc aqR
end Mine.Internal
end
theorem PySem.Challenge.cw_nz0227_01_holds : PySem.Challenge.rw_nz0227_01.Holds :=
 Mine.Internal.cw
