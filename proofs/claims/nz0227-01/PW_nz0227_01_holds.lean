import PyProof.Rows.All
import PyProof.ListIndex
import PyProof.Cells
import PyProof.CompFree
import PyProof.DelItemList
import PyProof.DictCalls
import PyProof.DictDisplay
import PyProof.EnumFor
import PyProof.EnumMake
import PyProof.EqAt
import PyProof.EqKinds
import PyProof.NeKinds
import PyProof.ExcBaseAll.ValueError
import PyProof.ExcClass3
import PyProof.ExcInit
import PyProof.StationsW
import PyProof.RangeFor
import PyProof.InstEq
import PyProof.InstStoreFacts
import PyProof.IsiPairs
import PyProof.ListNew
import PyProof.ListCopy
import PyProof.ListStr
import PyProof.WalkInts
import PyProof.Rows.Tup
import PyProof.Rows.Lst
import PyProof.SetKind
import PyProof.WalksPairs
import PyProof.Rows.DictMethods
import PyProof.Rows.Chain
import PyProof.Rows.RuleN_abs
import PyProof.Rows.TupMore
import PyProof.SliceMore
import PyProof.Rows.Range3
import PyProof.Rows.PlainStore
import PyProof.SetRoads
import PyProof.Rows.SetFrom
import Wide.BytesRules
import KE.BitLaws
import Open.Line
import OpenK.KWalk
import OpenK.KMore
import Open.Pieces
import KE.BytesMake
import KE.KBytesWalk
import Wide.All
import Lean
import PySem.Challenge.RW_nz0227_01
set_option Elab.async false
set_option tactic.hygienic false
set_option maxRecDepth 1000000
set_option maxHeartbeats 0
set_option linter.all false
set_option compiler.extract_closed false
set_option bootstrap.genMatcherCode false
set_option genSizeOf false
set_option genInjectivity false
open Array renaming getElem?_eq_getElem->Ms
open Bool renaming true->ae,false->aA,and_eq_true->he,false_eq_true->ng,casesOn->t5,eq_iff_iff->t6,false_ne_true->t7,or_eq_true->t8,false_and->E5,or_true->E6,and_self->Mw,or_eq_false_iff->Ur
open Classical renaming byContradiction->Uu
open Decidable renaming decide->eo
open Eq renaming refl->iv,symm->rd
open Exists renaming elim->cv
open False renaming elim->MC
open ForInStep renaming yield->uf
open Function renaming comp->yW
open HAdd renaming hAdd->FR
open Inhabited renaming default->jQ
open Int renaming natCast_nonneg->ht,toNat_natCast->h8,ofNat_lt->mc,ofNat_le->sI,toNat->us,eq_ofNat_of_zero_le->ze,le_of_lt->zf,le_trans->zg,natCast_add->B3,natCast_ne_zero_iff_pos->B4,not_lt->B5,fdiv_eq_ediv_of_nonneg->MH,lt_trans->MI,toNat_lt->MJ,natAbs_of_nonneg->U5,neg_lt_of_neg_lt->U6,sub_eq_iff_eq_add'->U7
open LawfulMonad renaming bind_assoc->uv,pure_bind->zk
open List renaming length_map->d0,mem_cons->fw,mem_cons_self->fK,mem_cons_of_mem->f8,replicate->f9,mem_map->hQ,map_cons->h9,getElem?_eq_getElem->iy,length_append->iz,size_toArray->iA,all_eq_true->i3,mem_singleton->jk,not_mem_nil->jl,filter_cons->kE,getElem?_eq_some_iff->kF,getElem?_map->kY,mem_append->md,casesOn->mO,getElem?_eq_none->mP,range->nn,nodup_cons->n4,length_take->o5,map_append->p7,mem_map_of_mem->rr,getElem?_append_left->sL,getElem?_append_right->sM,length_cons->sN,lookup_cons->sO,set_set->sP,contains_cons->uw,getElem_of_mem->ux,length_range->uy,all_cons->wk,length_drop->wl,any_cons->zl,drop_zero->zm,getElem_map->zn,getElem_mem->zo,length_set->zp,length_singleton->zq,mem_of_getElem?->zr,nil_append->zs,rec->zt,drop_eq_getElem_cons->B6,getElem?_range->B7,map_map->B8,mem_append_left->B9,mem_append_right->Ca,nodup_nil->Cb,replicate_succ->Cc,append_assoc->FW,drop_length->FX,ext_getElem?->FY,forIn_cons->FZ,getElem?_eq_none_iff->F0,getElem?_toArray->F1,length_filter_le->F2,length_replicate->F3,map_take->F4,nodup_append->F5,zip_cons_cons->F6,flatMap_cons->ML,flatten_cons->MM,forall_mem_cons->MN,getElem?_set_ne->MO,getElem_inj->MP,map_drop->MQ,map_nil->MR,map_set->MS,mem_range->MT,mem_reverse->MU,contains_iff_mem->Ve,filter_eq_self->Vf,getElem?_set_self->Vg,length_filter_eq_length_iff->Vh,take_of_length_le->Vi
open List.Nodup renaming sublist->Vd
open Nat renaming le_trans->cQ,le_refl->cW,lt_of_lt_of_le->eE,lt_of_le_of_lt->eI,zero_le->hf,le_of_eq->iB,lt_irrefl->jn,mod_lt->jo,le_of_lt->jz,beq->kG,le_add_right->kZ,ne_of_lt->mf,le_of_ble_eq_true->mQ,casesOn->n6,lt_trans->n7,not_lt->n8,min_eq_left->pc,add_le_add_left->rv,min_le_right->rx,min_le_left->sS,sub_le->sT,succ_le_succ->sU,le_succ->uB,le_succ_of_le->uC,add_le_add_right->wm,div_le_self->wn,le_of_not_lt->wo,lt_of_not_le->wq,add_assoc->zu,add_comm->zv,add_le_add->Ce,add_sub_of_le->Cf,blt->Cg,le_of_add_left_le->Ch,lt_of_le_of_ne->Ci,lt_or_ge->Cj,mod_eq_of_lt->Ck,le_add_left->F7,lt_of_add_right_lt->F8,lt_succ_self->F9,min_eq_right->Ga,mul_le_mul_left->Gb,le_total->MW,lt_of_lt_of_eq->MX,lt_succ_of_le->MY,mul_succ->MZ,not_lt_zero->M0,sub_pos_of_lt->M1,add_le_add_iff_right->Vl,add_sub_self_left->Vm,eq_of_beq_eq_true->Vn,mod_mul_right_div_self->Vo,not_add_one_le_zero->Vp,sub_le_iff_le_add'->Vq,succ_add_eq_add_succ->Vr
open Nat.le renaming intro ->zw
open Nat.succ renaming inj->M2
open Ne renaming symm->Cm
open Option renaming some->J,none->ac,casesOn->n9,map_eq_some_iff->ry,isSome_iff_exists->sV,map_some->Cn,isNone_iff_eq_none->Ge,bind_some->M9,elim->Na
open Option.some renaming inj->ci
open Prod renaming snd->rz
open Prod.mk renaming inj->NC
open Pure renaming pure->bK
open PyProof renaming noPylong_small->Vs
open PySem renaming Value->aG,Expr->aU,Addr->a1,Heap->bq,wpAny_bind->b4,Shared->cs,Params->cB,Stmt->cD,wpAny_pure->cK,wpAny->cN,model->di,World->eS,OsState->gv,standAt->gw,holding->gO,wpAny_of_eq->hG,DictEntry->hT,starEach->ic,wpAny_specialOf->ie,builtinLookup_eq_fast->iL,typeLookup_type->iM,typeLookup->jp,Scope->jA,backTo->jB,bindL->kk,Around->k4,clipAt->k7,mainGlobals->k8,sizeLine_eq->k9,Code->lH,NameKind->lI,argsOk->mg,sizeLine->mh,wpAny_field->mi,compEnvC->mS,Flow->nq,table->nu,Operator->og,getItem->oi,bm_if_false->pe,envsOf->pf,Model->qg,assignEach->qj,entryFor->qk,evalEach->ql,treeTable->qm,wpAny_call_entry->qn,wpAny_newObj_type->qo,cellsFrom->rC,checkBuiltinCall->rD,constantsAlone->rE,field->rF,isSubtype_type->rG,rawInt->rH,wpAny_holding->rI,wpAny_rule->rJ,bindC->s4,builtinsNs->s5,compareOp->s6,swapsWith->s7,wpAny_isInstance->s8,wpAny_loadPart_at->s9,wpAny_typeOf->ta,InCallC->uF,Program->uG,assignInOrder->uH,firstArgMember->uI,letTemporaryGo->uJ,wpAny_callSpecial?_slot->uK,BoolOp->ww,bindName->wD,excClassObj->wE,setItem->wF,swappedStores->wG,typeIs_int->wH,wpAny_mono->wI,ExcBaseFacts->zx,binaryOp->zB,bootBuiltins->zC,delItem->zD,plainId_quiet->zE,release->zF,signature?_of->zG,valueAt->zH,without->zI,wpAny_attempt->zJ,attributeBase->Cw,bm_if_true->Cx,callWith->Cy,dropValue->Cz,entryFor_of_tree->CA,execs_cons->CB,foldedSetIterable->CC,keeperOf->CD,sysModules->CE,unpackItems->CF,wpAny_call->CG,wpAny_isSubtype_exc->CH,Comprehension->Gl,assignStores->Gp,checkTypeCall->Gq,clipAt_nat->Gr,codeAny_of_tree->Gs,getMethod_builtin->Gu,isSubtype_stop->Gv,methodCall->Gw,name_of_addr->Gx,slot_listiter_next->Gy,wpAny_handled->Gz,wpAny_load->GA,wpAny_loadPart'->GB,wpAny_mkBytes->GC,wpAny_seqItems->GD,wpAny_setField->GF,wpAny_standAt->GG,wpAny_throw->GH,wpCode_mono->GI,codeAny_builtin->NL,comprehension->NM,entry_typeCall->NN,leftWithCleanup->NO,letOwnedTupleGo->NP,methodCallForm->NQ,newFunctionEnv->NR,opaqueClassAbove->NS,pushCells_keeps->NT,wpAny_execs_cons->NU,wpAny_isNot_other->NV,wpAny_is_other->NW,wpAny_loadPart->NX,wpAny_lookBehind->NY,wpAny_sequenceKey->NZ,wpCode_iff_wp->N0
open PySem.Around renaming under_plainId->Gf
open PySem.Builtin renaming bitAnd->wy
open PySem.Builtin.BaseException renaming bexcPut->asn
open PySem.Builtin.Bytes renaming fitsIndex->wx,exportsOf->Gg,subscript?->Gh,tooLong->Gi,write->Gj,decodersThatHold->ND,buffer?->Vt,checkCodecArg->Vu,checkResize->Vv,ownRelease->Vw,sliceParts->Vx,sliced->Vy,slotIsOwn->Vz
open PySem.Builtin.List renaming listExtendWith->NE,listFitsIndex->VA
open PySem.Builtin.ObjectAttr renaming storeInDict->VB
open PySem.Builtin.Range renaming rangeSize->oe,small->VC
open PySem.Code renaming quiet_builtin->Gk
open PySem.DictEntry renaming refKey->NF
open PySem.Env renaming blockKind->Gm
open PySem.Flow renaming next->sY
open PySem.Heap renaming lt_size->gE,get?_push_size->hU,size_push->ib,get?_push_of_some->k6,size_after_update->qf,get?_update_self->sZ,get?_update_other->uE,ExtBut->zy,SameBut->zz,update->NH,get?_none_of_le->VD,get?_update_ne->VE
open PySem.Heap.SameBut renaming update->NG
open PySem.NameKind renaming free->s0,cell->NI
open PySem.Obj renaming mapSeq->rA,mapBytearray->wz,putName->zA
open PySem.PyData renaming keyHash->wA
open PySem.ScopeKind renaming isAnnotationScope->NJ,function->VF
open PySem.Sem renaming wp->gN,wp_mono->lJ,wp_bind'->wB
open PySem.Str renaming ofString->oh
open PySem.Value renaming ref->lK,none->s1,type->Gn
open PySem.W renaming instObj->kj,findIn->nr,dictOf->qh,segRun_of->qi,emptyDict->rB,boot_heap->s2,typeIs_bytes->s3,keepIn->wC,looks_findIn->Cv,looks_nsIn->Go
open PySem.W.FB renaming slot_bytes_add->NK,slot_bytes_getitem->VG
open UInt8 renaming ofNat->hV,toNat_lt->rM,toNat_ofNat'->CJ
noncomputable section
set_option tactic.hygienic true
namespace Mine.Internal
theorem aY{c:Prop}{h:Decidable c}(aD:c){ay:Sort _}{t e:ay}:ite c t e=t:=if_pos aD
theorem a8{c:Prop}{h:Decidable c}(aD:¬c){ay:Sort _}{t e:ay}:ite c t e=e:=if_neg aD
theorem CN{k:Int}{m:Nat}(h:k.natAbs<m):k<m:=Int.lt_of_le_of_lt Int.le_natAbs (mc.mpr h)
theorem GS{k:Int}{m:Nat}(h:k.natAbs<m): -(m:Int)<k:=U6 (CN ((Int.natAbs_neg k).symm▸h))
theorem CM{k:Int}(h:k.natAbs<2^62): -2^63<=k/\k<2^63:=
 ⟨zg (by decide) (zf (GS h)),Int.lt_of_lt_of_le (CN h) (by decide)⟩
theorem XH{a b q:Int}(ha:a.natAbs<2^62)(wO:b.natAbs<2^62)(ai:0<=q)(ak:q<=b - a - 1):0<=q+1/\q+1<2^63:=
 ⟨Int.le_add_one ai,Int.lt_of_le_of_lt (Int.add_le_of_le_sub_right ak) (Int.lt_of_lt_of_le (Int.add_lt_add (CN wO) (U6 (GS ha))) (by decide))⟩
theorem XK{b c:Int}(bu:0<c)(ai:c<1000000)(wO:b.natAbs<2^62): -2^63<=b+(c - 1)/\b+(c - 1)<2^63:=
 ⟨zg (zg (by decide) (zf (GS wO))) (Int.le_add_of_nonneg_right (Int.sub_nonneg_of_le bu)),
  MI (Int.add_lt_add (CN wO) (MI (Int.sub_lt_self _ (by decide)) ai)) (by decide)⟩
theorem Xh{a2 a b i:Nat}(h:¬i<min b a2 - min a a2)(ak:a+i<b):a2<=a+i:=by
 rcases MW a2 a with q|q
 ·exact cQ q (kZ ..)
 ·rcases MW a2 b with p|p
  ·rw [Ga p,pc q] at h;exact Vq.mp (wo h)
  ·rw [pc p,pc q] at h;exact absurd (Nat.lt_sub_of_add_lt (zv a i▸ak)) h
theorem asp{j k i:Nat}(h:j - i=k+1):j - (i+1)=k:=(Nat.sub_add_eq ..).trans (h▸rfl)
theorem asq{j k i:Nat}(h:j - i=k+1):i+1<=j:=Nat.lt_of_sub_pos (h▸Nat.succ_pos _)
theorem Xg{p a:Nat}(h:p<=48 - a):48+p<=65536:=cQ (rv (cQ h (sT 48 a)) 48) (by decide:48+48<=65536)
theorem wO{a2:Nat}(h:a2<=8):4+4*a2+(48 - 4*(a2+1))=48:=by
 rw [zv 4,<-MZ];exact Cf (cQ (Gb 4 (sU h)) (by decide))
theorem XD{a b c d:Nat}(ai:a<=b+1)(ak:c<=a+1)(aZ:d<=c+1):d<=max (b+5) 7:=
 cQ aZ (cQ (sU ak) (cQ (sU (sU ai)) (cQ (rv (by decide:3<=5) b) (Nat.le_max_left ..))))
theorem XE{a b c:Nat}(ak:b<=a+4)(aZ:c<=b+1):c<=max (a+5) 7:=cQ aZ (cQ (sU ak) (Nat.le_max_left ..))
theorem Xn{x:Nat}(h:14<=x)(ai:x<17):x=14\/x=15\/x=16:=by
 exact(by decide:∀x<17,14<=x->x=14\/x=15\/x=16) x ai h
theorem Xw{a b c e:Nat}(h:a+b<=96)(ak:48<=a+(c+e)):b - (c+e)<=48:=by
 have :=Nat.sub_le_sub_right (k:=a+(c+e)) h;rw [Nat.add_sub_add_left] at this;exact cQ this (cQ (Nat.sub_le_sub_left ak 96) (by decide))
theorem Xp{n:Nat}(h:n<=8):(8:Int) - (n:Int)=((8 - n:Nat):Int):=(Int.ofNat_sub h).symm
theorem XA{a b:Nat}(h:a<=b - 1)(bu:0<b):a+1<=b:=Nat.add_le_of_le_sub bu h
theorem tg{off x d:Nat}(h:off+x<=96)(ak:d<x):(off+d)/48=0\/(off+d)/48=1:=by
 have :(off+d)/48<2:=Nat.div_lt_of_lt_mul (eE (Nat.add_lt_add_left ak off) h);exact(by decide:∀y<2,y=0\/y=1) _ this
theorem XG(n:Nat):n/2/5%60+(1+n/2/300%20)<=96:=
 cQ (Ce (jz (jo _ (by decide))) (rv (jz (jo _ (by decide))) 1)) (by decide)
theorem Xf{x:Nat}(h:x<22):13+x/2^3/48=13:=by rw [Nat.div_eq_of_lt (eI (wn ..) (n7 h (by decide)))]
theorem Xm{x d t:Nat}(h:x+d=t)(bu:¬d=0):x+1+(d - 1)=t:=by
 obtain⟨e,rfl⟩:=Nat.exists_eq_succ_of_ne_zero bu;exact(Vr ..).trans h
theorem XC{n m D:Nat}(h:m<=n)(ak:D+2*n<990):D+2*m<990:=eI (rv (Gb 2 h) D) ak
theorem Xd{a:Int}(h:a<0): -a=(a.natAbs:Int):=(Int.ofNat_natAbs_of_nonpos (zf h)).symm
theorem Xt{p n:Nat}(ai:p<=(n+1)/2)(hn:n<=10):2*p<1000:=eI (Gb 2 ai) (eI (Nat.mul_div_le ..) (eI (sU hn) (by decide)))
theorem Xu{p n:Nat}(ai:p<=(n+1)/2)(ak:¬p=(n+1)/2):2*p<n:=by
 have :=Ci ai ak;have :=(Nat.le_div_iff_mul_le (by decide)).mp this
 rw [Nat.succ_mul] at this;exact Nat.mul_comm p 2▸(Nat.le_of_succ_le_succ this:p*2<n)
theorem Xz{n:Nat}(h:¬n=0):¬0=(n+1)/2:=mf (Nat.div_pos (sU (Nat.pos_of_ne_zero h)) (by decide))
theorem Xy{n:Nat}(h:n<=10):(n+1)/2<0+1000:=eI (wn ..) (eI (sU h) (by decide))
theorem XQ{a2 x i j:Nat}(ai:i<=j)(ak:j<=a2)(aZ:x+i=j):min i a2+(x+(a2 - j))=a2:=by
 rw [pc (cQ ai ak),<-zu,zv i,aZ];exact Cf ak
theorem OG{N p:Nat}{w:Int}(h:p<N):w+1+((N - (p+1):Nat):Int)=w+((N - p:Nat):Int):=by
 rw [Int.add_assoc];exact congrArg (w+ ·) (by rw [<-Nat.succ_sub_succ N p,Nat.succ_sub h];exact Int.add_comm ..)
theorem XI{r a2:Nat}(h:r+24<=48):min r a2+24<=1000:=cQ (wm (sS ..) 24) (cQ h (by decide))
theorem XM{r a2:Nat}(h:r+24<=48)(e:a2=48):r+24<=a2:=e▸h
theorem OI{a:Nat}(h:a=0\/14<=a/\a<=17):a<4294967296:=by
 rcases h with rfl|⟨_,h⟩
 ·decide
 ·exact eI h (by decide)
theorem OK{i n:Nat}(h:i>=n)(bu:i - n=0):i=n:=Nat.le_antisymm (Nat.le_of_sub_eq_zero bu) h
theorem GR{x a2:Nat}(h:x<22)(e:a2=48):x/8<a2:=e▸eI (wn ..) (n7 h (by decide))
theorem Xq{s q r:Nat}(h:r<48)(e:48*q+r=s):s+(48 - r)=48*q+48*1:=by
 rw [<-e,zu,Cf (jz h)]
theorem XB{n:Int}(h:n.natAbs<2^62): -9223372036854775808<=n/\n<9223372036854775808:=CM h
theorem OL{k:Int}{n:Nat}(bu:0<=k)(h:k.toNat<n):0<=k/\k<n:=⟨bu,(MJ bu).mp h⟩
theorem Xv{p n:Nat}(ai:p<=(n+1)/2)(ak:¬p=(n+1)/2):p+1<=(n+1)/2:=Ci ai ak
theorem rO{p n f:Nat}(h:n<p+(f+1)):n<p+1+f:=(Vr p f).symm▸h
theorem XO{n:Nat}:min 10 n<0+1000:=eI (sS ..) (by decide)
theorem OJ{p a:Nat}(h:p<=48 - a%48):a%48+p<=48:=cQ (rv h _) (iB (Cf (jz (jo a (by decide)))))
theorem XR{p a a2:Nat}(e:a2=48)(h:p<=48 - a%48):a%48+p<=a2:=cQ (OJ h) (iB e.symm)
theorem XJ{r:Nat}(h:r+24<=48):r+24<1000:=eI h (by decide)
theorem Xs{s a b:Nat}(bu:s<1000)(ai:a=0\/14<=a/\a<=17)(ak:b=0\/14<=b/\b<=17):s<4294967296/\a<4294967296/\b<4294967296:=
 ⟨n7 bu (by decide),OI ai,OI ak⟩
theorem Xr{k:Int}{n m:Nat}(bu:0<=k)(h:k<n)(e:n=m):k.toNat<m:=e▸(MJ bu).mpr h
theorem XN{q:Int}(h:q<0):(q+1).toNat=0:=Int.toNat_of_nonpos h
theorem Xi{x:Nat}(h:x<22):x/8<1000:=eI (wn ..) (n7 h (by decide))
theorem CL{x:Nat}(h:x<=17):x/8<1000:=Xi (eI h (by decide))
theorem uN{x a2:Nat}(h:x<=17)(e:a2=48):x/8<a2:=GR (eI h (by decide)) e
theorem XF{m f:Nat}(h:1+m%2=f):f - 1<1000:=h▸eI (iB (Nat.add_sub_cancel_left ..)) (n7 (jo m (by decide)) (by decide))
theorem GV{off x:Nat}(h:off+x<=96):x<=65536:=cQ (F7 ..) (cQ h (by decide))
theorem XS{off x:Nat}(h:off+x<=96):x<1000:=eI (F7 ..) (eI h (by decide))
theorem Xj{off x d:Nat}(h:off+x<=96)(ak:d<x):d<1000:=n7 ak (XS h)
theorem GU{n m:Nat}(h:¬n<m):¬(n:Int)<m:=λe=>h (mc.mp e)
theorem Xo{n:Nat}(h:n<=4):(4:Int)<=((8 - n:Nat):Int):=sI.mpr (Nat.le_sub_of_add_le (rv h 4))
theorem Xx{z:Int}(h:0<z)(ai:z<1000000):z.natAbs<1073741824:=mc.mp ((U5 (zf h)).symm▸MI ai (by decide))
theorem Xe{a b c d:Nat}(h:a+b=c+d):(c:Int)+(d:Int) - (b:Int)=a:=by
 rw [<-B3,<-h,B3];exact Int.add_sub_cancel ..
theorem Xk{u a n:Nat}(h:u<=40)(ak:a+40*(n+1)<9800):a+u+40*n<9800:=
 eI (by rw [zu,MZ,zv (40*n)];exact rv (wm h _) a) ak
theorem Xl{u a n:Nat}(h:u<=2)(ak:a+2*(n+1)<990):a+u+2*n<990:=
 eI (by rw [zu,MZ,zv (2*n)];exact rv (wm h _) a) ak
theorem OH{p x d:Nat}(e:p=x - d):x<=d+p:=e▸Vq.mp (cW _)
end Mine.Internal
end
noncomputable section
set_option tactic.hygienic true
open PySem PySem.W
namespace Mine.Internal
@[elab_as_elim] theorem G {ay:Sort _} {a b:ay} {P:ay->Prop} (h:a=b) (k:P b):P a:=h▸k
@[elab_as_elim] theorem cU {ay:Sort _} {a b:ay} {P:ay->Prop} (h:b=a) (k:P b):P a:=h▸k
@[elab_as_elim] theorem fB {a b:Prop} {P:Prop->Prop} (h:a↔b) (k:P b):P a:=propext h▸k
section
variable {t1:Sort _}{v8:Sort _}{v9:Sort _}{wa:Sort _}{E3:Sort _}{Mr:Sort _}{Um:Sort _}{aa:Prop}{iK ob sW ws Co Nb:Prop}{hF kH wt Nc:t1->Prop}{ia jT qc Cp Nd Nf Ng Nh Ni:t1->v8->Prop}{jU lG mR qd sX wu Cq Nj:t1->v8->v9->Prop}{qe wv Cr Cs Nk Nl Nm Nn:t1->v8->v9->wa->Prop}{Ct Cu No Np Nq:t1->v8->v9->wa->E3->Prop}{Nr Nt Nu Nv:t1->v8->v9->wa->E3->Mr->Prop}{Nw Ny Nz NA NB:t1->v8->v9->wa->E3->Mr->Um->Prop}
theorem cz(h:iK/\ob)(k:iK->ob->aa):aa:=k h.1 h.2
theorem dS(h:iK/\ob/\sW)(k:iK->ob->sW->aa):aa:=k h.1 h.2.1 h.2.2
theorem v5(h:iK/\ob/\sW/\ws)(k:iK->ob->sW->ws->aa):aa:=k h.1 h.2.1 h.2.2.1 h.2.2.2
theorem arZ(h:iK/\ob/\sW/\ws/\Co)(k:iK->ob->sW->ws->Co->aa):aa:=k h.1 h.2.1 h.2.2.1 h.2.2.2.1 h.2.2.2.2
theorem Uc(h:iK/\ob/\sW/\ws/\Co/\Nb)(k:iK->ob->sW->ws->Co->Nb->aa):aa:=k h.1 h.2.1 h.2.2.1 h.2.2.2.1 h.2.2.2.2.1 h.2.2.2.2.2
theorem tX(h:iK/\ob/\∃aE,hF aE/\kH aE)(k:iK->ob->∀aE,hF aE->kH aE->aa):aa:=cv h.2.2 λcA ai=>k h.1 h.2.1 cA ai.1 ai.2
theorem Ud(h:iK/\∃aE,hF aE)(k:iK->∀aE,hF aE->aa):aa:=cv h.2 λcA ai=>k h.1 cA ai
theorem Ml(h:iK/\∃aE,hF aE/\kH aE)(k:iK->∀aE,hF aE->kH aE->aa):aa:=cv h.2 λcA ai=>k h.1 cA ai.1 ai.2
theorem Mm(h:iK/\∃aE,hF aE/\kH aE/\wt aE)(k:iK->∀aE,hF aE->kH aE->wt aE->aa):aa:=cv h.2 λcA ai=>k h.1 cA ai.1 ai.2.1 ai.2.2
theorem ar0(h:iK/\∃aE,hF aE/\kH aE/\∃az aT ca,qe aE az aT ca/\wv aE az aT ca)(k:iK->∀aE,hF aE->kH aE->∀az aT ca,qe aE az aT ca->wv aE az aT ca->aa):aa:=cv h.2 λcA ai=>cv ai.2.2 λdc ak=>cv ak λfi aZ=>cv aZ λly cC=>k h.1 cA ai.1 ai.2.1 dc fi ly cC.1 cC.2
theorem Ue(h:iK/\∃aE az,ia aE az/\jT aE az)(k:iK->∀aE az,ia aE az->jT aE az->aa):aa:=cv h.2 λcA ai=>cv ai λdc ak=>k h.1 cA dc ak.1 ak.2
theorem ar1(h:iK/\∃aE az,ia aE az/\jT aE az/\qc aE az)(k:iK->∀aE az,ia aE az->jT aE az->qc aE az->aa):aa:=cv h.2 λcA ai=>cv ai λdc ak=>k h.1 cA dc ak.1 ak.2.1 ak.2.2
theorem cm(h:∃aE,hF aE)(k:∀aE,hF aE->aa):aa:=cv h λcA ai=>k cA ai
theorem bT(h:∃aE,hF aE/\kH aE)(k:∀aE,hF aE->kH aE->aa):aa:=cv h λcA ai=>k cA ai.1 ai.2
theorem kS(h:∃aE,hF aE/\kH aE/\wt aE)(k:∀aE,hF aE->kH aE->wt aE->aa):aa:=cv h λcA ai=>k cA ai.1 ai.2.1 ai.2.2
theorem Uf(h:∃aE,hF aE/\kH aE/\wt aE/\Nc aE)(k:∀aE,hF aE->kH aE->wt aE->Nc aE->aa):aa:=cv h λcA ai=>k cA ai.1 ai.2.1 ai.2.2.1 ai.2.2.2
theorem Mn(h:∃aE,hF aE/\kH aE/\∃az,ia aE az)(k:∀aE,hF aE->kH aE->∀az,ia aE az->aa):aa:=cv h λcA ai=>cv ai.2.2 λdc ak=>k cA ai.1 ai.2.1 dc ak
theorem Ug(h:∃aE,hF aE/\kH aE/\∃az,ia aE az/\jT aE az/\qc aE az)(k:∀aE,hF aE->kH aE->∀az,ia aE az->jT aE az->qc aE az->aa):aa:=cv h λcA ai=>cv ai.2.2 λdc ak=>k cA ai.1 ai.2.1 dc ak.1 ak.2.1 ak.2.2
theorem ar2(h:∃aE,hF aE/\∃az,ia aE az)(k:∀aE,hF aE->∀az,ia aE az->aa):aa:=cv h λcA ai=>cv ai.2 λdc ak=>k cA ai.1 dc ak
theorem ar3(h:∃aE,hF aE/\∃az,ia aE az/\jT aE az)(k:∀aE,hF aE->∀az,ia aE az->jT aE az->aa):aa:=cv h λcA ai=>cv ai.2 λdc ak=>k cA ai.1 dc ak.1 ak.2
theorem BK(h:∃aE,hF aE/\∃az aT,jU aE az aT/\lG aE az aT/\∃ca c7,Ct aE az aT ca c7/\Cu aE az aT ca c7/\No aE az aT ca c7/\Np aE az aT ca c7/\Nq aE az aT ca c7)(k:∀aE,hF aE->∀az aT,jU aE az aT->lG aE az aT->∀ca c7,Ct aE az aT ca c7->Cu aE az aT ca c7->No aE az aT ca c7->Np aE az aT ca c7->Nq aE az aT ca c7->aa):aa:=cv h λcA ai=>cv ai.2 λdc ak=>cv ak λfi aZ=>cv aZ.2.2 λly cC=>cv cC λv6 gl=>k cA ai.1 dc fi aZ.1 aZ.2.1 ly v6 gl.1 gl.2.1 gl.2.2.1 gl.2.2.2.1 gl.2.2.2.2
theorem oX(h:∃aE az,ia aE az)(k:∀aE az,ia aE az->aa):aa:=cv h λcA ai=>cv ai λdc ak=>k cA dc ak
theorem mF(h:∃aE az,ia aE az/\jT aE az)(k:∀aE az,ia aE az->jT aE az->aa):aa:=cv h λcA ai=>cv ai λdc ak=>k cA dc ak.1 ak.2
theorem kA(h:∃aE az,ia aE az/\jT aE az/\qc aE az)(k:∀aE az,ia aE az->jT aE az->qc aE az->aa):aa:=cv h λcA ai=>cv ai λdc ak=>k cA dc ak.1 ak.2.1 ak.2.2
theorem tY(h:∃aE az,ia aE az/\jT aE az/\qc aE az/\Cp aE az)(k:∀aE az,ia aE az->jT aE az->qc aE az->Cp aE az->aa):aa:=cv h λcA ai=>cv ai λdc ak=>k cA dc ak.1 ak.2.1 ak.2.2.1 ak.2.2.2
theorem Uh(h:∃aE az,ia aE az/\jT aE az/\qc aE az/\Cp aE az/\Nd aE az/\Nf aE az/\Ng aE az/\Nh aE az/\Ni aE az)(k:∀aE az,ia aE az->jT aE az->qc aE az->Cp aE az->Nd aE az->Nf aE az->Ng aE az->Nh aE az->Ni aE az->aa):aa:=cv h λcA ai=>cv ai λdc ak=>k cA dc ak.1 ak.2.1 ak.2.2.1 ak.2.2.2.1 ak.2.2.2.2.1 ak.2.2.2.2.2.1 ak.2.2.2.2.2.2.1 ak.2.2.2.2.2.2.2.1 ak.2.2.2.2.2.2.2.2
theorem ar4(h:∃aE az,ia aE az/\jT aE az/\∃aT,jU aE az aT)(k:∀aE az,ia aE az->jT aE az->∀aT,jU aE az aT->aa):aa:=cv h λcA ai=>cv ai λdc ak=>cv ak.2.2 λfi aZ=>k cA dc ak.1 ak.2.1 fi aZ
theorem ar5(h:∃aE az,ia aE az/\jT aE az/\∃aT ca c7 eG h4,Nw aE az aT ca c7 eG h4/\Ny aE az aT ca c7 eG h4/\Nz aE az aT ca c7 eG h4/\NA aE az aT ca c7 eG h4/\NB aE az aT ca c7 eG h4)(k:∀aE az,ia aE az->jT aE az->∀aT ca c7 eG h4,Nw aE az aT ca c7 eG h4->Ny aE az aT ca c7 eG h4->Nz aE az aT ca c7 eG h4->NA aE az aT ca c7 eG h4->NB aE az aT ca c7 eG h4->aa):aa:=cv h λcA ai=>cv ai λdc ak=>cv ak.2.2 λfi aZ=>cv aZ λly cC=>cv cC λv6 gl=>cv gl λMo gH=>cv gH λasf qC=>k cA dc ak.1 ak.2.1 fi ly v6 Mo asf qC.1 qC.2.1 qC.2.2.1 qC.2.2.2.1 qC.2.2.2.2
theorem ar6(h:∃aE az aT,jU aE az aT)(k:∀aE az aT,jU aE az aT->aa):aa:=cv h λcA ai=>cv ai λdc ak=>cv ak λfi aZ=>k cA dc fi aZ
theorem E1(h:∃aE az aT,jU aE az aT/\lG aE az aT/\mR aE az aT)(k:∀aE az aT,jU aE az aT->lG aE az aT->mR aE az aT->aa):aa:=cv h λcA ai=>cv ai λdc ak=>cv ak λfi aZ=>k cA dc fi aZ.1 aZ.2.1 aZ.2.2
theorem tZ(h:∃aE az aT,jU aE az aT/\lG aE az aT/\mR aE az aT/\qd aE az aT)(k:∀aE az aT,jU aE az aT->lG aE az aT->mR aE az aT->qd aE az aT->aa):aa:=cv h λcA ai=>cv ai λdc ak=>cv ak λfi aZ=>k cA dc fi aZ.1 aZ.2.1 aZ.2.2.1 aZ.2.2.2
theorem ar7(h:∃aE az aT,jU aE az aT/\lG aE az aT/\mR aE az aT/\qd aE az aT/\sX aE az aT)(k:∀aE az aT,jU aE az aT->lG aE az aT->mR aE az aT->qd aE az aT->sX aE az aT->aa):aa:=cv h λcA ai=>cv ai λdc ak=>cv ak λfi aZ=>k cA dc fi aZ.1 aZ.2.1 aZ.2.2.1 aZ.2.2.2.1 aZ.2.2.2.2
theorem ar8(h:∃aE az aT,jU aE az aT/\lG aE az aT/\mR aE az aT/\qd aE az aT/\sX aE az aT/\wu aE az aT)(k:∀aE az aT,jU aE az aT->lG aE az aT->mR aE az aT->qd aE az aT->sX aE az aT->wu aE az aT->aa):aa:=cv h λcA ai=>cv ai λdc ak=>cv ak λfi aZ=>k cA dc fi aZ.1 aZ.2.1 aZ.2.2.1 aZ.2.2.2.1 aZ.2.2.2.2.1 aZ.2.2.2.2.2
theorem ar9(h:∃aE az aT,jU aE az aT/\lG aE az aT/\mR aE az aT/\qd aE az aT/\sX aE az aT/\wu aE az aT/\Cq aE az aT)(k:∀aE az aT,jU aE az aT->lG aE az aT->mR aE az aT->qd aE az aT->sX aE az aT->wu aE az aT->Cq aE az aT->aa):aa:=cv h λcA ai=>cv ai λdc ak=>cv ak λfi aZ=>k cA dc fi aZ.1 aZ.2.1 aZ.2.2.1 aZ.2.2.2.1 aZ.2.2.2.2.1 aZ.2.2.2.2.2.1 aZ.2.2.2.2.2.2
theorem asa(h:∃aE az aT,jU aE az aT/\lG aE az aT/\mR aE az aT/\qd aE az aT/\sX aE az aT/\wu aE az aT/\Cq aE az aT/\Nj aE az aT)(k:∀aE az aT,jU aE az aT->lG aE az aT->mR aE az aT->qd aE az aT->sX aE az aT->wu aE az aT->Cq aE az aT->Nj aE az aT->aa):aa:=cv h λcA ai=>cv ai λdc ak=>cv ak λfi aZ=>k cA dc fi aZ.1 aZ.2.1 aZ.2.2.1 aZ.2.2.2.1 aZ.2.2.2.2.1 aZ.2.2.2.2.2.1 aZ.2.2.2.2.2.2.1 aZ.2.2.2.2.2.2.2
theorem asb(h:∃aE az aT,jU aE az aT/\lG aE az aT/\mR aE az aT/\∃ca,qe aE az aT ca)(k:∀aE az aT,jU aE az aT->lG aE az aT->mR aE az aT->∀ca,qe aE az aT ca->aa):aa:=cv h λcA ai=>cv ai λdc ak=>cv ak λfi aZ=>cv aZ.2.2.2 λly cC=>k cA dc fi aZ.1 aZ.2.1 aZ.2.2.1 ly cC
theorem asc(h:∃aE az aT ca,qe aE az aT ca)(k:∀aE az aT ca,qe aE az aT ca->aa):aa:=cv h λcA ai=>cv ai λdc ak=>cv ak λfi aZ=>cv aZ λly cC=>k cA dc fi ly cC
theorem Ui(h:∃aE az aT ca,qe aE az aT ca/\wv aE az aT ca/\Cr aE az aT ca/\Cs aE az aT ca)(k:∀aE az aT ca,qe aE az aT ca->wv aE az aT ca->Cr aE az aT ca->Cs aE az aT ca->aa):aa:=cv h λcA ai=>cv ai λdc ak=>cv ak λfi aZ=>cv aZ λly cC=>k cA dc fi ly cC.1 cC.2.1 cC.2.2.1 cC.2.2.2
theorem asd(h:∃aE az aT ca,qe aE az aT ca/\wv aE az aT ca/\Cr aE az aT ca/\Cs aE az aT ca/\Nk aE az aT ca/\Nl aE az aT ca/\Nm aE az aT ca/\Nn aE az aT ca)(k:∀aE az aT ca,qe aE az aT ca->wv aE az aT ca->Cr aE az aT ca->Cs aE az aT ca->Nk aE az aT ca->Nl aE az aT ca->Nm aE az aT ca->Nn aE az aT ca->aa):aa:=cv h λcA ai=>cv ai λdc ak=>cv ak λfi aZ=>cv aZ λly cC=>k cA dc fi ly cC.1 cC.2.1 cC.2.2.1 cC.2.2.2.1 cC.2.2.2.2.1 cC.2.2.2.2.2.1 cC.2.2.2.2.2.2.1 cC.2.2.2.2.2.2.2
theorem ase(h:∃aE az aT ca c7,Ct aE az aT ca c7/\Cu aE az aT ca c7)(k:∀aE az aT ca c7,Ct aE az aT ca c7->Cu aE az aT ca c7->aa):aa:=cv h λcA ai=>cv ai λdc ak=>cv ak λfi aZ=>cv aZ λly cC=>cv cC λv6 gl=>k cA dc fi ly v6 gl.1 gl.2
theorem Uj(h:∃aE az aT ca c7 eG,Nr aE az aT ca c7 eG/\Nt aE az aT ca c7 eG/\Nu aE az aT ca c7 eG/\Nv aE az aT ca c7 eG)(k:∀aE az aT ca c7 eG,Nr aE az aT ca c7 eG->Nt aE az aT ca c7 eG->Nu aE az aT ca c7 eG->Nv aE az aT ca c7 eG->aa):aa:=cv h λcA ai=>cv ai λdc ak=>cv ak λfi aZ=>cv aZ λly cC=>cv cC λv6 gl=>cv gl λMo gH=>k cA dc fi ly v6 Mo gH.1 gH.2.1 gH.2.2.1 gH.2.2.2
end
noncomputable def iP{ay:Type}(e:aU)(d:ay)(kBoolOp:ww->List aU->Pos->ay:=λ_ _ _=>d)(kBinOp:aU->og->aU->Pos->ay:=λ_ _ _ _=>d)(kUnaryOp:UnaryOp->aU->Pos->ay:=λ_ _ _=>d)(kIfExp:aU->aU->aU->Pos->ay:=λ_ _ _ _=>d)(kDict:List (Option aU)->List aU->Pos->ay:=λ_ _ _=>d)(kListComp:aU->List Gl->jA->Pos->ay:=λ_ _ _ _=>d)(kCompare:aU->List CmpOp->List aU->Pos->ay:=λ_ _ _ _=>d)(kCall:aU->List aU->List Keyword->Pos->ay:=λ_ _ _ _=>d)(kConstant:Const->Nat->Pos->ay:=λ_ _ _=>d)(kAttribute:aU->Str->Pos->ay:=λ_ _ _=>d)(kSubscript:aU->aU->Pos->ay:=λ_ _ _=>d)(kName:Str->Pos->ay:=λ_ _=>d)(kList:List aU->Pos->ay:=λ_ _=>d)(kTuple:List aU->Nat->Pos->ay:=λ_ _ _=>d)(kSlice:Option aU->Option aU->Option aU->Pos->ay:=λ_ _ _ _=>d):ay:=
 Expr.casesOn (motive_1:=λ_=>ay) e kBoolOp (λ_ _ _=>d) kBinOp kUnaryOp (λ_ _ _ _=>d) kIfExp kDict (λ_ _ _=>d) kListComp (λ_ _ _ _=>d) (λ_ _ _ _ _=>d) (λ_ _ _ _=>d) (λ_ _=>d) (λ_ _=>d) (λ_ _=>d) kCompare kCall (λ_ _ _ _=>d) (λ_ _=>d) kConstant kAttribute kSubscript (λ_ _=>d) kName kList kTuple kSlice
noncomputable def oR{ay:Type}(e:cD)(d:ay)(kFunctionDef:Str->Arguments->List cD->List aU->Option aU->List TypeParam->jA->Option jA->Str->Pos->ay:=λ_ _ _ _ _ _ _ _ _ _=>d)(kClassDef:Str->List aU->List Keyword->List cD->List aU->List TypeParam->jA->Option jA->Str->List Str->Pos->ay:=λ_ _ _ _ _ _ _ _ _ _ _=>d)(kReturn:Option aU->Pos->ay:=λ_ _=>d)(kDelete:List aU->Pos->ay:=λ_ _=>d)(kAssign:List aU->aU->Pos->ay:=λ_ _ _=>d)(kAugAssign:aU->og->aU->Pos->ay:=λ_ _ _ _=>d)(kFor:aU->aU->List cD->List cD->Pos->ay:=λ_ _ _ _ _=>d)(kWhile:aU->List cD->List cD->Pos->ay:=λ_ _ _ _=>d)(kIf:aU->List cD->List cD->Pos->ay:=λ_ _ _ _=>d)(kRaise:Option aU->Option aU->Pos->ay:=λ_ _ _=>d)(kTry:List cD->List ExceptHandler->List cD->List cD->Pos->ay:=λ_ _ _ _ _=>d)(kExpr:aU->Pos->ay:=λ_ _=>d)(kPass:Pos->ay:=λ_=>d)(kBreak:Pos->ay:=λ_=>d):ay:=
 Stmt.casesOn (motive_2:=λ_=>ay) e kFunctionDef (λ_ _ _ _ _ _ _ _ _ _=>d) kClassDef kReturn kDelete kAssign (λ_ _ _ _ _ _ _=>d) kAugAssign (λ_ _ _ _ _=>d) kFor (λ_ _ _ _ _=>d) kWhile kIf (λ_ _ _=>d) (λ_ _ _=>d) (λ_ _ _=>d) kRaise kTry (λ_ _ _ _ _=>d) (λ_ _ _=>d) (λ_ _=>d) (λ_ _ _ _=>d) (λ_ _=>d) (λ_ _=>d) kExpr kPass kBreak (λ_=>d)
end Mine.Internal
end
noncomputable section
set_option tactic.hygienic true
namespace Mine.Internal
open PySem PySem.W
noncomputable abbrev prog:uG:=PySem.Challenge.pw_nz0227_01
noncomputable abbrev r(a:Nat):aG:=.ref a
noncomputable abbrev i(k:Int):aG:=.int k 0
noncomputable abbrev z(x:String):Str:=oh x
noncomputable abbrev s(x:String)(t:Nat):aG:=.str (oh x) t
noncomputable abbrev e(P:cB)(x:String)(t:Nat)(v:aG):hT:=⟨wA P (oh x),.str (oh x) t,v⟩
noncomputable def bw:List cD->Nat->cD
 | [],_=>.Pass jQ
 |a::_,0=>a
 |_::l,k+1=>bw l k
noncomputable def bf(k:Nat):cD:=bw prog.main.body k
noncomputable abbrev bQ:Str:=z "self"
noncomputable abbrev bS:Str:=z "number"
noncomputable abbrev cu:Str:=z "image"
noncomputable abbrev dH:Str:=z "size"
noncomputable abbrev dP:Str:=z "disk"
noncomputable abbrev dQ:Str:=z "place"
noncomputable abbrev d2:Str:=z "octets"
noncomputable abbrev ey:Str:=z "touched"
noncomputable abbrev ew:Str:=z "files"
noncomputable abbrev eB:Str:=z "nodes"
noncomputable abbrev eC:Str:=z "places"
noncomputable abbrev eO:Str:=z "rows"
noncomputable abbrev eX:Str:=z "writes"
noncomputable abbrev e5:Str:=z "numbers"
noncomputable abbrev e4:Str:=z "at"
noncomputable abbrev fU:Str:=z "cache"
noncomputable abbrev fV:Str:=z "n"
noncomputable abbrev gf:Str:=z "data"
noncomputable abbrev gC:Str:=z "told"
noncomputable abbrev gL:Str:=z "script"
noncomputable abbrev gT:Str:=z "offset"
noncomputable abbrev hl:Str:=z "journal"
noncomputable abbrev hm:Str:=z "value"
noncomputable abbrev hC:Str:=z "done"
noncomputable abbrev hO:Str:=z "super"
noncomputable abbrev h5:Str:=z "node"
noncomputable abbrev iq:Str:=z "pair"
noncomputable abbrev io:Str:=z "due"
noncomputable abbrev ip:Str:=z "marks"
noncomputable abbrev iH:Str:=z "file"
noncomputable abbrev iY:Str:=z "block"
noncomputable abbrev iZ:Str:=z "holders"
noncomputable abbrev jc:Str:=z "row"
noncomputable abbrev kT:Str:=z "reason"
noncomputable abbrev lA:Str:=z "direct"
noncomputable abbrev l4:Str:=z "append"
noncomputable abbrev l5:Str:=z "plan"
noncomputable abbrev mK:Str:=z "write"
noncomputable abbrev mG:Str:=z "blocks"
noncomputable abbrev mH:Str:=z "calls"
noncomputable abbrev mJ:Str:=z "part"
noncomputable abbrev mI:Str:=z "index"
noncomputable abbrev nc:Str:=z "pins"
noncomputable abbrev na:Str:=z "found"
noncomputable abbrev nb:Str:=z "one"
noncomputable abbrev nX:Str:=z "get"
noncomputable abbrev nY:Str:=z "most"
noncomputable abbrev nW:Str:=z "from_log"
noncomputable abbrev oZ:Str:=z "release"
noncomputable abbrev oY:Str:=z "buffer"
noncomputable abbrev pV:Str:=z "__init__"
noncomputable abbrev pX:Str:=z "unflushed"
noncomputable abbrev pW:Str:=z "flushes"
noncomputable abbrev q6:Str:=z "flush"
noncomputable abbrev q8:Str:=z "update"
noncomputable abbrev q7:Str:=z "start"
noncomputable abbrev sB:Str:=z "begin"
noncomputable abbrev sC:Str:=z "by_number"
noncomputable abbrev sD:Str:=z "commits"
noncomputable abbrev sE:Str:=z "rest"
noncomputable abbrev sA:Str:=z "NoRoom"
noncomputable abbrev t0:Str:=z "noted"
noncomputable abbrev v7:Str:=z "data_start"
noncomputable abbrev yO:Str:=z "has_room"
noncomputable abbrev yP:Str:=z "last_flush"
noncomputable abbrev yN:Str:=z "ValueError"
noncomputable abbrev BM:Str:=z "inode_start"
noncomputable abbrev BL:Str:=z "bitmap_start"
noncomputable def aaa(s:cD):List cD:=oR s [] (kClassDef:=λ_ _ _ b _ _ _ _ _ _ _=>b)
noncomputable def aL(k j:Nat):cD:=bw (aaa (bf k)) j
noncomputable def fF(s:cD):Arguments:=oR s jQ (kFunctionDef:=λ_ a _ _ _ _ _ _ _ _=>a)
noncomputable def aW(s:cD):List cD:=oR s [] (kFunctionDef:=λ_ _ b _ _ _ _ _ _ _=>b)
noncomputable def dO(s:cD):jA:=oR s jQ (kFunctionDef:=λ_ _ _ _ _ _ sc _ _ _=>sc)
noncomputable abbrev fn(st:cD)(nm anh:String)(aB:Nat)(Ac ajg i5:aG)(bi:Nat):Data:=
 .func {name:=z nm,qualname:=z anh,params:=fF st,body:=.stmts (aW st),scope:=dO st,globals:=aB,closure:=[],defaults:=Ac,kwdefaults:=.none,doc:=.none,pyModule:=ajg,annotations:=ac,code:=i5,closureTuple:=.none,builtins:=bi}
noncomputable abbrev n(o:Obj)(l r:BT):BT:=.node o l r
noncomputable abbrev a4:Obj:=⟨.type "tuple",ac,.seq #[] 0,#[]⟩
noncomputable abbrev bY:Obj:=⟨.none,ac,.fields #[],#[]⟩
noncomputable def ao9(l:List String):Nat->List aG:=l.rec (λ_=>[]) λx _ k t=>s x t::k (t+1)
noncomputable def sj(l:List aG):Obj:=⟨.type "tuple",ac,.seq ⟨l⟩ 0,#[]⟩
noncomputable def nt(t:Nat)(l:List String):Obj:=sj (ao9 l t)
noncomputable def l9(d:cD)(a b:String):Obj:=⟨.none,ac,fn d a b 0 .none .none .none 0,#[]⟩
noncomputable def dJ(d:cD)(a b c:String)(t k:Nat):Obj:=⟨.type "function",ac,fn d a b 3 .none (s c t) (r k) 0,#[]⟩
noncomputable def RD(k:Nat)(l:List (Nat×Nat)):List aG:=l.rec [] λx _ y=>i x.1::i k::r x.2::y
noncomputable def lt(k:Nat)(l:List (Nat×Nat)):Obj:=⟨.none,ac,.fields ⟨RD k l⟩,#[]⟩
noncomputable def fs(t:String)(l:List aG):Obj:=⟨.type t,ac,.fields ⟨l⟩,#[]⟩
noncomputable def mX(a b:Nat)(m:String)(t:Nat):Obj:=⟨.type "frame",ac,.plain,#[J (r a),J (r 3),J (r b),ac,J (s m t),ac,J (r 0)]⟩
noncomputable def hI(l:List hT)(n:Nat):Obj:=⟨.type "dict",ac,.dict ⟨l⟩ n,#[]⟩
noncomputable def HJ(a b:String)(t l n k:Nat)(f:Bool)(c:Nat)(x y z:aG)(u:Nat):Obj:=
 fs "code" [s a t,s b (t+1),s "/claim/cut.py" (t+2),i l,i n,i 0,i 0,i k,r c,.bool f,i 181,r (c+1),.none,x,y,z,i u,i l,s "/claim/cut.py" (u+1)]
noncomputable def co(a b:String)(t l n c k:Nat):Obj:=HJ a b t l n 3 ae c (r (c+2)) (r (c+3)) (r (c+4)) (t+3+k)
noncomputable def dy(a b:String)(t l n c k:Nat):Obj:=HJ a b t l n 3 ae c .none .none (r (c+2)) (t+3+k)
noncomputable def nz(a b:String)(t l c:Nat):Obj:=HJ a b t l 0 0 aA c .none .none .none (t+3)
noncomputable def cl(a:String)(b m:List aG)(n:Nat)(u:List aG)(v:Array (Option aG)):Obj:=
 ⟨.type "type",ac,.cls {name:=z a,bases:=b,mro:=m,ns:=n,qualname:=z a,hasDict:=ae,slotNames:=[],subclasses:=u,abstract:=aA,collection:=ac,hasDel:=aA},v⟩
noncomputable def fd(d:cD)(a b:String)(m:String×Nat)(t l n c:Nat)(s:List String)(i:Nat):Obj:=
 i.rec (l9 d a b) λi _=>i.rec (co a b t l n c s.length) λi _=>i.rec (dJ d a b m.1 m.2 (c+5)) λ_ _=>nt (t+3) s
noncomputable abbrev ar(o:Obj):BT:=.node o .nil .nil
noncomputable abbrev ou:Obj:=fs "builtin_function_or_method" [.builtin "type.__prepare__",.type "type"]
noncomputable def oS(a:Nat):Obj:=fs "super" [r a,r a,r a]
noncomputable def bs(a:Nat):Obj:=fs "builtin_function_or_method" [.builtin "object.__init_subclass__",r a]
noncomputable def tA(t a:Nat):Obj:=fs "getset_descriptor" [s "__weakref__" t,r a,.builtin "ExceptionGroup.__weakref__",.none]
noncomputable def va(t a:Nat):Obj:=fs "getset_descriptor" [s "__dict__" t,r a,.builtin "function.__dict__",.builtin "function.__dict__#set"]
noncomputable def c0(x:String)(c d t:Nat):Obj:=cl x [.type "object"] [r c,.type "object"] d [] #[ac,ac,J (s x t),J (s x (t+8)),J (.builtin "object.__new__"),J (.bool ae)]
noncomputable def dv(x:String)(c d b t:Nat):Obj:=cl x [r 39] [r c,r 39,.type "ValueError",.type "Exception",.type "BaseException",.type "object"] d [] #[J (r b),ac,J (s x t),J (s x (t+8)),J (.builtin "ValueError.__new__"),J (.bool ae)]
noncomputable def tu(l x:List hT):List hT:=l.take 1++(l.drop 2++x)
noncomputable def m(P:cB)(x:String)(t a:Nat):hT:=e P x t (r a)
noncomputable def dw(P:cB)(x:String)(t:Nat)(k:Int):hT:=e P x (t+1) (.int k t)
noncomputable def fc(P:cB)(l:List String):Nat->List hT->List hT:=l.rec (λ_ y=>y) λx _ k t y=>e P x t (.builtin x)::k (t+1) y
noncomputable def rX(P:cB)(l:List String):Nat->List hT->List hT:=l.rec (λ_ y=>y) λx _ k t y=>e P x t (.type x)::k (t+1) y
noncomputable def Vj:String×Nat:=("__main__",164)
noncomputable def Vk:String×Nat:=("pipeboard.errors",194)
noncomputable def fL:String×Nat:=("pipeboard.inodes",297)
noncomputable def hR:String×Nat:=("pipeboard.blocks",811)
noncomputable def o6:String×Nat:=("pipeboard.devices",1090)
noncomputable def n5:String×Nat:=("pipeboard.journal",1216)
noncomputable def Cd:String×Nat:=("law_nz0227_01",1366)
noncomputable def xS:=fd (bf 0) "_wall" "_wall" Vj 187 1 1 15 ["k"]
noncomputable def EQ:=fd (aL 6 0) "__init__" "Crash.__init__" Vk 284 18 2 86 ["self","writes"]
noncomputable def xH:=fd (bf 16) "half_at" "half_at" fL 315 30 2 98 ["octets","at"]
noncomputable def xI:=fd (bf 17) "word_at" "word_at" fL 323 32 2 105 ["octets","at"]
noncomputable def xJ:=fd (bf 18) "put_half" "put_half" fL 331 34 3 112 ["octets","at","value"]
noncomputable def xK:=fd (bf 19) "put_word" "put_word" fL 340 37 3 119 ["octets","at","value"]
noncomputable def xL:=fd (bf 20) "rounded_up" "rounded_up" fL 349 40 2 126 ["count","size"]
noncomputable def xM:=fd (aL 21 1) "most_blocks" "Super.most_blocks" fL 381 66 1 148 ["self"]
noncomputable def xN:=fd (aL 21 2) "most_size" "Super.most_size" fL 388 69 1 155 ["self"]
noncomputable def xO:=fd (aL 21 3) "words" "Super.words" fL 395 72 1 162 ["self","data"]
noncomputable def xP:=fd (aL 21 4) "octets" "Super.octets" fL 403 76 1 169 ["self","found","at","value"]
noncomputable def xQ:=fd (aL 21 5) "row_of" "Super.row_of" fL 413 82 2 176 ["self","number"]
noncomputable def xR:=fd (aL 21 6) "bit_of" "Super.bit_of" fL 421 85 2 183 ["self","number","octet"]
noncomputable def xT:=fd (aL 22 0) "__init__" "Node.__init__" fL 462 90 3 204 ["self","nodes","number"]
noncomputable def Em:=fd (aL 22 1) "is_directory" "Node.is_directory" fL 471 101 1 211 ["self"]
noncomputable def q0:=fd (aL 22 3) "put_row" "Node.put_row" fL 484 112 3 223 ["self","octets","at","place","number"]
noncomputable def En:=fd (aL 22 4) "stat" "Node.stat" fL 495 121 1 230 ["self"]
noncomputable def Eo:=fd (aL 22 5) "read" "Node.read" fL 502 124 3 237 ["self","offset","count"]
noncomputable def xU:=fd (aL 22 6) "write" "Node.write" fL 511 127 3 244 ["self","offset","octets"]
noncomputable def xV:=fd (aL 22 7) "truncate" "Node.truncate" fL 520 130 1 251 ["self"]
noncomputable def xW:=fd (aL 22 8) "update" "Node.update" fL 527 133 1 258 ["self"]
noncomputable def xX:=fd (aL 22 9) "hold" "Node.hold" fL 534 136 1 265 ["self"]
noncomputable def Ep:=fd (aL 22 10) "put" "Node.put" fL 541 140 1 272 ["self"]
noncomputable def xY:=fd (aL 23 0) "__init__" "Nodes.__init__" fL 577 144 3 293 ["self","journal","super_block"]
noncomputable def xZ:=fd (aL 23 1) "need_number" "Nodes.need_number" fL 586 150 2 300 ["self","number"]
noncomputable def Er:=fd (aL 23 2) "kind_at" "Nodes.kind_at" fL 594 154 2 307 ["self","number"]
noncomputable def x0:=fd (aL 23 3) "get" "Nodes.get" fL 602 157 2 314 ["self","number","block","at","node","buffer"]
noncomputable def x1:=fd (aL 23 5) "update" "Nodes.update" fL 626 174 2 329 ["self","node","block","at","buffer"]
noncomputable def Es:=fd (aL 23 6) "share" "Nodes.share" fL 637 181 2 336 ["self","node"]
noncomputable def Et:=fd (aL 23 7) "put" "Nodes.put" fL 645 184 2 343 ["self","node"]
noncomputable def Eu:=fd (aL 23 8) "reclaim" "Nodes.reclaim" fL 653 187 1 350 ["self"]
noncomputable def x2:=fd (aL 23 9) "take_block" "Nodes.take_block" fL 660 190 1 357 ["self","number","place","buffer","taken","at","bit"]
noncomputable def x3:=fd (aL 23 10) "free_bit" "Nodes.free_bit" fL 673 207 4 364 ["self","data","place","number","block","at","bit"]
noncomputable def x4:=fd (aL 23 11) "clear_block" "Nodes.clear_block" fL 686 215 2 371 ["self","number","buffer"]
noncomputable def x5:=fd (aL 23 12) "give_block" "Nodes.give_block" fL 695 221 2 378 ["self","number","place","at","bit","buffer","was_taken"]
noncomputable def Ev:=fd (aL 23 13) "free_blocks" "Nodes.free_blocks" fL 708 234 1 385 ["self"]
noncomputable def x6:=fd (aL 23 14) "block_of" "Nodes.block_of" fL 715 237 4 392 ["self","node","index","make","direct"]
noncomputable def Ew:=fd (aL 23 15) "named_block" "Nodes.named_block" fL 726 251 4 399 ["self","names","index","make","buffer","found"]
noncomputable def Ex:=fd (aL 23 16) "read" "Nodes.read" fL 738 263 4 406 ["self","node","offset","count","end","found","start","part","number","buffer"]
noncomputable def x7:=fd (aL 23 17) "write" "Nodes.write" fL 754 281 4 413 ["self","node","offset","octets","done","part"]
noncomputable def x8:=fd (aL 23 18) "write_part" "Nodes.write_part" fL 766 297 5 420 ["self","node","offset","octets","done","number","start","part","buffer"]
noncomputable def x9:=fd (aL 23 19) "truncate" "Nodes.truncate" fL 781 310 2 427 ["self","node","direct","index","names","number"]
noncomputable def ya:=fd (aL 25 0) "__init__" "Buffer.__init__" hR 825 332 3 453 ["self","number","octets"]
noncomputable def yb:=fd (aL 25 1) "is_free" "Buffer.is_free" hR 834 338 1 460 ["self"]
noncomputable def yc:=fd (aL 25 2) "octets" "Buffer.octets" hR 841 341 1 467 ["self"]
noncomputable def Ey:=fd (aL 25 3) "need_part" "Buffer.need_part" hR 848 344 3 474 ["self","place","count"]
noncomputable def Ez:=fd (aL 25 4) "take" "Buffer.take" hR 857 348 3 481 ["self","place","count"]
noncomputable def EA:=fd (aL 25 5) "put" "Buffer.put" hR 866 352 3 488 ["self","place","octets"]
noncomputable def yd:=fd (aL 25 6) "fill" "Buffer.fill" hR 875 355 2 495 ["self","octets"]
noncomputable def ye:=fd (aL 25 7) "clear" "Buffer.clear" hR 883 360 1 502 ["self"]
noncomputable def EC:=fd (aL 25 8) "little" "Buffer.little" hR 890 363 3 509 ["self","place","count"]
noncomputable def ED:=fd (aL 25 9) "put_little" "Buffer.put_little" hR 899 366 4 516 ["self","place","count","value"]
noncomputable def EE:=fd (aL 25 10) "bit" "Buffer.bit" hR 909 369 2 523 ["self","place"]
noncomputable def EF:=fd (aL 25 11) "put_bit" "Buffer.put_bit" hR 917 373 3 530 ["self","place","value"]
noncomputable def yf:=fd (aL 26 0) "__init__" "Cache.__init__" hR 950 377 3 551 ["self","disk","most"]
noncomputable def yg:=fd (aL 26 1) "need_block" "Cache.need_block" hR 959 389 2 558 ["self","number"]
noncomputable def yh:=fd (aL 26 2) "need_held" "Cache.need_held" hR 967 393 2 565 ["self","buffer"]
noncomputable def yi:=fd (aL 26 3) "get" "Cache.get" hR 975 397 2 572 ["self","number","found"]
noncomputable def yj:=fd (aL 26 4) "make_room" "Cache.make_room" hR 984 411 1 579 ["self","place","buffer"]
noncomputable def yk:=fd (aL 26 5) "release" "Cache.release" hR 993 421 2 586 ["self","buffer"]
noncomputable def yl:=fd (aL 26 6) "pin" "Cache.pin" hR 1001 428 2 593 ["self","buffer"]
noncomputable def ym:=fd (aL 26 7) "unpin" "Cache.unpin" hR 1009 432 2 600 ["self","number","found"]
noncomputable def yn:=fd (aL 26 8) "write" "Cache.write" hR 1018 438 2 607 ["self","buffer"]
noncomputable def yo:=fd (aL 26 9) "flush" "Cache.flush" hR 1026 443 1 614 ["self"]
noncomputable def yp:=fd (aL 26 10) "peek" "Cache.peek" hR 1033 446 2 621 ["self","number","buffer","octets"]
noncomputable def yq:=fd (aL 26 11) "poke" "Cache.poke" hR 1043 452 3 628 ["self","number","octets","buffer"]
noncomputable def EG:=fd (aL 26 12) "known" "Cache.known" hR 1053 458 1 635 ["self"]
noncomputable def EH:=fd (aL 26 13) "free_count" "Cache.free_count" hR 1060 461 1 642 ["self"]
noncomputable def EI:=fd (aL 26 14) "forget" "Cache.forget" hR 1067 464 1 649 ["self"]
noncomputable def yr:=fd (aL 28 0) "__init__" "Disk.__init__" o6 1104 469 3 670 ["self","blocks","size"]
noncomputable def ys:=fd (aL 28 1) "need_power" "Disk.need_power" o6 1113 483 1 677 ["self"]
noncomputable def yt:=fd (aL 28 2) "need_block" "Disk.need_block" o6 1120 487 2 684 ["self","number"]
noncomputable def yu:=fd (aL 28 3) "read" "Disk.read" o6 1128 491 2 691 ["self","number"]
noncomputable def yv:=fd (aL 28 4) "write" "Disk.write" o6 1136 496 3 698 ["self","number","octets"]
noncomputable def EJ:=fd (aL 28 5) "fail" "Disk.fail" o6 1145 507 1 705 ["self"]
noncomputable def yw:=fd (aL 28 6) "flush" "Disk.flush" o6 1152 511 1 712 ["self","number","octets"]
noncomputable def EK:=fd (aL 28 7) "stop_after" "Disk.stop_after" o6 1161 520 2 719 ["self","count"]
noncomputable def EL:=fd (aL 28 8) "stop_at_flush" "Disk.stop_at_flush" o6 1169 525 2 726 ["self","count"]
noncomputable def EM:=fd (aL 28 9) "after" "Disk.after" o6 1177 530 2 733 ["self","chosen"]
noncomputable def EN:=fd (aL 28 10) "copy" "Disk.copy" o6 1185 533 1 740 ["self"]
noncomputable def yx:=fd (aL 34 1) "is_own" "Journal.is_own" n5 1253 569 2 779 ["self","number"]
noncomputable def yy:=fd (aL 34 2) "has_room" "Journal.has_room" n5 1261 572 1 786 ["self"]
noncomputable def yz:=fd (aL 34 3) "left" "Journal.left" n5 1268 575 1 793 ["self"]
noncomputable def yA:=fd (aL 34 4) "begin" "Journal.begin" n5 1275 578 1 800 ["self"]
noncomputable def yB:=fd (aL 34 5) "write" "Journal.write" n5 1282 583 2 807 ["self","buffer"]
noncomputable def yC:=fd (aL 34 6) "end" "Journal.end" n5 1290 597 1 814 ["self"]
noncomputable def yD:=fd (aL 34 7) "commit" "Journal.commit" n5 1297 604 1 821 ["self","number"]
noncomputable def yE:=fd (aL 34 8) "fill_log" "Journal.fill_log" n5 1305 615 1 828 ["self","place","number"]
noncomputable def yF:=fd (aL 34 9) "write_head" "Journal.write_head" n5 1314 620 2 835 ["self","numbers"]
noncomputable def yG:=fd (aL 34 10) "install" "Journal.install" n5 1322 624 3 842 ["self","numbers","from_log","place","number","octets"]
noncomputable def EO:=fd (aL 34 11) "pending" "Journal.pending" n5 1334 630 1 849 ["self"]
noncomputable def EP:=fd (aL 34 12) "recover" "Journal.recover" n5 1341 633 1 856 ["self"]
noncomputable def yH:=fd (bf 37) "_law_row" "_law_row" Cd 1374 638 4 875 ["image","number","places","size","row","place","block","at"]
noncomputable def yI:=fd (bf 40) "_law_put" "_law_put" Cd 1400 658 5 892 ["image","file","offset","octets","touched","done","index","at","block","part"]
noncomputable def yJ:=fd (bf 42) "_law_deed" "_law_deed" Cd 1422 684 2 904 ["rows","n","node","rest"]
noncomputable def yK:=fd (bf 43) "_law_has_room" "_law_has_room" Cd 1432 689 1 911 ["journal"]
noncomputable def AS(P:cB):List hT:=[e P "__module__" 203 (s "pipeboard.errors" 194),e P "__qualname__" 205 (s "BoardError" 204),dw P "__firstlineno__" 206 5,m P "__init__" 216 36,m P "__static_attributes__" 218 37]
noncomputable def Ra(P:cB):List hT:=[e P "__module__" 364 (s "pipeboard.inodes" 297),e P "__qualname__" 366 (s "Super" 365),dw P "__firstlineno__" 367 42,m P "__init__" 380 147,m P "most_blocks" 387 154,m P "most_size" 394 161,m P "words" 402 168,m P "octets" 412 175,m P "row_of" 420 182,m P "bit_of" 429 189,m P "__static_attributes__" 442 190]
noncomputable def Rd(P:cB):List hT:=[e P "__module__" 457 (s "pipeboard.inodes" 297),e P "__qualname__" 459 (s "Node" 458),dw P "__firstlineno__" 460 88,m P "__init__" 470 210,m P "is_directory" 477 217,m P "take_row" 483 222,m P "put_row" 494 229,m P "stat" 501 236,m P "read" 510 243,m P "write" 519 250,m P "truncate" 526 257,m P "update" 533 264,m P "hold" 540 271,m P "put" 547 278,m P "__static_attributes__" 557 279]
noncomputable def Re(P:cB):List hT:=[e P "__module__" 572 (s "pipeboard.inodes" 297),e P "__qualname__" 574 (s "Nodes" 573),dw P "__firstlineno__" 575 142,m P "__init__" 585 299,m P "need_number" 593 306,m P "kind_at" 601 313,m P "get" 613 320,m P "allocate" 625 328,m P "update" 636 335,m P "share" 644 342,m P "put" 652 349,m P "reclaim" 659 356,m P "take_block" 672 363,m P "free_bit" 685 370,m P "clear_block" 694 377,m P "give_block" 707 384,m P "free_blocks" 714 391,m P "block_of" 725 398,m P "named_block" 737 405,m P "read" 753 412,m P "write" 765 419,m P "write_part" 780 426,m P "truncate" 792 433,m P "names_in" 798 438,m P "__static_attributes__" 803 439]
noncomputable def Rf(P:cB):List hT:=[e P "__module__" 820 (s "pipeboard.blocks" 811),e P "__qualname__" 822 (s "Buffer" 821),dw P "__firstlineno__" 823 330,m P "__init__" 833 459,m P "is_free" 840 466,m P "octets" 847 473,m P "need_part" 856 480,m P "take" 865 487,m P "put" 874 494,m P "fill" 882 501,m P "clear" 889 508,m P "little" 898 515,m P "put_little" 908 522,m P "bit" 916 529,m P "put_bit" 925 536,m P "__static_attributes__" 930 537]
noncomputable def Rg(P:cB):List hT:=[e P "__module__" 945 (s "pipeboard.blocks" 811),e P "__qualname__" 947 (s "Cache" 946),dw P "__firstlineno__" 948 375,m P "__init__" 958 557,m P "need_block" 966 564,m P "need_held" 974 571,m P "get" 983 578,m P "make_room" 992 585,m P "release" 1000 592,m P "pin" 1008 599,m P "unpin" 1017 606,m P "write" 1025 613,m P "flush" 1032 620,m P "peek" 1042 627,m P "poke" 1052 634,m P "known" 1059 641,m P "free_count" 1066 648,m P "forget" 1073 655,m P "__static_attributes__" 1082 656]
noncomputable def Ri(P:cB):List hT:=[e P "__module__" 1099 (s "pipeboard.devices" 1090),e P "__qualname__" 1101 (s "Disk" 1100),dw P "__firstlineno__" 1102 467,m P "__init__" 1112 676,m P "need_power" 1119 683,m P "need_block" 1127 690,m P "read" 1135 697,m P "write" 1144 704,m P "fail" 1151 711,m P "flush" 1160 718,m P "stop_after" 1168 725,m P "stop_at_flush" 1176 732,m P "after" 1184 739,m P "copy" 1191 746,m P "image" 1197 751,m P "__static_attributes__" 1208 752]
noncomputable def Rj(P:cB):List hT:=[e P "__module__" 1237 (s "pipeboard.journal" 1216),e P "__qualname__" 1239 (s "Journal" 1238),dw P "__firstlineno__" 1240 549,m P "__init__" 1252 778,m P "is_own" 1260 785,m P "has_room" 1267 792,m P "left" 1274 799,m P "begin" 1281 806,m P "write" 1289 813,m P "end" 1296 820,m P "commit" 1304 827,m P "fill_log" 1313 834,m P "write_head" 1321 841,m P "install" 1333 848,m P "pending" 1340 855,m P "recover" 1347 862,m P "__static_attributes__" 1358 863]
noncomputable def vy(P:cB):Obj:=hI (e P "__name__" 1 (s "builtins" 160)::e P "__doc__" 2 (.builtin "builtins.__doc__:str#opaque")::e P "__package__" 3 (.builtin "builtins.__package__:str#opaque")::e P "__loader__" 4 (.builtin "builtins.__loader__:shared#opaque")::e P "__spec__" 5 (.builtin "builtins.__spec__#opaque")::(fc P ["__build_class__","__import__","abs","all","any","ascii","bin","breakpoint","callable","chr","compile","delattr","dir","divmod","eval","exec","format","getattr","globals","hasattr","hash","hex","id","input","isinstance","issubclass","iter","aiter","len","locals","max","min","next","anext","oct","ord","pow","print","repr","round","setattr","sorted","sum","vars"] 6 (e P "None" 50 .none::e P "Ellipsis" 51 .ellipsis::e P "NotImplemented" 52 .notImplemented::e P "False" 53 (.bool aA)::e P "True" 54 (.bool ae)::(rX P ["bool","memoryview","bytearray","bytes","classmethod","complex","dict","enumerate","filter","float","frozenset","property","int","list","map","object","range","reversed","set","slice","staticmethod","str","super","tuple","type","zip"] 55 (e P "__debug__" 81 (.bool ae)::(rX P ["BaseException","BaseExceptionGroup","Exception","GeneratorExit","KeyboardInterrupt","SystemExit","ArithmeticError","AssertionError","AttributeError","BufferError","EOFError","ImportError","LookupError","MemoryError","NameError","OSError","ReferenceError","RuntimeError","StopAsyncIteration","StopIteration","SyntaxError","SystemError","TypeError","ValueError","Warning","FloatingPointError","OverflowError","ZeroDivisionError","BytesWarning","DeprecationWarning","EncodingWarning","FutureWarning","ImportWarning","PendingDeprecationWarning","ResourceWarning","RuntimeWarning","SyntaxWarning","UnicodeWarning","UserWarning","BlockingIOError","ChildProcessError","ConnectionError","FileExistsError","FileNotFoundError","InterruptedError","IsADirectoryError","NotADirectoryError","PermissionError","ProcessLookupError","TimeoutError","IndentationError","_IncompleteInputError","IndexError","KeyError","ModuleNotFoundError","NotImplementedError","PythonFinalizationError","RecursionError","UnboundLocalError","UnicodeError","BrokenPipeError","ConnectionAbortedError","ConnectionRefusedError","ConnectionResetError","TabError","UnicodeDecodeError","UnicodeEncodeError","UnicodeTranslateError","ExceptionGroup"] 82 [e P "EnvironmentError" 151 (.type "OSError"),e P "IOError" 152 (.type "OSError"),e P "open" 153 (.builtin "open"),e P "quit" 154 (.builtin "builtins.quit#opaque"),e P "exit" 155 (.builtin "builtins.exit#opaque"),e P "copyright" 156 (.builtin "builtins.copyright#opaque"),e P "credits" 157 (.builtin "builtins.credits#opaque"),e P "license" 158 (.builtin "builtins.license#opaque"),e P "help" 159 (.builtin "builtins.help#opaque")])))))) 159
noncomputable def dx(P:cB):Obj:=hI [m P "builtins" 162 4,m P "__main__" 163 5] 2
noncomputable def el:Obj:=⟨.none,ac,(.dict #[] 0),#[]⟩
noncomputable def aiH(P:cB):Obj:=hI [] 0
noncomputable def aiB(P:cB):Obj:=hI (AS P) 5
noncomputable def JV:Obj:=nt 208 [""]
noncomputable def R5:Obj:=co "__init__" "BoardError.__init__" 209 7 2 30 2
noncomputable def JW:Obj:=⟨(.type "function"),ac,(fn (aL 2 0) "__init__" "BoardError.__init__" 3 (r 29) (s "pipeboard.errors" 194) (r 35) 0),#[]⟩
noncomputable def R6(P:cB):Obj:=hI (tu (AS P) [m P "__weakref__" 220 40,e P "__doc__" 221 .none]) 3
noncomputable def aiE(P:cB):Obj:=hI [e P "__module__" 231 (s "pipeboard.errors" 194),e P "__qualname__" 233 (s "BadArgument" 232),dw P "__firstlineno__" 234 10,m P "__static_attributes__" 236 50] 4
noncomputable def R9(P:cB):Obj:=hI [e P "__module__" 231 (s "pipeboard.errors" 194),dw P "__firstlineno__" 234 10,m P "__static_attributes__" 236 50,e P "__doc__" 237 .none] 2
noncomputable def Sa:Obj:=dv "BadArgument" 52 51 43 224
noncomputable def aiG(P:cB):Obj:=hI [e P "__module__" 247 (s "pipeboard.errors" 194),e P "__qualname__" 249 (s "BadDisk" 248),dw P "__firstlineno__" 250 12,m P "__static_attributes__" 252 62] 4
noncomputable def Sb(P:cB):Obj:=hI [e P "__module__" 247 (s "pipeboard.errors" 194),dw P "__firstlineno__" 250 12,m P "__static_attributes__" 252 62,e P "__doc__" 253 .none] 2
noncomputable def Sc:Obj:=dv "BadDisk" 64 63 55 240
noncomputable def aiJ(P:cB):Obj:=hI [e P "__module__" 263 (s "pipeboard.errors" 194),e P "__qualname__" 265 (s "NoRoom" 264),dw P "__firstlineno__" 266 14,m P "__static_attributes__" 268 74] 4
noncomputable def Sf(P:cB):Obj:=hI [e P "__module__" 263 (s "pipeboard.errors" 194),dw P "__firstlineno__" 266 14,m P "__static_attributes__" 268 74,e P "__doc__" 269 .none] 2
noncomputable def Si:Obj:=dv "NoRoom" 76 75 67 256
noncomputable def aiL(P:cB):Obj:=hI [e P "__module__" 279 (s "pipeboard.errors" 194),e P "__qualname__" 281 (s "Crash" 280),dw P "__firstlineno__" 282 16,m P "__init__" 291 92,m P "__static_attributes__" 293 93] 5
noncomputable def aiM(P:cB):Obj:=hI [e P "__module__" 279 (s "pipeboard.errors" 194),dw P "__firstlineno__" 282 16,m P "__init__" 291 92,m P "__static_attributes__" 293 93,e P "__doc__" 294 .none] 2
noncomputable def aiz(P:cB):Obj:=hI (Ra P) 11
noncomputable def JS:Obj:=sj [(.int 12 305)]
noncomputable def RZ:Obj:=co "__init__" "Super.__init__" 369 44 6 141 6
noncomputable def JT:Obj:=⟨(.type "function"),ac,(fn (aL 21 0) "__init__" "Super.__init__" 3 (r 140) (s "pipeboard.inodes" 297) (r 146) 0),#[]⟩
noncomputable def R0(P:cB):Obj:=hI (tu (Ra P) [m P "__dict__" 444 193,m P "__weakref__" 446 194,e P "__doc__" 447 .none]) 4
noncomputable def R1:Obj:=c0 "Super" 192 191 357
noncomputable def aiA(P:cB):Obj:=hI (Rd P) 15
noncomputable def R2:Obj:=dy "take_row" "Node.take_row" 478 104 4 218 0
noncomputable def JU:Obj:=dJ (aL 22 2) "take_row" "Node.take_row" "pipeboard.inodes" 297 221
noncomputable def R3(P:cB):Obj:=hI (tu (Rd P) [m P "__dict__" 559 282,m P "__weakref__" 561 283,e P "__doc__" 562 .none]) 4
noncomputable def R4:Obj:=c0 "Node" 281 280 450
noncomputable def aiC(P:cB):Obj:=hI (Re P) 25
noncomputable def R7(P:cB):Obj:=hI (tu (Re P) [m P "__dict__" 805 442,m P "__weakref__" 807 443,e P "__doc__" 808 .none]) 4
noncomputable def R8:Obj:=c0 "Nodes" 441 440 565
noncomputable def aiD(P:cB):Obj:=hI (Rf P) 16
noncomputable def xq(P:cB):Obj:=hI (tu (Rf P) [m P "__dict__" 932 540,m P "__weakref__" 934 541,e P "__doc__" 935 .none]) 4
noncomputable def JX:Obj:=c0 "Buffer" 539 538 813
noncomputable def aiF(P:cB):Obj:=hI (Rg P) 19
noncomputable def Sd(P:cB):Obj:=hI (tu (Rg P) [m P "__dict__" 1084 659,m P "__weakref__" 1086 660,e P "__doc__" 1087 .none]) 4
noncomputable def Se:Obj:=c0 "Cache" 658 657 938
noncomputable def aiI(P:cB):Obj:=hI (Ri P) 16
noncomputable def Sg(P:cB):Obj:=hI (tu (Ri P) [m P "__dict__" 1210 755,m P "__weakref__" 1212 756,e P "__doc__" 1213 .none]) 4
noncomputable def Sh:Obj:=c0 "Disk" 754 753 1092
noncomputable def Sj:Obj:=dy "packed_head" "packed_head" 1224 542 2 759 0
noncomputable def JY:Obj:=dJ (bf 33) "packed_head" "packed_head" "pipeboard.journal" 1216 762
noncomputable def aiK(P:cB):Obj:=hI (Rj P) 17
noncomputable def JZ:Obj:=sj [.none]
noncomputable def Sk:Obj:=co "__init__" "Journal.__init__" 1242 551 5 772 5
noncomputable def J0:Obj:=⟨(.type "function"),ac,(fn (aL 34 0) "__init__" "Journal.__init__" 3 (r 771) (s "pipeboard.journal" 1216) (r 777) 0),#[]⟩
noncomputable def Sl(P:cB):Obj:=hI (tu (Rj P) [m P "__dict__" 1360 866,m P "__weakref__" 1362 867,e P "__doc__" 1363 .none]) 4
noncomputable def Sm:Obj:=c0 "Journal" 865 864 1230
noncomputable def Sn:Obj:=dy "_law_octets" "_law_octets" 1368 636 2 870 0
noncomputable def J1:Obj:=dJ (bf 36) "_law_octets" "_law_octets" "law_nz0227_01" 1366 873
noncomputable def So:Obj:=dy "_law_image" "_law_image" 1388 645 1 882 0
noncomputable def J2:Obj:=dJ (bf 38) "_law_image" "_law_image" "law_nz0227_01" 1366 885
noncomputable def Sp:Obj:=dy "_law_taken" "_law_taken" 1394 652 2 887 0
noncomputable def J3:Obj:=dJ (bf 39) "_law_taken" "_law_taken" "law_nz0227_01" 1366 890
noncomputable def Sq:Obj:=dy "_law_due" "_law_due" 1416 671 4 899 0
noncomputable def J4:Obj:=dJ (bf 41) "_law_due" "_law_due" "law_nz0227_01" 1366 902
noncomputable def Sr:Obj:=dy "_law_group_right" "_law_group_right" 1439 695 6 918 0
noncomputable def J5:Obj:=dJ (bf 44) "_law_group_right" "_law_group_right" "law_nz0227_01" 1366 921
noncomputable def Ss:Obj:=dy "law" "law" 1445 711 1 923 0
noncomputable def J6:Obj:=dJ (bf 45) "law" "law" "law_nz0227_01" 1366 926
noncomputable def T(P:cB)(l1 dY q2:Obj):BT:=(n (vy P) (n (dx P) (n l1 (n a4 (n a4 (n bY (n (Sb P) (n bY (n (xV 0) (ar (EC 3)) (ar a4)) (n (x5 1) (ar (EG 0)) (ar a4))) (n (R0 P) (n (x0 1) (ar a4) (ar a4)) (n ou (ar (yv 1)) .nil))) (n (dv "Crash" 95 94 79 272) (n (xN 0) (n ou (ar (bs 539)) (ar (yz 2))) (n (x7 3) (ar bY) (ar J6))) (n a4 (n bY (ar a4) (ar (nt 1348 ["cache","calls","commits","each","most","noted","numbers","places","size","start"]))) (n (Ey 1) (ar (EM 3)) .nil)))) (n bY (n (sj [(r 39)]) (n (nt 372 ["self","block","blocks","inodes","log","direct"]) (n (xX 2) (ar (EE 0)) (ar (yx 0))) (n a4 (ar (EI 2)) (ar a4))) (n a4 (n (x1 2) (ar (yk 1)) (ar (yG 1))) (n a4 (ar a4) .nil))) (n (xI 2) (n (xP 2) (n a4 (ar bY) (ar bY)) (n (x9 0) (ar a4) .nil)) (n (Eo 3) (n a4 (ar (yp 3)) (ar (yH 0))) (n a4 (ar (dJ (aL 28 11) "image" "Disk.image" "pipeboard.devices" 1090 750)) .nil))))) (n ou (n q2 (n bY (n (aiz P) (n (xW 1) (ar a4) (ar a4)) (n (Ev 2) (ar (EH 1)) (ar J4))) (n (aiA P) (n (co "allocate" "Nodes.allocate" 616 171 4 322 4) (ar (yj 0)) (ar (yF 0))) (n (ya 3) (ar (EJ 2)) .nil))) (n (xH 1) (n (xO 1) (n (xY 3) (ar a4) (ar a4)) (n a4 (ar (ys 3)) .nil)) (n bY (n (x2 3) (ar bY) (ar bY)) (n (Ez 2) (ar a4) .nil)))) (n (sj [(r 39)]) (n bY (n a4 (n (nt 548 ["holders","kind","links","major","minor","nodes","number","places","size"]) (ar (EF 1)) (ar (yy 1))) (n bY (ar a4) (ar bY))) (n (Em 0) (n a4 (ar (yl 2)) (ar (EO 2))) (n (yc 0) (ar bY) .nil))) (n a4 (n a4 (n (Er 0) (ar (yh 3)) (ar (yD 3))) (n (nt 799 ["cache","journal","super","table"]) (ar (yu 0)) .nil)) (n a4 (n (x4 0) (ar a4) (ar a4)) (n bY (ar a4) .nil)))))) (n a4 (n (xS 0) (n R5 (n (sj [(r 39)]) (n (xL 1) (n bY (ar (EC 2)) (ar JZ)) (n (Ev 3) (ar bY) (ar a4))) (n (oS 192) (n bY (ar a4) (ar a4)) (n (nz "Buffer" "Buffer" 815 330 449) (ar (EJ 3)) .nil))) (n bY (n bY (n (nz "Nodes" "Nodes" 567 142 289) (ar a4) (ar a4)) (n (x7 2) (ar (yr 1)) .nil)) (n (q0 0) (n (Eu 1) (ar (yn 0)) (ar (tA 1361 865))) (n (Ez 3) (ar (EM 2)) .nil)))) (n (R9 P) (n (lt 4 [(18,91)]) (n JT (n a4 (ar bY) (ar bY)) (n (Ew 0) (ar (va 1083 658)) (ar (yK 0)))) (n a4 (n a4 (ar (yl 3)) (ar (EO 3))) (n a4 (ar (EK 0)) .nil))) (n a4 (n a4 (n a4 (ar (yg 1)) (ar (yC 1))) (n bY (ar a4) .nil)) (n (Eo 2) (n a4 (ar (yp 2)) (ar bY)) (n (yd 0) (ar (va 1209 754)) .nil))))) (n (nz "BoardError" "BoardError" 198 5 25) (n (sj [(r 39)]) (n (Sf P) (n (mX 138 135 "pipeboard.inodes" 297) (n (xX 3) (ar a4) (ar a4)) (n a4 (ar (EI 3)) (ar a4))) (n (mX 202 199 "pipeboard.inodes" 297) (n (x1 3) (ar bY) (ar bY)) (n (ya 2) (ar a4) .nil))) (n (xI 3) (n (xP 3) (n (xY 2) (ar (yf 0)) (ar (yB 0))) (n a4 (ar (ys 2)) .nil)) (n (En 1) (n (x2 2) (ar (yo 1)) (ar a4)) (n a4 (ar a4) .nil)))) (n bY (n (EQ 1) (n a4 (n (tA 560 281) (ar JX) (ar (yz 3))) (n (Ex 1) (ar (lt 4 [(469,675),(483,682),(487,689),(491,696),(496,703),(507,710),(511,717),(520,724),(525,731),(530,738),(533,745),(536,750)])) (ar a4))) (n bY (n (Et 0) (ar a4) (ar a4)) (n bY (ar (EL 1)) .nil))) (n (xK 0) (n (xR 0) (n bY (ar (yh 2)) (ar (yD 2))) (n (tA 806 441) (ar bY) .nil)) (n a4 (n bY (ar a4) (ar J3)) (n (ye 1) (ar JY) .nil))))))) (n ⟨(.type "module"),J 3,.plain,#[]⟩ (n ⟨(.type "code"),ac,(.fields #[(s "<module>" 176),(s "<module>" 177),(s "/claim/cut.py" 178),(i 1),(i 0),(i 0),(i 0),(i 0),(r 7),(.bool aA),(i 175),(r 8),.none,.none,.none,.none,(i 179),(i 1),(s "/claim/cut.py" 180)]),#[]⟩ (n (xS 3) (n a4 (n (oS 64) (n a4 (n (xV 2) (ar (EC 0)) (ar (nz "Journal" "Journal" 1232 549 767))) (n a4 (ar (EG 2)) (ar (yI 1)))) (n (va 443 192) (n (sj [(.int 0 614),(.int 0 615)]) (ar (yi 1)) (ar (yE 1))) (n a4 (ar a4) .nil))) (n (bs 95) (n (xN 2) (n a4 (ar ou) (ar bY)) (n (x7 0) (ar a4) .nil)) (n (q0 3) (n a4 (ar (yn 3)) (ar Sm)) (n a4 (ar (EM 0)) .nil)))) (n (mX 48 45 "pipeboard.errors" 194) (n (aiL P) (n (l9 (aL 21 0) "__init__" "Super.__init__") (n bY (ar (EE 2)) (ar (yx 2))) (n (Ew 3) (ar (Sd P)) (ar (yK 3)))) (n (xT 1) (n bY (ar a4) (ar a4)) (n (yb 1) (ar (EK 3)) .nil))) (n bY (n bY (n (xZ 1) (ar a4) (ar a4)) (n (x9 2) (ar (yt 1)) .nil)) (n (Eo 0) (n (x3 1) (ar (yp 0)) (ar (yH 2))) (n (yd 3) (ar (Sg P)) .nil))))) (n a4 (n (oS 39) (n (mX 72 69 "pipeboard.errors" 194) (n (lt 4 [(44,146),(66,153),(69,160),(72,167),(76,174),(82,181),(85,188)]) (n a4 (ar (ED 1)) (ar Sk)) (n bY (ar a4) (ar bY))) (n (lt 4 [(90,209),(101,216),(104,221),(112,228),(121,235),(124,242),(127,249),(130,256),(133,263),(136,270),(140,277)]) (n a4 (ar (yj 2)) (ar (yF 2))) (n (ya 0) (ar bY) .nil))) (n a4 (n a4 (n (xY 0) (ar (yf 3)) (ar (yB 3))) (n (x8 1) (ar (ys 0)) .nil)) (n a4 (n (x2 0) (ar a4) (ar Sn)) (n bY (ar (EN 1)) .nil)))) (n (aiG P) (n a4 (n (xM 1) (n R4 (ar (nt 926 ["data","holders","number","pins"])) (ar a4)) (n a4 (ar (aiI P)) (ar Sr))) (n (Em 2) (n (Et 3) (ar bY) (ar bY)) (n (yc 2) (ar a4) .nil))) (n (xK 3) (n (xR 3) (n (Er 2) (ar (yh 0)) (ar (yD 0))) (n R8 (ar (yu 2)) .nil)) (n (xU 1) (n (x4 2) (ar (yq 1)) (ar (l9 (bf 39) "_law_taken" "_law_taken"))) (n a4 (ar (l9 (bf 33) "packed_head" "packed_head")) .nil)))))) (n (nz "<module>" "<module>" 182 1 11) (n (xS 2) (n (nt 217 ["reason"]) (n (aiJ P) (n a4 (n a4 (ar bY) (ar bY)) (n (Ev 0) (ar a4) (ar (l9 (bf 41) "_law_due" "_law_due")))) (n a4 (n a4 (ar (yj 3)) (ar (yF 3))) (n a4 (ar (EJ 0)) .nil))) (n a4 (n a4 (n a4 (ar (nz "Cache" "Cache" 940 375 547)) (ar (yA 1))) (n bY (ar a4) .nil)) (n (q0 2) (n a4 (ar (yn 2)) (ar (bs 865))) (n (Ez 0) (ar bY) .nil)))) (n (oS 52) (n (mX 84 81 "pipeboard.errors" 194) (n bY (n (Ep 1) (ar a4) (ar a4)) (n (Ew 2) (ar (oS 658)) (ar (yK 2)))) (n (Em 3) (n (Es 1) (ar (yl 0)) (ar (EO 0))) (n (yc 3) (ar (EK 2)) .nil))) (n (xJ 1) (n (xQ 1) (n (Er 3) (ar a4) (ar a4)) (n (dy "names_in" "Nodes.names_in" 793 324 2 434 0) (ar (yu 3)) .nil)) (n bY (n (x4 3) (ar bY) (ar So)) (n (yd 2) (ar (oS 754)) .nil))))) (n JV (n (aiE P) (n (oS 76) (n a4 (n (xX 0) (ar (EE 3)) (ar (yx 3))) (n (x6 1) (ar (EI 0)) (ar (yJ 1)))) (n bY (n (x1 0) (ar a4) (ar a4)) (n bY (ar (yw 1)) .nil))) (n (xI 0) (n (xP 0) (n bY (ar (yf 2)) (ar (yB 2))) (n (x9 3) (ar bY) .nil)) (n a4 (n bY (ar a4) (ar (yH 3))) (n (EA 1) (ar (l9 (aL 28 11) "image" "Disk.image")) .nil)))) (n (mX 60 57 "pipeboard.errors" 194) (n (nt 292 ["writes"]) (n (xN 3) (n (bs 281) (ar (tA 933 539)) (ar (yz 0))) (n a4 (ar (mX 668 665 "pipeboard.devices" 1090)) (ar (l9 (bf 45) "law" "law")))) (n R2 (n (Et 2) (ar (ym 1)) (ar (EP 1))) (n a4 (ar a4) .nil))) (n (xK 2) (n (xR 2) (n a4 (ar bY) (ar bY)) (n (bs 441) (ar a4) .nil)) (n (xV 3) (n a4 (ar (EG 3)) (ar bY)) (n a4 (ar ou) .nil)))))))) (n el (n ⟨(.type "module"),J 0,.plain,#[]⟩ (n bY (n bY (n (nt 212 ["self","reason"]) (n Sc (n (xL 3) (n (xV 1) (ar a4) (ar (lt 4 [(551,777),(569,784),(572,791),(575,798),(578,805),(583,812),(597,819),(604,826),(615,833),(620,840),(624,847),(630,854),(633,861)]))) (n (x5 2) (ar (EG 1)) (ar (yI 0)))) (n R1 (n (x0 2) (ar (yi 0)) (ar (yE 0))) (n (aiD P) (ar (yv 2)) .nil))) (n (oS 95) (n (xN 1) (n (aiC P) (ar a4) (ar a4)) (n a4 (ar (yr 3)) .nil)) (n bY (n (Eu 3) (ar bY) (ar (Sl P))) (n (Ey 2) (ar a4) .nil)))) (n (nz "BadArgument" "BadArgument" 226 10 46) (n ou (n a4 (n a4 (ar (EE 1)) (ar (yx 1))) (n bY (ar (nt 1074 ["by_number","disk","hits","most","reads","row","size","writes"])) (ar bY))) (n (xT 0) (n a4 (ar (yk 2)) (ar (yG 2))) (n (yb 0) (ar bY) .nil))) (n a4 (n a4 (n (xZ 0) (ar (yg 3)) (ar (yC 3))) (n (x9 1) (ar (yt 0)) .nil)) (n a4 (n (x3 0) (ar a4) (ar (yH 1))) (n bY (ar (nt 1198 ["blocks","flushes","is_dead","kept","last","last_flush","latest","size","unflushed","writes"])) .nil))))) (n (aiB P) (n (tA 219 39) (n (nz "NoRoom" "NoRoom" 258 14 70) (n a4 (n (xW 2) (ar (ED 0)) (ar (l9 (aL 34 0) "__init__" "Journal.__init__"))) (n a4 (ar (EH 2)) (ar a4))) (n a4 (n ⟨(.type "function"),ac,(fn (aL 23 4) "allocate" "Nodes.allocate" 3 (r 321) (s "pipeboard.inodes" 297) (r 327) 0),#[]⟩ (ar (yj 1)) (ar (yF 1))) (n a4 (ar a4) .nil))) (n (xH 2) (n (xO 2) (n a4 (ar bY) (ar bY)) (n (x8 0) (ar a4) .nil)) (n (En 3) (n a4 (ar (yo 3)) (ar (l9 (bf 36) "_law_octets" "_law_octets"))) (n a4 (ar (EN 0)) .nil)))) (n ou (n (EQ 3) (n (xM 0) (n (R3 P) (ar (EF 2)) (ar (yy 2))) (n (Ex 3) (ar ou) (ar (l9 (bf 44) "_law_group_right" "_law_group_right")))) (n (Em 1) (n bY (ar a4) (ar a4)) (n (yc 1) (ar (EL 3)) .nil))) (n bY (n bY (n (Er 1) (ar a4) (ar a4)) (n (R7 P) (ar (yu 1)) .nil)) (n (xU 0) (n (x4 1) (ar (yq 0)) (ar bY)) (n (ye 3) (ar bY) .nil)))))) (n dY (n (xS 1) (n JW (n ou (n (xL 2) (n (xW 3) (ar a4) (ar a4)) (n a4 (ar (EH 3)) (ar bY))) (n (bs 192) (n (nt 619 ["self","kind","major","minor"]) (ar bY) (ar bY)) (n (mX 451 448 "pipeboard.blocks" 811) (ar a4) .nil))) (n (xH 3) (n (xO 3) (n (mX 291 288 "pipeboard.inodes" 297) (ar (lt 4 [(377,556),(389,563),(393,570),(397,577),(411,584),(421,591),(428,598),(432,605),(438,612),(443,619),(446,626),(452,633),(458,640),(461,647),(464,654)])) (ar (yA 0))) (n a4 (ar (yr 2)) .nil)) (n (q0 1) (n (Eu 2) (ar (yn 1)) (ar (oS 865))) (n a4 (ar a4) .nil)))) (n Sa (n (nz "Crash" "Crash" 274 16 82) (n a4 (n (Ep 0) (ar (EF 3)) (ar (yy 3))) (n (Ew 1) (ar (tA 1085 658)) (ar (yK 1)))) (n bY (n (Es 0) (ar a4) (ar a4)) (n bY (ar (EK 1)) .nil))) (n (xJ 0) (n (xQ 0) (n bY (ar (yg 2)) (ar (yC 2))) (n (l9 (aL 23 20) "names_in" "Nodes.names_in") (ar bY) .nil)) (n a4 (n bY (ar a4) (ar (l9 (bf 38) "_law_image" "_law_image"))) (n (yd 1) (ar (tA 1211 754)) .nil))))) (n (mX 27 24 "pipeboard.errors" 194) (n ou (n Si (n JS (n a4 (ar bY) (ar bY)) (n (x6 0) (ar a4) (ar (yJ 0)))) (n a4 (n a4 (ar (yk 3)) (ar (yG 3))) (n a4 (ar (yw 0)) .nil))) (n a4 (n a4 (n a4 (ar (yf 1)) (ar (yB 1))) (n bY (ar a4) .nil)) (n (En 2) (n a4 (ar (yo 2)) (ar bY)) (n (EA 0) (ar bY) .nil)))) (n (nz "BadDisk" "BadDisk" 242 12 58) (n (EQ 2) (n bY (n (oS 281) (ar (va 931 539)) (ar a4)) (n (Ex 2) (ar (nz "Disk" "Disk" 1094 467 666)) (ar bY))) (n (l9 (aL 22 2) "take_row" "Node.take_row") (n (Et 1) (ar (ym 0)) (ar (EP 0))) (n (Ey 3) (ar (EL 2)) .nil))) (n (xK 1) (n (xR 1) (n (x0 3) (ar a4) (ar a4)) (n (oS 441) (ar (yv 3)) .nil)) (n bY (n (x5 3) (ar bY) (ar a4)) (n (ye 2) (ar a4) .nil))))))) (n (aiH P) (n (mX 9 3 "__main__" 164) (n a4 (n (l9 (aL 2 0) "__init__" "BoardError.__init__") (n (bs 64) (n (xL 0) (n a4 (ar (EC 1)) (ar (mX 769 766 "pipeboard.journal" 1216))) (n bY (ar a4) (ar (yI 2)))) (n (tA 445 192) (n a4 (ar (yi 2)) (ar (yE 2))) (n (lt 4 [(332,458),(338,465),(341,472),(344,479),(348,486),(352,493),(355,500),(360,507),(363,514),(366,521),(369,528),(373,535)]) (ar bY) .nil))) (n a4 (n a4 (n (lt 4 [(144,298),(150,305),(154,312),(157,319),(171,327),(174,334),(181,341),(184,348),(187,355),(190,362),(207,369),(215,376),(221,383),(234,390),(237,397),(251,404),(263,411),(281,418),(297,425),(310,432),(324,437)]) (ar (aiF P)) (ar (yA 3))) (n (x7 1) (ar (yr 0)) .nil)) (n a4 (n (Eu 0) (ar a4) (ar (va 1359 865))) (n bY (ar (EM 1)) .nil)))) (n a4 (n a4 (n RZ (n (Ep 3) (ar a4) (ar a4)) (n a4 (ar Se) (ar a4))) (n (xT 2) (n (Es 3) (ar bY) (ar bY)) (n (yb 2) (ar a4) .nil))) (n (xJ 3) (n (xQ 3) (n (xZ 2) (ar (yg 0)) (ar (yC 0))) (n a4 (ar (yt 2)) .nil)) (n (Eo 1) (n (x3 2) (ar (yp 1)) (ar a4)) (n a4 (ar Sh) .nil))))) (n (lt 4 [(7,35)]) (n (bs 39) (n a4 (n (nz "Super" "Super" 359 42 136) (n bY (ar (ED 2)) (ar J0)) (n (x6 3) (ar bY) (ar (yJ 3)))) (n (nz "Node" "Node" 452 88 200) (n bY (ar a4) (ar a4)) (n (ya 1) (ar (yw 3)) .nil))) (n bY (n bY (n (xY 1) (ar a4) (ar a4)) (n (x8 2) (ar (ys 1)) .nil)) (n (En 0) (n (x2 1) (ar (yo 0)) (ar J1)) (n (EA 3) (ar (EN 2)) .nil)))) (n a4 (n (EQ 0) (n (xM 2) (n (va 558 281) (ar (xq P)) (ar bY)) (n (Ex 0) (ar a4) (ar J5))) (n a4 (n a4 (ar (ym 3)) (ar (EP 3))) (n a4 (ar (EL 0)) .nil))) (n a4 (n a4 (n a4 (ar (yh 1)) (ar (yD 1))) (n (va 804 441) (ar a4) .nil)) (n (xU 2) (n a4 (ar (yq 2)) (ar Sp)) (n (ye 0) (ar Sj) .nil)))))) (n (mX 13 3 "__main__" 164) (n (sj [(.type "ValueError")]) (n (R6 P) (n a4 (n ou (n (xW 0) (ar (ED 3)) (ar (nt 1245 ["self","cache","start","size","each"]))) (n (Ev 1) (ar (EH 0)) (ar Sq))) (n ou (n (l9 (aL 23 4) "allocate" "Nodes.allocate") (ar a4) (ar a4)) (n bY (ar (EJ 1)) .nil))) (n (xH 0) (n (xO 0) (n bY (ar (mX 549 546 "pipeboard.blocks" 811)) (ar (yA 2))) (n (x8 3) (ar bY) .nil)) (n a4 (n bY (ar a4) (ar a4)) (n (Ez 1) (ar (EN 3)) .nil)))) (n (bs 52) (n a4 (n (xM 3) (n (Ep 2) (ar (EF 0)) (ar (yy 0))) (n a4 (ar (bs 658)) (ar a4))) (n a4 (n (Es 2) (ar (yl 1)) (ar (EO 1))) (n a4 (ar a4) .nil))) (n (xJ 2) (n (xQ 2) (n a4 (ar bY) (ar bY)) (n (dJ (aL 23 20) "names_in" "Nodes.names_in" "pipeboard.inodes" 297 437) (ar a4) .nil)) (n (xU 3) (n a4 (ar (yq 3)) (ar J2)) (n a4 (ar (bs 754)) .nil))))) (n a4 (n a4 (n (bs 76) (n bY (n (xX 1) (ar a4) (ar a4)) (n (x6 2) (ar (EI 1)) (ar (yJ 2)))) (n (xT 3) (n (x1 1) (ar (yk 0)) (ar (yG 0))) (n (yb 3) (ar (yw 2)) .nil))) (n (xI 1) (n (xP 1) (n (xZ 3) (ar a4) (ar a4)) (n a4 (ar (yt 3)) .nil)) (n bY (n (x3 3) (ar bY) (ar a4)) (n (EA 2) (ar (dy "image" "Disk.image" 1192 536 1 747 0)) .nil)))) (n a4 (n (aiM P) (n a4 (n a4 (ar (oS 539)) (ar (yz 1))) (n bY (ar a4) (ar Ss))) (n JU (n a4 (ar (ym 2)) (ar (EP 2))) (n (Ey 0) (ar bY) .nil))) (n a4 (n (nt 430 ["bitmap_start","block","blocks","data_start","direct","indirect","inode_start","inodes","log","log_start","row","rows"]) (n (x0 0) (ar (yi 3)) (ar (yE 3))) (n a4 (ar (yv 0)) .nil)) (n a4 (n (x5 0) (ar a4) (ar (yI 3))) (n bY (ar (aiK P)) .nil)))))))))
noncomputable def mt(P:cB):List hT:=[e P "__doc__" 166 .none,e P "__package__" 167 .none,e P "__loader__" 168 (.builtin "__main__.__loader__#opaque"),e P "__spec__" 169 .none,m P "__annotations__" 170 6,m P "__builtins__" 171 4,e P "__file__" 173 (s "/claim/cut.py" 172),e P "__cached__" 174 .none,m P "_wall" 193 21,m P "BoardError" 223 39,m P "BadArgument" 239 52,m P "BadDisk" 255 64,m P "NoRoom" 271 76,m P "Crash" 296 95,dw P "MAGIC" 299 270544960,dw P "FREE" 301 0,dw P "FIRST_LOG" 303 2,dw P "DIRECT" 305 12,dw P "HEAD" 307 12,dw P "PIECE" 309 16,dw P "SUPER_WORDS" 311 9,dw P "MOST_A_PIECE" 313 4,m P "half_at" 322 104,m P "word_at" 330 111,m P "put_half" 339 118,m P "put_word" 348 125,m P "rounded_up" 356 132,m P "Super" 449 192,m P "Node" 564 281,m P "Nodes" 810 441,m P "Buffer" 937 539,m P "Cache" 1089 658,m P "Disk" 1215 754,dw P "NUMBER" 1218 4,dw P "MOST_EACH" 1220 10,dw P "SPARE" 1222 4,m P "packed_head" 1229 763,m P "Journal" 1365 865,m P "_law_octets" 1373 874,m P "_law_row" 1387 881,m P "_law_image" 1393 886,m P "_law_taken" 1399 891,m P "_law_put" 1415 898,m P "_law_due" 1421 903,m P "_law_deed" 1431 910,m P "_law_has_room" 1438 917,m P "_law_group_right" 1444 922,m P "law" 1450 927]
noncomputable def l1(P:cB)(x:String)(t n:Nat):Obj:=hI (e P "__name__" 165 (s x t)::(mt P).take n) (n+1)
noncomputable def dY(k:Nat):Obj:=⟨.none,ac,.fields ⟨RD 0 ([(1,20),(5,27),(10,48),(12,60),(14,72),(16,84),(30,103),(32,110),(34,117),(37,124),(40,131),(42,138),(88,202),(142,291),(330,451),(375,549),(467,668),(542,762),(549,769),(636,873),(638,880),(645,885),(652,890),(658,897),(671,902),(684,909),(689,916),(695,921),(711,926)].take k)⟩,#[]⟩
noncomputable def q2(k:Nat):Obj:=cl "BoardError" [(.type "ValueError")] [(r 39),(.type "ValueError"),(.type "Exception"),(.type "BaseException"),(.type "object")] 38 ([(r 52),(r 64),(r 76),(r 95)].take k) #[J (r 22),ac,J (s "BoardError" 196),J (s "BoardError" 204),J (.builtin "ValueError.__new__"),J (.bool ae)]
noncomputable def S(x:String)(t n j k z u:Nat)(w:eS)(os:gv):SharedT:=⟨T w.params (l1 w.params x t n) (dY j) (q2 k),z,{},#[],{},u,os⟩
noncomputable def wJ:=S "__main__" 164 8 0 4 15 187
noncomputable def eb:=S "pipeboard.errors" 194 10 2 0 43 224
noncomputable def ol:=S "pipeboard.errors" 194 13 5 3 79 272
noncomputable def N5:=S "pipeboard.inodes" 297 27 11 4 133 357
noncomputable def N6:=S "pipeboard.inodes" 297 28 12 4 197 450
noncomputable def N7:=S "pipeboard.inodes" 297 29 13 4 286 565
noncomputable def N8:=S "pipeboard.inodes" 297 30 14 4 446 811
noncomputable def N9:=S "pipeboard.blocks" 811 31 15 4 544 938
noncomputable def Oa:=S "pipeboard.blocks" 811 32 16 4 663 1090
noncomputable def Ob:=S "pipeboard.journal" 1216 37 18 4 764 1230
noncomputable def Oc:=S "pipeboard.journal" 1216 38 19 4 870 1366
noncomputable def wK:=S "law_nz0227_01" 1366 48 29 4 928 1451
noncomputable def TS(P:cB):Obj:=l1 P "law_nz0227_01" 1366 48
noncomputable def ap5:Obj:=dY 29
noncomputable def TR:Obj:=q2 4
noncomputable def body:List cD:=behindTheImports prog
noncomputable def Z:Env:= {scope:=prog.main.scope,locals:=mainNs,globals:=mainNs,cells:=[],code:=(r 13),frame:=J 14}
noncomputable def i5:lH:=.body body Z
noncomputable abbrev fr:Frame:=topFrame ⟨0,0,0,0⟩
theorem pK{w:eS}{JR:Nat}{GW:Option aG}{n N:Nat}{s aS r:cs}{pos gZ q:Pos}(a k b:Nat)(hb:b=a+k)(h:segRun qm prog w JR GW 1 n s (piecesOf ((body.drop a).take k) Z i5 pos [topFrame q])=J (.next,aS,i5,gZ))
  (fO:topRun qm prog w JR GW N aS (restOf (body.drop b) Z i5 gZ [topFrame q])=J r):topRun qm prog w JR GW (N+n) s (restOf (body.drop a) Z i5 pos [topFrame q])=J r:=by
 have e:body.drop a=(body.drop a).take k++body.drop b:=by rw [hb,<-List.drop_drop,List.take_append_drop]
 rw [e,zv];exact piece_app h fO
theorem ai9{ay bF:Type}{x:Option (ay×bF)}{a:ay}{b:bF}(ai:x.map (·.1)=J a)(ak:x.map (·.2)=J b):x=J (a,b):=by
 refine bT (ry.mp ai) λy e e1=>e.trans ?_
 refine congrArg J (Prod.ext e1 (ci ?_));rw [<-ak,e];rfl
theorem ajh:∀(w:eS) (os:gv),topGo qm prog w 11 (J (.ref 6)) 12 ⟨s2 w.params,#[],boot_drawn,boot_toks,os⟩ (topStub prog)=J ((wJ w os).abs,⟨denote qm i5,i5,⟨0,0,0,0⟩,[fr]⟩):=λw os=>by
 refine ai9 ?_ ?_
 ·rw [PySem.W.Fast.te15667345088766844465,PySem.W.Fast.te14364793385576792824];kernel_rfl!
 ·rw [PySem.W.Fast.te15667345088766844465,PySem.W.Fast.te14364793385576792824,PySem.W.Fast.te11892475500146522536];kernel_rfl!
theorem Z1:∀(w:eS) (os:gv),segRun qm prog w 11 (J (.ref 6)) 1 1 (wJ w os).abs (blockOf body Z i5 ⟨0,0,0,0⟩ [fr])=J (.next,(wJ w os).abs,i5,⟨0,0,0,0⟩):=λw os=>by rw [PySem.W.Fast.te14374325043358763698,PySem.W.Fast.te14364793385576792824];kernel_rfl!
abbrev oc(k a j:Nat)(s t:eS->gv->SharedT)(p q:Pos):Prop:=∀(w:eS) (os:gv),segRunT qm prog w 11 (J (.ref 6)) 1 k (s w os) (piecesOf ((body.drop a).take j) Z i5 p [fr])=J (.next,t w os,i5,q)
theorem px{k a j:Nat}{s t:eS->gv->SharedT}{p q:Pos}(h:∀w os,Fast.tw10110043849684766642 Fast.tw14364793385576792824 prog w 11 (J (.ref 6)) 1 k (s w os) ⟨Sem.wrap doneF deadEnd id id (Fast.tw12563942051412417395 ((body.drop a).take j) Z),i5,p,[fr]⟩=J (.next,t w os,i5,q)):oc k a j s t p q:=λw os=>by rw [PySem.W.Fast.te10110043849684766642,PySem.W.Fast.te14364793385576792824,PySem.W.piecesOf,PySem.W.Fast.te12563942051412417395];exact h w os
theorem u8:oc 259 0 3 wJ eb ⟨0,0,0,0⟩ ⟨5,0,9,28⟩:=px λw os=>by kernel_rfl!
theorem hx:oc 640 3 3 eb ol ⟨5,0,9,28⟩ ⟨14,0,15,8⟩:=px λw os=>by kernel_rfl!
theorem At:oc 479 6 15 ol N5 ⟨14,0,15,8⟩ ⟨40,0,41,37⟩:=px λw os=>by kernel_rfl!
theorem ad6:oc 436 21 1 N5 N6 ⟨40,0,41,37⟩ ⟨42,0,87,95⟩:=px λw os=>by kernel_rfl!
theorem ad7:oc 547 22 1 N6 N7 ⟨42,0,87,95⟩ ⟨88,0,141,16⟩:=px λw os=>by kernel_rfl!
theorem ad8:oc 919 23 1 N7 N8 ⟨88,0,141,16⟩ ⟨142,0,328,52⟩:=px λw os=>by kernel_rfl!
theorem ad9:oc 592 24 2 N8 N9 ⟨142,0,328,52⟩ ⟨330,0,374,17⟩:=px λw os=>by kernel_rfl!
theorem aea:oc 682 26 1 N9 Oa ⟨330,0,374,17⟩ ⟨375,0,465,17⟩:=px λw os=>by kernel_rfl!
theorem aeb:oc 651 27 7 Oa Ob ⟨375,0,465,17⟩ ⟨542,0,548,50⟩:=px λw os=>by kernel_rfl!
theorem aec:oc 619 34 1 Ob Oc ⟨542,0,548,50⟩ ⟨549,0,634,17⟩:=px λw os=>by kernel_rfl!
theorem aed:oc 301 35 11 Oc wK ⟨549,0,634,17⟩ ⟨711,0,723,125⟩:=px λw os=>by kernel_rfl!
theorem cp:∀(w:eS) (os:gv),topRun qm prog w 11 (J (.ref 6)) 2 (wK w os).abs ⟨doneF .next,i5,⟨711,0,723,125⟩,[fr]⟩=J (wK w os).abs:=λw os=>by rw [PySem.W.Fast.te14082659384304107361,PySem.W.Fast.te14364793385576792824];kernel_rfl!
theorem anH:∀(w:eS) (os:gv),topRun qm prog w 11 (J (.ref 6)) (12+(1+(((((((((((2+301)+619)+651)+682)+592)+919)+547)+436)+479)+640)+259))) ⟨s2 w.params,#[],boot_drawn,boot_toks,os⟩ (topStub prog)=J (wK w os).abs:=λw os=>by
 have k:topRun qm prog w 11 (J (.ref 6)) 2 (wK w os).abs (restOf (body.drop 46) Z i5 ⟨711,0,723,125⟩ [fr])=J (wK w os).abs:=cp w os;have k:=pK 35 11 46 rfl (qi (aed w os)) k;have k:=pK 34 1 35 rfl (qi (aec w os)) k;have k:=pK 27 7 34 rfl (qi (aeb w os)) k;have k:=pK 26 1 27 rfl (qi (aea w os)) k;have k:=pK 24 2 26 rfl (qi (ad9 w os)) k;have k:=pK 23 1 24 rfl (qi (ad8 w os)) k;have k:=pK 22 1 23 rfl (qi (ad7 w os)) k;have k:=pK 21 1 22 rfl (qi (ad6 w os)) k;have k:=pK 6 15 21 rfl (qi (At w os)) k;have k:=pK 3 3 6 rfl (qi (hx w os)) k;have k:=pK 0 3 3 rfl (qi (u8 w os)) k;exact go_top (ajh w os) (piece_block (Z1 w os) k)
end Mine.Internal
end
noncomputable section
open PySem PySem.W PyProof.Rows
namespace Mine.Internal
noncomputable def q:uG:= {prog with main:= {prog.main with body:=[bw prog.main.body 45]}}
noncomputable def DW:List Str:=prog.boundNames.filter λn=>n !=("law":Str)
def bI(P:cB):bq:=absHeap (T P (TS P) ap5 TR) 928 {}
def De:List (Nat×(Nat->Obj)):=[(103,xH),(110,xI),(117,xJ),(124,xK),(131,xL),(153,xM),(160,xN),(167,xO),(174,xP),(181,xQ),(188,xR),(209,xT),(228,q0),(249,xU),(256,xV),(263,xW),(270,xX),(298,xY),(305,xZ),(319,x0),(334,x1),(362,x2),(369,x3),(376,x4),(383,x5),(397,x6),(418,x7),(425,x8),(432,x9),(458,ya),(465,yb),(472,yc),(500,yd),(507,ye),(556,yf),(563,yg),(570,yh),(577,yi),(584,yj),(591,yk),(598,yl),(605,ym),(612,yn),(619,yo),(626,yp),(633,yq),(675,yr),(682,ys),(689,yt),(696,yu),(703,yv),(717,yw),(784,yx),(791,yy),(798,yz),(805,yA),(812,yB),(819,yC),(826,yD),(833,yE),(840,yF),(847,yG),(880,yH),(897,yI),(909,yJ),(916,yK)]
def dk(P:cB):Frag:=[(3,TS P),(658,Se),(657,Sd P),(539,JX),(538,xq P),(754,Sh),(753,Sg P),(865,Sm),(864,Sl P),(441,R8),(440,R7 P),(281,R4),(280,R3 P),(192,R1),(191,R0 P),(76,Si),(75,Sf P),(39,TR),(38,R6 P),(52,Sa),(51,R9 P),(64,Sc),(63,Sb P),(36,JW),(147,JT),(222,JU),(763,JY),(778,J0),(874,J1),(886,J2),(891,J3),(903,J4),(922,J5),(927,J6),(35,R5),(146,RZ),(221,R2),(762,Sj),(777,Sk),(873,Sn),(885,So),(890,Sp),(902,Sq),(921,Sr),(926,Ss),(29,JV),(140,JS),(771,JZ),(2,el)]++(De.map λx=>(x.1+1,x.2 2))++De.map λx=>(x.1,x.2 1)
def Jn:List a1:=[3,658,657,539,538,754,753,865,864,441,440,281,280,192,191,76,75,39,38,52,51,64,63,36,147,222,763,778,874,886,891,903,922,927,35,146,221,762,777,873,885,890,902,921,926,29,140,771,2]++(De.map λx=>x.1+1)++De.map λx=>x.1
theorem bM:∀w:eS,(fencedOpening qm prog w 12400).map (λs=>(s.heap,s.gens,s.drawn,s.toks))=J (s2 w.params,Array.mk [],boot_drawn,boot_toks):=
 boot_open (by kernel_rfl!) (by kernel_rfl!) (λs=>by kernel_rfl!)
theorem sz:∀w:eS,((s2 w.params).isNs k8&&(Array.mk []:Array GenState).size==0,(s2 w.params).objs.size,(s2 w.params).nsMap k8 "__annotations__")=(ae,11,J (lK 6)):=λw=>by kernel_rfl!
theorem ahl:∀(w:eS),staticsOk (importedModules prog.main.body) (s2 w.params) (bI w.params)=ae:=λw=>by kernel_rfl!
theorem ahm:∀(w:eS),namesBound prog (bI w.params)=ae:=λw=>by kernel_rfl!
theorem ahn:∀(w:eS),laidKept (s2 w.params) (bI w.params)=ae:=λw=>by kernel_rfl!
theorem aho:∀(w:eS) (os:gv),openSeen q DW (importedModules prog.main.body) (λ_=>ae) ae ⟨bI w.params,#[],{},1451,os⟩=openGood q DW:=λw os=>by rw [PySem.W.Fast.te4187177175401517315];kernel_rfl!
theorem ahp:∀(w:eS),Jn.map (bI w.params).get?=(dk w.params).map (λp=>J p.2):=λw=>by kernel_rfl!
def WS(s:cs):List (Option Obj):=Jn.map s.heap.get?
def WR(w:eS):List (Option Obj):=(dk w.params).map λp=>J p.2
theorem vv:LeftO prog q DW (λ_=>ae) WS WR 12400 ae:=
 LeftO.of_pieces (H₀:=s2) (H₁:=bI) (gs₁:= #[]) (d₁:= {}) (k₁:=1451) bM sz (λw os=>anH w os) (by kernel_rfl!) (λw=>funext λos=>by
  refine Prod.ext ?_ (Prod.ext (aho w os) (ahp w));show(_&&_&&_&&_)=ae
  rw [ahl w,ahm w,ahn w];rfl)
end Mine.Internal
end
noncomputable section
set_option tactic.hygienic true
open PySem PySem.W PyProof.Rows PySem.Calls
namespace Mine.Internal
section
variable {w:eS}
noncomputable abbrev l6:Ctx:=⟨.builtin "claim.caller" {},ac,ac,[],ac⟩
noncomputable abbrev K1:OpenRow:=PySem.Challenge.rw_nz0227_01.row
abbrev qW:RowW:=K1.toRowW
theorem QE{aa:Prop}(h:∀P:Prop,(aa->P)->P):aa:=h aa id
theorem ac0{p:uG}{t:Sem Fin}{s:cs}{R:Result->cs->Prop}(afg:s.asleep)
  (h:gN (di p w) l6 t (λcp _ aS=>∃v,cp=.done (.ret v)/\R (.ok (.ret v)) aS/\NO aS.gens=aA) (λ_ _ _=>False) jQ s):
  ∃n r aS K4,runN (denote nu) p w n s ⟨t,.builtin "claim.caller" {},jQ,[]⟩=.halted (outcomeOf r) aS/\
   schedN (denote nu) p w n (.single s ⟨t,.builtin "claim.caller" {},jQ,[]⟩)=.halted (outcomeOf r) aS/\aS.forget=K4.forget/\R r K4:=by
 have av:gN (di p w) l6 t (Sem.finPost (di p w) l6 λr aS=>R r aS/\NO aS.gens=aA) (λe _ aS=>R (.error e) aS/\NO aS.gens=aA) jQ s:=by
  refine lJ (di p w) l6 t (λcp gZ aS cI=>?_) (λ_ _ _ x=>x.elim) jQ s h
  obtain⟨v,rfl,a,b⟩:=cI;exact⟨a,b⟩
 obtain⟨n,r,en,Lg,hs,hn,IM,tC⟩:=wp_halts_full (M:=di p w) (R:=R) afg av;exact⟨n,r,Lg,en,hn,hs,IM,tC⟩
structure l7(w:eS)(h:bq):Prop where
 k:(dk w.params).In h
 b:∃xj,h.Ns s5 xj/\∀x:Str,x≠"__name__"->xj x=zC x
 lim:h.NoLimit
 dig:∃DX,h.Ns cStatics DX/\DX "sys.int_max_str_digits"=ac
theorem l7.keeps{h av:bq}(B:l7 w h)(k:∀b o,h.get? b=J o->av.get? b=J o):l7 w av:=
 ⟨B.k.keeps k,let⟨xj,ai,ak⟩:=B.b;⟨xj,ai.keeps k,ak⟩,B.lim.keeps k,let⟨DX,ai,ak⟩:=B.dig;⟨DX,ai.keeps k,ak⟩⟩
def Ov:Prop:=∀(w:eS) (en:cs),l7 w en.heap->en.gens= #[]->
 ∀(a:a1) (vs:List aG) (ns:List Int),en.heap.IsList a vs.toArray->IntsAre vs ns->ns.length<=63->
  gN (di prog w) l6 (PySem.call (.ref 927) [.ref a]) (λv _ aS=>v=.bool ae/\(∀b o,en.heap.get? b=J o->aS.heap.get? b=J o)/\aS.os=en.os/\aS.gens= #[]) (λ_ _ _=>False) jQ en
theorem acZ{s en:cs}{df:List WData}{vs:List aG}{as:List a1}{tree:Sem Fin}(a2:Laid [] w s en df vs as)(hz:s.asleep)
  (h:gN (di prog w) l6 tree (λcp _ aS=>cp=.done (.ret (.bool ae))/\(∀b o,en.heap.get? b=J o->aS.heap.get? b=J o)/\aS.os=en.os/\aS.gens= #[]) (λ_ _ _=>False) jQ en)
  (afe:qW.claim.post df (.bool ae) df=ae):
  ∃n r aS,schedN (denote nu) prog w n (.single en ⟨tree,.builtin "claim.caller" {},jQ,[]⟩)=.halted (outcomeOf r) aS/\aS.heap.life=s.heap.life/\
   qW.claim.Ends s df vs en r aS/\aS.os=s.os:=by
 have w6:en.heap.life=s.heap.life:=by obtain⟨ord,_,e⟩:=a2.laid;exact(layAllW_rest _ _ _ e).2.2.2
 obtain⟨n,r,aS,K4,afh,I0,IM,tC⟩:=ac0 (p:=prog) (w:=w) (t:=tree) (s:=en) (R:=λr aS=>qW.claim.Ends s df vs en r aS/\aS.os=s.os) (Shared.asleep_of_life w6 hz)
  (lJ (di prog w) l6 tree (λcp gZ aS cI=>by
   obtain⟨rfl,hk,vk,qE⟩:=cI;have aa:GoodW qW.claim (classAt s.heap) (ExcName.means s.heap) df en (.ok (.ret (.bool ae))) aS:=⟨.inl ⟨.bool ae,.bool ae,[],rfl,λ_=>rfl,.bool ae,afe,λ_=>⟨.nil,λ_ h=>nomatch h⟩⟩,hk,vk,qE⟩
   have z:=aa.toG.laid (c:=qW.claim) (w:=w) rfl rfl (λ_ _=>ident_freeW (r:=qW) rfl rfl rfl _ _) a2
   exact⟨_,rfl,⟨z.1,z.2.1⟩,leftWithCleanup_false_of_bare z.2.2⟩) (λ_ _ _ x=>x.elim) jQ en h)
 obtain⟨H3,_,_,bX,_⟩:=Shared.forget_eq IM;exact⟨n,r,aS,I0,(runN_life _ _ _ afh).trans w6,tC.1.congr H3,bX.trans tC.2⟩
def agE:DefRec:= {name:=oh "law",params:=fF (bf 45),body:=aW (bf 45),scope:=dO (bf 45),pos:=⟨711,0,723,125⟩}
theorem agJ{df:List WData}:qW.claim.post df (.bool ae) df=ae:=
 postW_of (r:=qW) rfl (w_eq_bool (w_res rfl) w_lit) rfl
theorem afb(j7:Ov):PySem.Challenge.rw_nz0227_01.Holds:=by
 w_on
 refine holds_law (by kernel_rfl) λan8=>?_
 have SN:qW.promised:=⟨[.list []],by decide+kernel,by decide+kernel⟩
 refine⟨an8,SN,?_⟩;have Qx:chainsOk q=ae:=by decide+kernel
 have aiX:opensWell prog=ae:=by kernel_rfl!
 refine⟨⟨⟨rfl,rfl,rfl,rfl,rfl,by decide+kernel⟩,aiX,rfl⟩,SN.witness,λw=>⟨(vv.behind (XP:=λ_ _=>True) (λ_ _=>trivial) Qx w).1,λaS hj=>?_⟩⟩
 refine QE λfj k1=>?_
 obtain⟨s₀,aq,aeX,s,gm,hz,Dv,bj,wf,y⟩:=(vv.behind (XP:=λ_ _=>True) (λ_ _=>trivial) Qx w).2 aS hj
 have Dv:s.gens= #[]:=Array.eq_empty_of_size_eq_zero (beq_iff_eq.mp Dv);have SI:isTheDefsW prog s.heap "law":=by
  refine pinned_of_view (q:=q) bj wf (d:=agE) (kwd:=[]) (by kernel_rfl!) (by kernel_rfl!) (by kernel_rfl!)
 refine k1 ?_;clear k1 fj;refine⟨s₀,aq,aeX,s,gm,λn hn=>?_,λx aO=>(nomatch aO),λx aO=>(nomatch aO),?_⟩
 ·obtain rfl:n=("law":Str):=by
   have e:(if K1.pinned then [K1.name] else [])=[("law":Str)]:=rfl
   rw [e] at hn;exact jk.mp hn
  exact SI
 intro df QO QG ord QN;refine QE λfj k1=>?_
 obtain⟨⟨vs,en⟩,vj⟩:=sV.mp (layAllW_isSome (P:=w.params) (ord:=ord) (R:=[]) (cl:=classAt s.heap) wf.has df qW.args s (pre_splitW QO).1);have keeps:=layAllW_keeps _ _ _ vj;have w6:=layAllW_rest _ _ _ vj;obtain⟨as,IY,QF,QM⟩:=reads_layAllW QN _ _ _ vj QG en.heap (λ_ _ e=>e)
 have a2:Laid [] w s en df vs as:=⟨⟨ord,QN,vj⟩,IY,QF,QM,keeps,w6.1.trans Dv,w6.2.2.1⟩;have BX:Ground q DW [] (λ_ _=>True) w s (s.heap.nsMap k8) (s.heap.nsMap s5) en.heap:=wf.keeps (λ_ _ _ _ _=>trivial) keeps
 have FU:(dk w.params).In s.heap:=Frag.in_of (as:=Jn) rfl y;have j6:∀a∈as,(a==CE)=aA:=a2.low wf.low;have afr:WellAll w.params en.heap vs df:=a2.well;have T:Top q _ _ _ _ en.heap:=BX.T;have aff:=IY;have key:∃(a:a1) (DJ:List aG) (ns:List Int),vs=[.ref a]/\en.heap.IsList a DJ.toArray/\IntsAre DJ ns/\ns.length<=63:=by
  clear aff T FU BX a2 QM QF w6 keeps vj k1 j7 SI wf bj y;wrow_args QO QG IY afr j6
  exact⟨_,_,_,rfl,by assumption,by assumption,by omega⟩
 obtain⟨a,DJ,ns,I4,ai,ak,aZ⟩:=key;rw [I4] at vj;replace a2:Laid [] w s en df [.ref a] as:=I4▸a2
 clear I4;have aq:s.heap.nsMap k8 "law"=J (.ref 927):=mg_of FU wf.T.g (by kernel_rfl!)
 have e7:=BX.T;have W:=j7 w en ⟨FU.keeps keeps,⟨_,e7.b,e7.builtins⟩,e7.nolimit,e7.nodigits⟩ a2.gens a DJ ns ai ak aZ;obtain⟨n,r,Lg,I0,ae5,tB,vk⟩:=acZ (tree:=do match <-nsGet mainNs "law" with
   |J f=>do ret (<-PySem.call f [.ref a])
   |ac=>unsupported "claim.caller:no-such-global") a2 hz (by
   show gN _ _ ((nsGet k8 ("law":Str))>>=_) _ _ _ _
   rw [wB];have :=Sem.wp_nsGet (di prog w) l6 (λ_ _ _=>False) jQ en BX.T.g ("law":Str)
   rw [this,aq];show gN _ _ (_>>=_) _ _ _ _
   rw [wB];refine lJ _ _ _ (λv gZ aS cI=>?_) (λ_ _ _ x=>x) _ _ W
   obtain⟨rfl,a,b,c⟩:=cI;exact⟨rfl,a,b,c⟩) agJ
 refine k1 ⟨_,en,vj,n,_,Lg,I0,?_,?_,(λq=>nomatch (show aA=ae from q)),congrArg Life.seen ae5,Shared.rest_eq vk⟩
 ·rcases tB with⟨v,rfl,bf,aL,wW,Aa,Ab⟩|⟨e,m6,cls,rfl,bf,aL,wW,Aa,Ab⟩
  ·exact .inl ⟨v,rfl,bf,aL,wW,λb o y _=>Aa b o y,Ab⟩
  ·exact .inr ⟨e,m6,cls,rfl,bf,aL,wW,Aa,λb o y _=>Ab b o y⟩
 ·intro _ i x aO;rw [Dv] at aO;simp at aO
end
end Mine.Internal
end
noncomputable section
open PySem PySem.W PyProof.Rows PySem.Calls
namespace Mine.Internal
section
variable {aa c:Prop}{Q:aG->bq->Prop}{n:Nat}{vs:List aG}
theorem br{ay:Type _}{x:ay}(e:(ac:Option ay)=J x):aa:=nomatch e
theorem b8(e:aA=ae):aa:=nomatch e
theorem dR[Decidable c]{ay:Type}{x:Option ay}{v:ay}(e:(if c then x else ac)=J v)(k:c->x=J v->aa):aa:=by
 by_cases h:c
 ·rw [aY h] at e;exact k h e
 ·rw [a8 h] at e;exact br e
noncomputable def qv:List String:=["bytearray.__contains__","bytearray.__mod__","bytearray.__rmod__","_struct.pack_into.held","bytearray.find.held"]++ND
noncomputable def qP:lH->Bool
 | .builtin id _=> !qv.contains id
 |_=>ae
inductive N4(n:Nat)(ah:Ctx):Prop
 |mk (A:k4) (i:ah.In A) (h:A.handled=ac) (d:A.depth+2*n<990) (u:A.units+40*n<9800):N4 n ah
structure bz(a9:List a1)(n:Nat)(ah:Ctx):Prop where
 room:N4 n ah
 here:qP ah.code=ae
 below:∀x∈ah.below,qP x.1=ae
 fr:∀Z∈ah.code.envs++pf ah.below,Z.scope.kind≠.module/\∃b∈a9,Z.frame=J b
variable {a9:List a1}
theorem bz.mono{m:Nat}{ah:Ctx}(h:bz a9 n ah)(bc:m<=n):bz a9 m ah:=by
 obtain⟨⟨A,a,q,b,c⟩,d,e,aB⟩:=h;exact⟨⟨A,a,q,XC bc b,eI (rv (Gb 40 bc) _) c⟩,d,e,aB⟩
theorem aim{c:lH}{P:Env->Prop}(aq:c.isFrame=aA):∀Z∈c.envs,P Z:=λZ aO=>by
 unfold Code.envs at aO;rw [aq] at aO;rcases aO
theorem bz.enterF{ah:Ctx}(h:bz a9 (n+1) ah)(c c':lH)(p:Pos)(aD:qP c'=ae)(j7:c'.weight<=2)(bU:c'.cUnits<=40)(bl:∀Z∈c'.envs,Z.scope.kind≠.module/\∃b∈a9,Z.frame=J b):bz a9 n ((ah.enter c ac p).goto c'):=by
 obtain⟨⟨A,a,q,b,k⟩,d,e,aB⟩:=h;refine⟨⟨(A.mark ac).under c',((a.enter c ac p (by intro x;exact br x)).goto c').in,?_,?_,?_⟩,aD,λx aO=>?_,λZ aO=>?_⟩
 ·exact q
 ·show A.depth+c'.weight+2*n<990;exact Xl j7 b
 ·show A.units+c'.cUnits+40*n<9800;exact Xk bU k
 ·rcases fw.mp aO with rfl|aO
  ·exact d
  ·exact e x aO
 ·rcases md.mp aO with aO|aO
  ·exact bl Z aO
  ·exact aB Z (by(rw [<-envsOf_cons]);exact aO)
theorem bz.enter{ah:Ctx}(h:bz a9 (n+1) ah)(c c':lH)(p:Pos)(aD:qP c'=ae)(j7:c'.weight<=2)(bU:c'.cUnits<=40)(aq:c'.isFrame=aA:=by rfl):bz a9 n ((ah.enter c ac p).goto c'):=
 h.enterF c c' p aD j7 bU (aim aq)
def af(w:eS)(bp:gv)(ah:Ctx){ay:Type}(t:Sem ay)(Q:ay->bq->Prop)(h:bq):Prop:=
 ∀s p,s.heap=h->s.gens= #[]->s.os=bp->gN (di prog w) ah t (λa _ aS=>Q a aS.heap/\aS.gens= #[]/\aS.os=bp) (λ_ _ _=>False) p s
section
variable {w:eS}{bp:gv}{ah:Ctx}{ay bF:Type}{h:bq}
theorem af.mono{t:Sem ay}{Q oj:ay->bq->Prop}(x:af w bp ah t Q h)(k:∀a av,Q a av->oj a av):af w bp ah t oj h:=λs p e1 e2 aP=>
 lJ _ _ _ (λa _ aS y=>⟨k _ _ y.1,y.2⟩) (λ_ _ _ y=>y) _ _ (x s p e1 e2 aP)
theorem af.pure{a:ay}{Q:ay->bq->Prop}(k:Q a h):af w bp ah (bK a:Sem ay) Q h:=λs p e1 e2 aP=>⟨e1▸k,e2,aP⟩
theorem af.bind{m:Sem ay}{f:ay->Sem bF}{Q:bF->bq->Prop}(x:af w bp ah m (λa av=>af w bp ah (f a) Q av) h):af w bp ah (m>>=f) Q h:=λs p e1 e2 aP=>by
 exact G (wB ..) (lJ _ _ _ (λa gZ aS y=>y.1 aS gZ rfl y.2.1 y.2.2) (λ_ _ _ y=>y) _ _ (x s p e1 e2 aP))
theorem af.bv{m:Sem ay}{f:ay->Sem bF}{Q:bF->bq->Prop}{a:ay}{av:bq}(d:∀P:ay->bq->Prop,P a av->af w bp ah m P h)(k:af w bp ah (f a) Q av):af w bp ah (m>>=f) Q h:=af.bind (d _ k)
theorem af.ifn[Decidable c]{a b:Sem ay}{Q:ay->bq->Prop}(n:¬c)(k:af w bp ah b Q h):af w bp ah (if c then a else b) Q h:=G (a8 n) k
theorem af.ifp[Decidable c]{a b:Sem ay}{Q:ay->bq->Prop}(n:c)(k:af w bp ah a Q h):af w bp ah (if c then a else b) Q h:=G (aY n) k
section
variable {M:qg}{A:k4}{E:aG->cs->Prop}{s aS:cs}
theorem bN{m:Sem ay}{f:ay->Sem bF}{Q:bF->cs->Prop}{a:ay}(d:∀P:ay->cs->Prop,P a aS->cN M A m P E s)(k:cN M A (f a) Q E aS):cN M A (m>>=f) Q E s:=b4 (d _ k)
theorem jt[Decidable c]{a b:Sem ay}{Q:ay->cs->Prop}(n:¬c)(k:cN M A b Q E s):cN M A (if c then a else b) Q E s:=G (a8 n) k
theorem yM[Decidable c]{a b:Sem ay}{Q:ay->cs->Prop}(n:c)(k:cN M A a Q E s):cN M A (if c then a else b) Q E s:=G (aY n) k
end
theorem af.holding{m:Sem ay}{Q:ay->bq->Prop}(x:af w bp ah m Q h):af w bp ah (PySem.holding vs m) Q h:=λs p e1 e2 aP=>by
 exact G (Sem.wp_holding ..) (x s p e1 e2 aP)
theorem af.standAt{pos:Pos}{Q:Unit->bq->Prop}(k:Q () h):af w bp ah (PySem.standAt pos) Q h:=λs p e1 e2 aP=>⟨e1▸k,e2,aP⟩
theorem af.point{Q:Unit->bq->Prop}(k:Q () h):af w bp ah PySem.point Q h:=λs p e1 e2 aP=>⟨e1▸k,e2,aP⟩
theorem af.rule{Li:String}{Q:Unit->bq->Prop}(k:Q () h):af w bp ah (PySem.rule Li) Q h:=λs p e1 e2 aP=>⟨e1▸k,e2,aP⟩
theorem af.keep{m:Sem ay}{Q:ay->bq->Prop}(x:af w bp ah m Q h):af w bp ah (m.keep vs) Q h:=λs p e1 e2 aP=>by
 exact G (Sem.wp_keep ..) (x s p e1 e2 aP)
theorem af.operate{m:Sem aG}(x:af w bp ah m Q h):af w bp ah (PySem.operate vs m) Q h:=λs p e1 e2 aP=>by
 exact G (Sem.wp_operate ..) (x s p e1 e2 aP)
theorem af.onRaise{m:Sem ay}{k:aG->Sem Unit}{Q:ay->bq->Prop}(x:af w bp ah m Q h):af w bp ah (m.onRaise k) Q h:=λs p e1 e2 aP=>by
 exact G (Sem.wp_onRaise ..) (lJ _ _ _ (λ_ _ _ y=>y) (λ_ _ _ y=>y.elim) _ _ (x s p e1 e2 aP))
theorem af.attempt{m:Sem ay}{Q:Except aG ay->bq->Prop}(x:af w bp ah m (λa=>Q (.ok a)) h):af w bp ah m.attempt Q h:=λs p e1 e2 aP=>by
 exact G (Sem.wp_attempt ..) (lJ _ _ _ (λ_ _ _ y=>y) (λ_ _ _ y=>y.elim) _ _ (x s p e1 e2 aP))
theorem af.release{ff:List aG}{Q:Unit->bq->Prop}(k:Q () h):af w bp ah (PySem.release vs ff) Q h:=λs p e1 e2 aP=>by
 exact G (Sem.wp_release ..) (⟨e1▸k,e2,aP⟩)
theorem af.ask{Q:Setting->bq->Prop}(k:Q ⟨prog,w.params⟩ h):af w bp ah PySem.ask Q h:=λs p e1 e2 aP=>⟨e1▸k,e2,aP⟩
theorem af.mkInt{i:Int}(k:∀t,Q (.int i t) h):af w bp ah (PySem.mkInt i) Q h:=λs p e1 e2 aP=>⟨e1▸k _,e2,aP⟩
theorem af.mkText{x:Str}(k:∀t,Q (.str x t) h):af w bp ah (PySem.mkText x) Q h:=λs p e1 e2 aP=>⟨e1▸k _,e2,aP⟩
theorem af.mkTextBytes{x:Array UInt8}(k:∀t,Q (.bytes x t) h):af w bp ah (PySem.mkTextBytes x) Q h:=λs p e1 e2 aP=>⟨e1▸k _,e2,aP⟩
theorem af.mkBytes{x:Array UInt8}(aO:x.size<=mh)(k:∀t,Q (.bytes x t) h):af w bp ah (PySem.mkBytes x) Q h:=by
 unfold PySem.mkBytes;exact G (a8 (n8.mpr aO)) (λs p e1 e2 aP=>⟨e1▸k _,e2,aP⟩)
theorem af.load{a:a1}{o:Obj}{Q:Obj->bq->Prop}(e:h.get? a=J o)(k:Q o h):af w bp ah (PySem.load a) Q h:=λs p e1 e2 aP=>⟨o,e1▸e,e1▸k,e2,aP⟩
theorem af.alloc{o:Obj}{Q:a1->bq->Prop}(k:Q h.objs.size (h.push o)):af w bp ah (PySem.alloc o) Q h:=λs p e1 e2 aP=>by subst e1;exact⟨k,e2,aP⟩
theorem af.ite[Decidable c]{a b:Sem ay}{Q:ay->bq->Prop}(k1:c->af w bp ah a Q h)(k2:¬c->af w bp ah b Q h):af w bp ah (if c then a else b) Q h:=by
 split
 ·exact k1 (by assumption)
 ·exact k2 (by assumption)
theorem af.ret{v:aG}{Q:Fin->bq->Prop}(k:Q (.done (.ret v)) h):af w bp ah (PySem.ret v) Q h:=λs p e1 e2 aP=>⟨e1▸k,e2,aP⟩
theorem af.again{c:lH}{Q:Fin->bq->Prop}(k:Q (.again c) h):af w bp ah (PySem.again c) Q h:=λs p e1 e2 aP=>⟨e1▸k,e2,aP⟩
theorem af.any{t:Sem ay}{Q:ay->bq->Prop}{A:k4}(cS:ah.In A)(x:∀s,s.heap=h->s.gens= #[]->s.os=bp->cN (di prog w) A t (λa aS=>Q a aS.heap/\aS.gens= #[]/\aS.os=bp) (λ_ _=>False) s):af w bp ah t Q h:=
 λs p e1 e2 aP=>x s e1 e2 aP ah p cS
theorem af.looks{t:Sem ay}{r:ay}{Q:ay->bq->Prop}(ok:bz a9 n ah)(x:Looks (di prog w) h t r)(k:Q r h):af w bp ah t Q h:=by
 obtain⟨A,cS,_⟩:=ok.room;exact af.any cS λs e1 e2 aP=>x A _ _ s (λ_ _ e=>e1▸e) ⟨e1▸k,e2,aP⟩
def ji(w:eS)(bp:gv)(ah:Ctx)(R:aG->bq->Prop)(h:bq):Prop:=
 ∀s p,s.heap=h->s.gens= #[]->s.os=bp->wpCode (di prog w) ah (λr aS=>∃v,r=.ok (.ret v)/\R v aS.heap/\aS.gens= #[]/\aS.os=bp) p s
theorem ji.tree{R:aG->bq->Prop}{c:lH}(aD:ah.code=c)(x:af w bp ah ((di prog w).den c) (λcp av=>match cp with | .done f=>∃v,f=.ret v/\R v av| .again c'=>c'.quiet=ae/\ji w bp (ah.goto c') R av) h):ji w bp ah R h:=λs p e1 e2 aP=>by
 (refine fB (N0 ..) ?_;rw [aD])
 refine lJ _ _ _ (λcp gZ aS y=>?_) (λ_ _ _ y=>y.elim) _ _ (x s p e1 e2 aP)
 refine dS y λcA dc fi=>?_
 induction cp using PySem.Fin.casesOn with
 |done f=>refine bT cA λv Km r=>?_;obtain rfl:=Km;exact⟨v,rfl,r,dc,fi⟩
 |again c'=>exact⟨cA.1,cA.2 aS gZ rfl dc fi⟩
theorem af.runValue{c:lH}(x:∀p,ji w bp (ah.enter c ac p) Q h):af w bp ah (PySem.runValue c) Q h:=λs p e1 e2 aP=>by
 refine G (Sem.wp_runValue ..) (GI (λr aS y=>?_) (x p s p e1 e2 aP))
 refine kS y λv Kn a b=>?_;obtain rfl:=Kn
 exact⟨a,b⟩
theorem af.call{f:aG}{pos:List aG}{iT:List (Str×aG)}(x:∀p,ji w bp (ah.enter (.call f ⟨pos,iT⟩) ac p) Q h):af w bp ah (PySem.call f pos iT) Q h:=af.runValue x
theorem P8(ok:bz a9 n ah){self:aG}{Q:Bool->bq->Prop}(k:Q aA h):af w bp ah (Builtin.Bytes.exported self) Q h:=λs p e1 e2 aP=>by
 have key:∀(c:lH) (q:Pos),qP c=ae->∀f:lH×Pos->Bool,(∀id a q,qv.contains id=aA->f (.builtin id a,q)=aA)->(∀c q,(∀id a,c≠.builtin id a)->f (c,q)=aA)->f (c,q)=aA:=by
  intro c q aD f ai ak;by_cases hb:∃id a,c=.builtin id a
  ·refine oX hb λid a Ko=>?_;obtain rfl:=Ko
   exact ai _ _ _ (by simpa [qP] using aD)
  ·exact ak _ _ λid a e=>hb ⟨id,a,e⟩
 have aee:∀a9:lH×Pos->Bool,(∀id a q,qv.contains id=aA->a9 (.builtin id a,q)=aA)->(∀c q,(∀id a,c≠.builtin id a)->a9 (c,q)=aA)->((ah.code,p)::ah.below).any a9=aA:=by
  intro a9 ai ak;refine fB List.any_eq_false ?_;intro x aO;refine G (Bool.not_eq_true ..) ?_;have hn:qP x.1=ae:=by
   rcases fw.mp aO with rfl|aO
   ·exact ok.here
   ·exact ok.below x aO
  obtain⟨c,q⟩:=x;exact key c q hn a9 ai ak
 refine⟨Eq.subst (motive:=λb=>Q b s.heap) (aee _ (λid a q hi=>?_) (λc q hb=>?_)).symm (e1▸k),e2,aP⟩
 ·have tG:id≠"bytearray.__contains__"/\id≠"bytearray.__mod__"/\id≠"bytearray.__rmod__"/\id≠"_struct.pack_into.held"/\id≠"bytearray.find.held"/\ND.contains id=aA:=by
   simp only [qv,List.contains_append,Ur,uw,List.contains_nil,Bool.or_false,beq_eq_false_iff_ne] at hi;refine cz hi λKp f=>?_;refine arZ Kp λa b c d e=>?_
   exact⟨a,b,c,d,e,f⟩
  refine Uc tG λn1 n2 A4 ahT JL ahU=>?_;clear tG
  obtain⟨pos,iT⟩:=a;delta PySem.Builtin.Bytes.exported.match_1
  refine(dif_neg n1).trans ((dif_neg n2).trans ((dif_neg A4).trans ((dif_neg ahT).trans ((dif_neg JL).trans ?_))));induction pos using mO with
  |nil=>rfl
  |cons v r=>
   show(Builtin.Bytes.sameRef v self&&ND.contains id)=aA
   (exact G (ahU ..) (G (Bool.and_false ..) rfl))
 ·rcases c<;>first |rfl|exact absurd rfl (hb _ _)
end
end
variable {n:Nat}{vs:List aG}{a9:List a1}{w:eS}{ah:Ctx}{ay bF:Type}{h:bq}{A:k4}{E:aG->cs->Prop}{s:cs}
end Mine.Internal
end
noncomputable section
set_option tactic.hygienic true
open PySem PySem.W PyProof.Rows PySem.Calls
namespace Mine.Internal
def Dk(e:aU):Bool:=iP e aA (kBoolOp:=λ_ _ _=>ae) (kBinOp:=λ_ _ _ _=>ae) (kUnaryOp:=λ_ _ _=>ae) (kIfExp:=λ_ _ _ _=>ae) (kDict:=λ_ _ _=>ae) (kListComp:=λ_ _ _ _=>ae) (kCompare:=λ_ _ _ _=>ae) (kCall:=λ_ _ _ _=>ae) (kConstant:=λ_ _ _=>ae) (kAttribute:=λ_ _ _=>ae) (kSubscript:=λ_ _ _=>ae) (kName:=λ_ _=>ae) (kList:=λ_ _=>ae) (kTuple:=λ_ _ _=>ae) (kSlice:=λ_ _ _ _=>ae)
theorem mW{P:aU->Prop}(kBoolOp:∀a b c,P (.BoolOp a b c))(kBinOp:∀a b c d,P (.BinOp a b c d))(kUnaryOp:∀a b c,P (.UnaryOp a b c))(kIfExp:∀a b c d,P (.IfExp a b c d))(kDict:∀a b c,P (.Dict a b c))(kListComp:∀a b c d,P (.ListComp a b c d))(kCompare:∀a b c d,P (.Compare a b c d))(kCall:∀a b c d,P (.Call a b c d))(kConstant:∀a b c,P (.Constant a b c))(kAttribute:∀a b c,P (.Attribute a b c))(kSubscript:∀a b c,P (.Subscript a b c))(kName:∀a b,P (.Name a b))(kList:∀a b,P (.List a b))(kTuple:∀a b c,P (.Tuple a b c))(kSlice:∀a b c d,P (.Slice a b c d))(j:∀e,(∀ {ay:Type} {d:ay} {kBoolOp:ww->List aU->Pos->ay} {kBinOp:aU->og->aU->Pos->ay} {kUnaryOp:UnaryOp->aU->Pos->ay} {kIfExp:aU->aU->aU->Pos->ay} {kDict:List (Option aU)->List aU->Pos->ay} {kListComp:aU->List Gl->jA->Pos->ay} {kCompare:aU->List CmpOp->List aU->Pos->ay} {kCall:aU->List aU->List Keyword->Pos->ay} {kConstant:Const->Nat->Pos->ay} {kAttribute:aU->Str->Pos->ay} {kSubscript:aU->aU->Pos->ay} {kName:Str->Pos->ay} {kList:List aU->Pos->ay} {kTuple:List aU->Nat->Pos->ay} {kSlice:Option aU->Option aU->Option aU->Pos->ay},iP e d kBoolOp kBinOp kUnaryOp kIfExp kDict kListComp kCompare kCall kConstant kAttribute kSubscript kName kList kTuple kSlice=d)->P e)(e:aU):P e:=
 Expr.casesOn (motive_1:=P) e kBoolOp (λ_ _ _=>j _ λ{ay d}=>iv d) kBinOp kUnaryOp (λ_ _ _ _=>j _ λ{ay d}=>iv d) kIfExp kDict (λ_ _ _=>j _ λ{ay d}=>iv d) kListComp (λ_ _ _ _=>j _ λ{ay d}=>iv d) (λ_ _ _ _ _=>j _ λ{ay d}=>iv d) (λ_ _ _ _=>j _ λ{ay d}=>iv d) (λ_ _=>j _ λ{ay d}=>iv d) (λ_ _=>j _ λ{ay d}=>iv d) (λ_ _=>j _ λ{ay d}=>iv d) kCompare kCall (λ_ _ _ _=>j _ λ{ay d}=>iv d) (λ_ _=>j _ λ{ay d}=>iv d) kConstant kAttribute kSubscript (λ_ _=>j _ λ{ay d}=>iv d) kName kList kTuple kSlice
theorem aoM{P:cD->Prop}(kFunctionDef:∀a b c d e f aB h i j,P (.FunctionDef a b c d e f aB h i j))(kClassDef:∀a b c d e f aB h i j k,P (.ClassDef a b c d e f aB h i j k))(kReturn:∀a b,P (.Return a b))(kDelete:∀a b,P (.Delete a b))(kAssign:∀a b c,P (.Assign a b c))(kAugAssign:∀a b c d,P (.AugAssign a b c d))(kFor:∀a b c d e,P (.For a b c d e))(kWhile:∀a b c d,P (.While a b c d))(kIf:∀a b c d,P (.If a b c d))(kRaise:∀a b c,P (.Raise a b c))(kTry:∀a b c d e,P (.Try a b c d e))(kExpr:∀a b,P (.Expr a b))(kPass:∀a,P (.Pass a))(kBreak:∀a,P (.Break a))(j:∀e,(∀ {ay:Type} {d:ay} {kFunctionDef:Str->Arguments->List cD->List aU->Option aU->List TypeParam->jA->Option jA->Str->Pos->ay} {kClassDef:Str->List aU->List Keyword->List cD->List aU->List TypeParam->jA->Option jA->Str->List Str->Pos->ay} {kReturn:Option aU->Pos->ay} {kDelete:List aU->Pos->ay} {kAssign:List aU->aU->Pos->ay} {kAugAssign:aU->og->aU->Pos->ay} {kFor:aU->aU->List cD->List cD->Pos->ay} {kWhile:aU->List cD->List cD->Pos->ay} {kIf:aU->List cD->List cD->Pos->ay} {kRaise:Option aU->Option aU->Pos->ay} {kTry:List cD->List ExceptHandler->List cD->List cD->Pos->ay} {kExpr:aU->Pos->ay} {kPass:Pos->ay} {kBreak:Pos->ay},oR e d kFunctionDef kClassDef kReturn kDelete kAssign kAugAssign kFor kWhile kIf kRaise kTry kExpr kPass kBreak=d)->P e)(e:cD):P e:=
 Stmt.casesOn (motive_2:=P) e kFunctionDef (λ_ _ _ _ _ _ _ _ _ _=>j _ λ{ay d}=>iv d) kClassDef kReturn kDelete kAssign (λ_ _ _ _ _ _ _=>j _ λ{ay d}=>iv d) kAugAssign (λ_ _ _ _ _=>j _ λ{ay d}=>iv d) kFor (λ_ _ _ _ _=>j _ λ{ay d}=>iv d) kWhile kIf (λ_ _ _=>j _ λ{ay d}=>iv d) (λ_ _ _=>j _ λ{ay d}=>iv d) (λ_ _ _=>j _ λ{ay d}=>iv d) kRaise kTry (λ_ _ _ _ _=>j _ λ{ay d}=>iv d) (λ_ _ _=>j _ λ{ay d}=>iv d) (λ_ _=>j _ λ{ay d}=>iv d) (λ_ _ _ _=>j _ λ{ay d}=>iv d) (λ_ _=>j _ λ{ay d}=>iv d) (λ_ _=>j _ λ{ay d}=>iv d) kExpr kPass kBreak (λ_=>j _ λ{ay d}=>iv d)
theorem jM{ay:Type}{o:Option ay}{P:ay->Prop}{aa:Prop}(w:n9 (motive:=λ_=>Prop) o False P)(k:∀c,o=J c->P c->aa):aa:=by
 rcases o with _|c
 ·exact w.elim
 ·exact k c rfl w
theorem Ke{ay bF:Type}{o:Option (ay×bF)}{P:ay->bF->Prop}{aa:Prop}(w:n9 (motive:=λ_=>Prop) o False λc=>Prod.casesOn (motive:=λ_=>Prop) c P)(k:∀a b,o=J (a,b)->P a b->aa):aa:=by
 rcases o with _|c
 ·exact w.elim
 ·exact k c.1 c.2 rfl w
theorem qH{c:Prop}{_:Decidable c}{P aa:Prop}(w:if c then P else False)(k:c->P->aa):aa:=by
 by_cases h:c
 ·rw [aY h] at w;exact k h w
 ·rw [a8 h] at w;exact w.elim
theorem oM{ay bF:Type _}{a c:ay}{b d:bF}{aa:Prop}(e:(a,b)=(c,d))(k:a=c->b=d->aa):aa:=k (congrArg Prod.fst e) (congrArg rz e)
theorem lX{ay bF:Type}{a c:ay}{b d:bF}{aa:Prop}(e:J (a,b)=J (c,d))(k:a=c->b=d->aa):aa:=oM (ci e) k
theorem gb{ay bF:Type}{o:Option ay}{f:ay->Option bF}{y:bF}{aa:Prop}(e:o.bind f=J y)(k:∀x,o=J x->f x=J y->aa):aa:=by
 rcases o with _|x
 ·exact br e
 ·exact k x rfl e
theorem eZ{a b:Bool}(h:(a&&b)=ae):a=ae:=by
 rcases a
 ·exact b8 h
 ·rfl
theorem eJ{a b:Bool}(h:(a&&b)=ae):b=ae:=by
 rcases a
 ·exact b8 h
 ·exact h
theorem fm{a b:Bool}(h:(a&&b)=ae):a=ae/\b=ae:=by rwa [he] at h
theorem xo{a:Bool}(h:(!a)=ae):a=aA:=by rwa [Bool.not_eq_true'] at h
theorem tn{P:Prop}(b:Bool)(t:b=ae->P)(f:b=aA->P):P:=(Bool.eq_false_or_eq_true b).elim t f
noncomputable def A7(e:aU):Bool:= !(e.ctorIdx==20)
noncomputable def m5(e:aU):Bool:= !(e.ctorIdx==23)
noncomputable def A8(e:aU):Bool:= !(e.ctorIdx==26)
def gA(aH:List aU):Bool:=aH.all λe=> !(e.ctorIdx==22)
noncomputable def xs(e:aU):Bool:= !(kG 3 e.ctorIdx||(kG 0 e.ctorIdx||(kG 15 e.ctorIdx||kG 5 e.ctorIdx)))
def A5(e:aU):Bool:=iP e aA (kCall:=λf _ _ _=> !m5 f)
end Mine.Internal
end
noncomputable section
open PySem PySem.W PyProof.Rows PySem.Calls
namespace Mine.Internal
section
variable {a9:List a1}
section
variable {w:eS}{bp:gv}{ah:Ctx}{ay bF:Type}{h:bq}{n:Nat}
theorem bz.call(ok:bz a9 (n+1) ah)(f:aG)(df:Args)(p:Pos):bz a9 n (ah.enter (.call f df) ac p):=
 ok.enter (.call f df) (.call f df) p rfl (by show 0<=2;exact hf _) (by show 1<=40;exact mQ rfl)
theorem bz.goFunc(ok:bz a9 (n+1) ah)(f:aG)(df:Args)(body:List cD)(Z:Env)(p:Pos)(bl:Z.scope.kind≠.module/\∃b∈a9,Z.frame=J b):bz a9 n ((ah.enter (.call f df) ac p).goto (.func body Z)):=
 ok.enterF (.call f df) (.func body Z) p rfl (by show 1<=2;exact mQ rfl) (by show 3<=40;exact mQ rfl) λe aO=>by
  exact G (jk.mp (show e∈[Z] from aO)) bl
theorem DL{id:String}{df:Args}{b:Builtin}{R:aG->bq->Prop}(aD:ah.code=.builtin id df)(hb:qk nu id=J b)
  (x:af w bp ah (b df) (λcp av=>match cp with | .done f=>∃v,f=.ret v/\R v av| .again c'=>c'.quiet=ae/\ji w bp (ah.goto c') R av) h):ji w bp ah R h:=by
 refine ji.tree aD ?_;show af w bp ah (match qk nu id with |J b=>b df|ac=>unsupported ((withoutEnding? id "#data").getD id)) _ h
 exact G hb x
theorem Q5{id:String}{df:Args}{R:aG->bq->Prop}(aD:ah.code=.call (.builtin id) df)
  (x:af w bp ah (rD id df) (λ_ av=>(Code.builtin id df).quiet=ae/\ji w bp (ah.goto (.builtin id df)) R av) h):ji w bp ah R h:=by
 exact ji.tree aD (af.bind (af.mono x λ_ av q=>af.again q))
set_option maxHeartbeats 2000000 in
theorem af6{C:a1}{ct:List aG}{iT:List (Str×aG)}{Jc:a1}{K:Frag}{Q:aG->bq->Prop}(ok:bz a9 (n+3) ah)(X:K.In h)(bc:makesIn K C=ae)(hi:nr K (.ref C) "__init__"=J (J (.ref Jc)))(aq:typeIn K (.ref Jc)=J (.type "function"))
  (k:∀gU,bz a9 (n+1) gU->af w bp gU (PySem.call (.ref Jc) (.ref (h.objs.size+1)::ct) iT) (λv av=>v=.none/\Q (.ref (h.objs.size+1)) av) ((h.push rB).push (kj C h.objs.size))):
  af w bp ah (PySem.call (.ref C) ct iT) Q h:=by
 have Y:=makes_of (M:=di prog w) X bc;have WQ:=Y;obtain⟨⟨J8,od,i5,sl,dD,e1,e2,jD⟩,ahF,base,self,as6,call,apj⟩:=Y;refine af.call λp=>ji.tree rfl ?_
 have D3:=ok.call (.ref C) ⟨ct,iT⟩ p;show af w bp _ (callAny (.ref C) ⟨ct,iT⟩) _ h
 refine af.bv (λ_=>af.load dD) (af.bv (λ_=>af.looks D3 call) ?_)
 dsimp only;refine G (tc_bind ..) (af.bv (λ_=>af.pure) (af.bv (λ_=>af.pure) ?_))
 refine af.again (c:=.call (.builtin "type.__call__") ⟨.ref C::ct,iT⟩) ⟨rfl,?_⟩;have Sy:bz a9 (n+2) ((ah.enter (.call (.ref C) ⟨ct,iT⟩) ac p).goto (.call (.builtin "type.__call__") ⟨.ref C::ct,iT⟩)):=ok.enter _ _ p rfl (by show 0<=2;exact hf _) (by show 1<=40;exact mQ rfl)
 refine Q5 rfl ?_;obtain⟨v9,aer,_⟩:=Sy.room;refine af.any aer λs aM a7 q3=>check_slot tc_kind tc_split (G aM apj) (tc_args _ _ _) ⟨?_,a7,q3⟩
 refine G aM (⟨Gk _ (by decide+kernel),?_⟩)
 have oL:bz a9 (n+2) ((ah.enter (.call (.ref C) ⟨ct,iT⟩) ac p).goto (.builtin "type.__call__" ⟨.ref C::ct,iT⟩)):=ok.enter _ _ p (by show(!qv.contains "type.__call__")=ae;decide+kernel) (by show 1<=2;exact mQ rfl) (by show 1<=40;exact mQ rfl)
 refine DL rfl NN ?_;have i7:Looks (di prog w) h (mroOf (.ref C)) i5.mro:=((Looks.ld (part:=ac) dD).andThen .now).andThen .now;obtain⟨wa,Dp,_⟩:=oL.room;refine af.bv (λ_=>af.looks oL i7) ?_
 refine af.ifn (by refine G jD ?_;decide) ?_
 refine af.bv (λ_=>af.looks oL ahF) (af.bv (λ_=>af.pure) (af.bind (af.holding (af.any Dp λs aM a7 q3=>?_))))
 obtain⟨a6,aI,d,tk,os⟩:=s;dsimp only at aM a7 q3;subst aM;refine CG (new_K WQ (Cv X hi) (.inl rfl) ?_);refine⟨?_,a7,q3⟩;have kt:∀b o,a6.get? b=J o->((a6.push rB).push (kj C a6.objs.size)).get? b=J o:=λb o e=>k6 _ (k6 _ e)
 have aO:((a6.push rB).push (kj C a6.objs.size)).get? (a6.objs.size+1)=J (kj C a6.objs.size):=by
  have :=hU (a6.push rB) (o:=kj C a6.objs.size) rfl;rwa [ib] at this
 have lY:Looks (di prog w) ((a6.push rB).push (kj C a6.objs.size)) (typeOf (.ref (a6.objs.size+1))) (.ref C):=(Looks.ld aO).andThen .now;have cP:=self.keeps kt;have kL:=(Cv (M:=di prog w) X hi).keeps kt;have fy:=(bind_fn (M:=di prog w) X (.ref (a6.objs.size+1)) aq).keeps kt;refine af.bv (λ_=>af.looks oL (lY.andThen cP)) (af.ifn (by decide) (af.bind (af.holding ?_)))
 refine af.bind (af.bind (af.looks oL lY (af.looks oL kL ?_)));refine af.holding (af.bv (λ_=>af.looks oL fy) (af.bind ?_))
 have aiU:bz a9 (n+1) (((ah.enter (.call (.ref C) ⟨ct,iT⟩) ac p).goto (.call (.builtin "type.__call__") ⟨.ref C::ct,iT⟩)).goto (.builtin "type.__call__" ⟨.ref C::ct,iT⟩)):=oL.mono (uB (n+1));refine af.mono (k _ aiU) λv av q=>?_
 obtain⟨rfl,q⟩:=q;refine af.pure (af.ret ⟨_,rfl,q⟩)
end
end
variable {a9:List a1}{w:eS}{ah:Ctx}{ay bF:Type}{h:bq}{n:Nat}
theorem aoe(s:cs)(aB:a1)(x:GenState):(s.setGen aB x).heap=s.heap:=rfl
theorem K2{M:qg}{p:Pos}{t:Sem Fin}{fs:List Frame}{s aS:cs}{e:End}(x:Runs M ah p t fs s e aS):s.heap.objs.size<=aS.heap.objs.size:=by
 induction x<;>first |exact cW _|assumption|lia|(simp only [aoe,qf,ib] at *;lia)
theorem aqL{M:qg}{p:Pos}{aB:Nat}{r:Resume}{s aS:cs}{xy:GenResult}(x:Wakes M ah p aB r s xy aS):s.heap.objs.size<=aS.heap.objs.size:=by
 unfold Wakes at x;split at x
 ·exact x.elim
 ·split at x
  ·refine tY x λe1 cP h _ _ amB=>?_;obtain rfl:=amB
   have z:=K2 h;exact z
  ·refine cz x λ_ amC=>?_;obtain rfl:=amC;exact cW _
  ·refine cz x λ_ amD=>?_;obtain rfl:=amD;exact cW _
 ·refine tY x λe1 cP h _ _ amE=>?_;obtain rfl:=amE
  have z:=K2 h;exact z
 ·refine cz x λ_ amF=>?_;obtain rfl:=amF;exact cW _
 ·refine cz x λ_ amG=>?_;obtain rfl:=amG;exact cW _
theorem arD{M:qg}{ay:Type}(t:Sem ay):∀ {Q:ay->Pos->cs->Prop} {E:aG->Pos->cs->Prop} {p:Pos} {s s₀:cs},s₀.heap.objs.size<=s.heap.objs.size->gN M ah t Q E p s->
  gN M ah t (λa gZ aS=>Q a gZ aS/\s₀.heap.objs.size<=aS.heap.objs.size) (λe gZ aS=>E e gZ aS/\s₀.heap.objs.size<=aS.heap.objs.size) p s:=by
 induction t with
 |pure a=>intro Q E p s s₀ h x;exact⟨x,h⟩
 |raise e=>intro Q E p s s₀ h x;exact⟨x,h⟩
 |unsupported w=>intro Q E p s s₀ h x;exact x
 |finish w=>intro Q E p s s₀ h x;exact x
 |rule Li k ih=>intro Q E p s s₀ h x;rw [gN] at x⊢;exact ih _ h x
 |«at» Li k ih=>intro Q E p s s₀ h x;rw [gN] at x⊢;exact ih _ h x
 |load a part k ih=>intro Q E p s s₀ h x;rw [gN] at x⊢;refine bT x λo e x=>?_;exact⟨o,e,ih _ h x⟩
 |update a part f k ih=>intro Q E p s s₀ h x;rw [gN] at x⊢;exact⟨x.1,ih _ (G (qf ..) h) x.2⟩
 |loadIfAlive a k ih=>intro Q E p s s₀ h x;rw [gN] at x⊢;exact ih _ h x
 |point l k ih=>intro Q E p s s₀ h x;rw [gN] at x⊢;exact ih _ h x
 |register=>intro Q E p s s₀ h x;rw [gN] at x;exact x.elim
 |alloc o k ih=>intro Q E p s s₀ h x;rw [gN] at x⊢;exact ih _ (G (ib ..) (Nat.le_add_right_of_le h)) x
 |fresh k ih=>intro Q E p s s₀ h x;rw [gN] at x⊢;exact ih _ h x
 |ask k ih=>intro Q E p s s₀ h x;rw [gN] at x⊢;exact ih _ h x
 |choose src n k ih=>intro Q E p s s₀ h x;rw [gN] at x⊢;exact⟨x.1,ih _ h x.2⟩
 |os q l k ih=>intro Q E p s s₀ h x;rw [gN] at x⊢;exact ih _ h x
 |call c a6 aB l k ih=>
  intro Q E p s s₀ h x;rw [gN] at x⊢;exact mF x λr aS c9 x=>⟨r,aS,c9,ih _ (cQ h (K2 c9)) x⟩
 |handled own k ih=>intro Q E p s s₀ h x;rw [gN] at x⊢;exact ih _ h x
 |genState aB k ih=>intro Q E p s s₀ h x;rw [gN] at x⊢;refine bT x λo e x=>?_;exact⟨o,e,ih _ h x⟩
 |newGen c k ih=>intro Q E p s s₀ h x;rw [gN] at x⊢;exact ih _ h x
 |resume aB r l k ih=>
  intro Q E p s s₀ h x;rw [gN] at x⊢;exact mF x λxy aS c9 x=>⟨xy,aS,c9,ih _ (cQ h (aqL c9)) x⟩
 |yield=>intro Q E p s s₀ h x;rw [gN] at x;exact x.elim
 |stack k ih=>intro Q E p s s₀ h x;rw [gN] at x⊢;exact ih _ h x
 |fork=>intro Q E p s s₀ h x;rw [gN] at x;exact x.elim
 |thread k ih=>intro Q E p s s₀ h x;rw [gN] at x⊢;exact ih _ h x
 |await=>intro Q E p s s₀ h x;rw [gN] at x;exact x.elim
theorem af.sized{w:eS}{bp:gv}{ay:Type}{t:Sem ay}{Q:ay->bq->Prop}{h:bq}(x:af w bp ah t (λa av=>h.objs.size<=av.objs.size->Q a av) h):af w bp ah t Q h:=λs p e1 e2 aP=>by
 refine lJ _ _ _ (λa gZ aS y=>?_) (λ_ _ _ y=>y.1) _ _ (arD t (s₀:=s) (cW _) (x s p e1 e2 aP))
 refine cz y λamH z=>?_;refine dS amH λcA dc fi=>?_
 exact⟨cA (cU e1 z),dc,fi⟩
section
variable {k v y:L}{l:List L}
set_option genInjectivity true in
inductive L where
 |none|bool (b:Bool)|int (i:Int)|bytes (l:List UInt8)|str (s:Str)|new (i:Nat)|st (v:aG)
 deriving DecidableEq
inductive bt where
 |inst (c:a1) (aN:List (Str×L))|list (l:List L)|tup (l:List L)|dict (l:List (L×L))|set (l:List L)|ba (l:List UInt8)|scr (l:List L)
noncomputable abbrev an:=List bt
noncomputable def isInt(v:L):Bool:=L.casesOn (motive:=λ_=>Bool) v aA (λ_=>aA) (λ_=>ae) (λ_=>aA) (λ_=>aA) (λ_=>aA) λ_=>aA
noncomputable def qI(v:L):Option Int:=L.casesOn (motive:=λ_=>Option Int) v ac (λ_=>ac) J (λ_=>ac) (λ_=>ac) (λ_=>ac) (λ_=>ac)
noncomputable def A6(v:L):Option Nat:=L.casesOn (motive:=λ_=>Option Nat) v ac (λ_=>ac) (λ_=>ac) (λ_=>ac) (λ_=>ac) J (λ_=>ac)
noncomputable def QV(o:bt):Option (a1×List (Str×L)):=bt.casesOn (motive:=λ_=>Option (a1×List (Str×L))) o (λc l=>J (c,l)) (λ_=>ac) (λ_=>ac) (λ_=>ac) (λ_=>ac) (λ_=>ac) (λ_=>ac)
noncomputable def AX(o:bt):Option (List L):=bt.casesOn (motive:=λ_=>Option (List L)) o (λ_ _=>ac) J (λ_=>ac) (λ_=>ac) (λ_=>ac) (λ_=>ac) (λ_=>ac)
noncomputable def Kf(vs:List L):Option L:=mO (motive:=λ_=>Option L) vs ac λv t=>mO (motive:=λ_=>Option L) t (J v) λ_ _=>ac
def listOf(v:L)(H:an):Option Nat:=(A6 v).bind λi=>(H[i]?.bind AX).bind λ_=>J i
theorem r3{a:Int}(e:qI v=J a):v=.int a:=by
 rcases v<;>first |exact br e|exact congrArg L.int (ci e)
theorem JN{j:Nat}(e:A6 v=J j):v=.new j:=by
 rcases v<;>first |exact br e|exact congrArg L.new (ci e)
theorem afN{o:bt}{p:a1×List (Str×L)}(e:QV o=J p):o=.inst p.1 p.2:=by
 rcases o<;>first |exact br e|(rw [<-ci e])
theorem Ry{o:bt}(e:AX o=J l):o=.list l:=by
 rcases o<;>first |exact br e|exact congrArg bt.list (ci e)
theorem aiW{vs:List L}(e:Kf vs=J v):vs=[v]:=by
 rcases vs with _|⟨u,_|⟨_,_⟩⟩<;>first |exact br e|exact congrArg (λv=>[v]) (ci e)
theorem DC{aa:Prop}(h:isInt v=ae)(k:∀i,v=.int i->aa):aa:=by
 rcases v<;>first |exact k _ rfl|exact Bool.noConfusion h
noncomputable abbrev Loc:=List (Str×L)
inductive jw where
 |next|brk|cont|ret (v:L)
def cy{bF:Type}(l:List (Str×bF))(x:Str):Option bF:=zt ac (λp _ r=>if p.1=x then J p.2 else r) l
def fA{bF:Type}(l:List (Str×bF))(x:Str)(v:bF):List (Str×bF):=zt [(x,v)] (λp t r=>if p.1=x then(x,v)::t else p::r) l
theorem pE{bF:Type}{y:Str}{v:bF}{l:List (Str×bF)}{x:Str}:cy ((y,v)::l) x=if y=x then J v else cy l x:=rfl
theorem Kk{bF:Type}{y:Str}{u:bF}{l:List (Str×bF)}{x:Str}{v:bF}:fA ((y,u)::l) x v=if y=x then(x,v)::l else(y,u)::fA l x v:=rfl
noncomputable def bH(n:Nat):Bool:=n<=65536
noncomputable def cG(a:Int):Bool:=a.natAbs<2^62
noncomputable def QW(bM:og)(a b:Int)(H:an):Option (L×an):=match bM with
 | .Add=>J (.int (a+b),H)
 | .Sub=>J (.int (a - b),H)
 | .Mult=>if cG a&&cG b then J (.int (a*b),H) else ac
 | .FloorDiv=>if b=0 then ac else if b.natAbs<1000000 then J (.int (a.fdiv b),H) else ac
 | .Mod=>if b=0 then ac else J (.int (a.fmod b),H)
 | .Pow=>if 0<=b/\b<=1000/\cG a=ae then J (.int (a^b.toNat),H) else ac
 | .LShift=>if 0<=b/\b<=1000/\cG a=ae then J (.int (a*2^b.toNat),H) else ac
 | .RShift=>if 0<=b then J (.int (a.fdiv (2^b.toNat)),H) else ac
 | .BitAnd=>J (.int (wy a b),H)
 | .BitOr=>J (.int (Builtin.bitOr a b),H)
 |_=>ac
def listAt(H:an)(i:Nat):Option (List L):=H[i]?.bind AX
theorem xi{H:an}{i:Nat}(e:listAt H i=J l):H[i]? =J (.list l):=gb e λ_ e1 e2=>e1.trans (congrArg J (Ry e2))
noncomputable def XV(bM:og)(a b:List UInt8)(H:an):Option (L×an):=match bM with
 | .Add=>if bH (a.length+b.length) then J (.bytes (a++b),H) else ac
 |_=>ac
noncomputable def dT(bM:og)(i j:Nat)(H:an):Option (L×an):=match bM with
 | .Add=>(listAt H i).bind λa=>(listAt H j).bind λb=>if bH (a.length+b.length) then J (.new H.length,H++[.list (a++b)]) else ac
 |_=>ac
noncomputable def ahR(bM:og)(i:Nat)(n:Int)(H:an):Option (L×an):=match bM with
 | .Mult=>(listAt H i).bind λa=>if bH (a.length*n.toNat)&&cG n then J (.new H.length,H++[.list (f9 n.toNat a).flatten]) else ac
 |_=>ac
noncomputable def a5(bM:og)(a b:L)(H:an):Option (L×an):=match a with
 | .int a=>(match b with
  | .int b=>QW bM a b H
  |_=>ac)
 | .bytes a=>(match b with
  | .bytes b=>XV bM a b H
  |_=>ac)
 | .new i=>(match b with
  | .new j=>dT bM i j H
  | .int n=>ahR bM i n H
  |_=>ac)
 |_=>ac
noncomputable def hK:L->Bool
 | .none| .int _=>ae
 |_=>aA
noncomputable def fX:L->Bool
 | .int _| .str _=>ae
 |_=>aA
def dV(l:List (L×L))(k:L):Option L:=zt ac (λp _ r=>if p.1=k then J p.2 else r) l
def g9(l:List (L×L))(k v:L):List (L×L):=zt [(k,v)] (λp t r=>if p.1=k then(p.1,v)::t else p::r) l
def li(l:List (L×L))(k:L):List (L×L):=zt [] (λp t r=>if p.1=k then t else p::r) l
theorem oy{l:List (L×L)}:dV ((y,v)::l) k=if y=k then J v else dV l k:=rfl
theorem tv{u:L}{l:List (L×L)}:g9 ((y,u)::l) k v=if y=k then(y,v)::l else(y,u)::g9 l k v:=rfl
theorem PM{u:L}{l:List (L×L)}:li ((y,u)::l) k=if y=k then l else(y,u)::li l k:=rfl
noncomputable def Ak(a b:L)(H:an):Option Bool:=match a,b with
 | .int a,.int b=>J (a==b)
 | .bytes a,.bytes b=>J (a==b)
 | .new i,.new j=>match H[i]?,H[j]?with
  |J (.list a),J (.list b)|J (.scr a),J (.list b)=>if a.length=b.length then(if a.all hK&&b.all hK then J (a==b) else ac) else J aA
  |_,_=>ac
 |_,_=>ac
noncomputable def qJ(H:an)(i:Nat):Bool:=match H[i]?with
 |J (.inst _ _)=>ae
 |_=>aA
noncomputable def DD(a b:L)(H:an):Option Bool:=match a,b with
 | .none,.none=>J ae
 | .new i,.none=>if i<H.length then J aA else ac
 | .int _,.none=>J aA
 | .none,.new i=>if i<H.length then J aA else ac
 | .new i,.new j=>if qJ H i&&qJ H j then J (i==j) else ac
 |_,_=>ac
noncomputable def bW(bM:CmpOp)(a b:L)(H:an):Option Bool:=match bM with
 | .Eq=>Ak a b H
 | .NotEq=>(Ak a b H).map (!·)
 | .Lt=>match a,b with | .int a,.int b=>J (eo (a<b))|_,_=>ac
 | .LtE=>match a,b with | .int a,.int b=>J (eo (a<=b))|_,_=>ac
 | .Gt=>match a,b with | .int a,.int b=>J (eo (b<a))|_,_=>ac
 | .GtE=>match a,b with | .int a,.int b=>J (eo (b<=a))|_,_=>ac
 | .Is=>DD a b H
 | .IsNot=>(DD a b H).map (!·)
 | .In=>match a,b with
  |k,.new j=>if fX k then(match H[j]?with |J (.dict l)=>J (dV l k).isSome|_=>ac) else ac
  |_,_=>ac
 | .NotIn=>ac
noncomputable def wr(H:an)(i:Nat)(o:bt):Option an:=if i=0 then ac else J (H.set i o)
noncomputable def ky:L->Option Bool
 | .bool b=>J b
 |_=>ac
noncomputable def aV(o:L)(n:Str)(H:an):Option L:=match o with
 | .new i=>match H[i]?with
  |J (.inst _ aN)=>match cy aN n with
   |J (.st _)=>ac
   |r=>r
  |_=>ac
 |_=>ac
noncomputable def ft(o:L)(n:Str)(v:L)(H:an):Option an:=match o with
 | .new i=>match H[i]?with
  |J (.inst c aN)=>if bH aN.length then wr H i (.inst c (fA aN n v)) else ac
  |_=>ac
 |_=>ac
inductive nl where
 |at_ (v:L)|sl (a b:Option Int)
noncomputable def jY{bF:Type}(l:List bF)(a b:Option Int):Option (List bF):=
 match a,b with
 |ac,ac=>J l
 |J a,ac=>if 0<=a/\cG a=ae then J (l.drop a.toNat) else ac
 |ac,J b=>if 0<=b/\cG b=ae then J (l.take b.toNat) else ac
 |J a,J b=>if 0<=a/\0<=b/\cG a=ae/\cG b=ae then J ((l.take b.toNat).drop a.toNat) else ac
noncomputable def ij{bF:Type}(l:List bF)(k:Int):Option bF:=if 0<=k then l[k.toNat]?else ac
noncomputable def dh(x:UInt8):L:=.int x.toNat
noncomputable def cj(o:L)(ix:nl)(H:an):Option (L×an):=match o,ix with
 | .new i,.at_ k=>match H[i]?,k with
  |J (.list l),.int k=>if cG k then(ij l k).map (·,H) else ac
  |J (.tup l),.int k=>if cG k then(ij l k).map (·,H) else ac
  |J (.ba l),.int k=>if cG k then(ij l k).map (dh ·,H) else ac
  |J (.dict l),k=>if fX k then(dV l k).map (·,H) else ac
  |_,_=>ac
 | .new i,.sl a b=>match H[i]?with
  |J (.list l)|J (.scr l)=>if bH l.length then(jY l a b).map λl=>(.new H.length,H++[.list l]) else ac
  |J (.tup l)=>match a,b with
   |J a,ac=>if 1<=a/\a<=l.length/\bH l.length=ae then J (.new H.length,H++[.tup (l.drop a.toNat)]) else ac
   |_,_=>ac
  |_=>ac
 | .bytes l,.sl a b=>if bH l.length then(jY l a b).map (.bytes ·,H) else ac
 |_,_=>ac
noncomputable def vK{bF:Type}(l:List bF)(a b:Option Int)(x:List bF):Option (List bF):=
 match a,b with
 |ac,ac=>if x.length=l.length then J x else ac
 |J a,J b=>if 0<=a/\a<=b/\b<=l.length/\(x.length:Int)=b - a then J (l.take a.toNat++x++l.drop b.toNat) else ac
 |_,_=>ac
noncomputable def oK(v:L):Option UInt8:=match v with
 | .int i=>if 0<=i/\i<256 then J (hV i.toNat) else ac
 |_=>ac
noncomputable def fS(o:L)(ix:nl)(v:L)(H:an):Option an:=match o,ix with
 | .new i,.at_ k=>match H[i]?,k with
  |J (.list l),.int k=>if cG k=ae/\0<=k/\k<l.length then wr H i (.list (l.set k.toNat v)) else ac
  |J (.ba l),.int k=>if bH l.length=ae/\0<=k/\k<l.length then(oK v).bind λc=>wr H i (.ba (l.set k.toNat c)) else ac
  |J (.dict l),k=>if fX k&&bH l.length then wr H i (.dict (g9 l k v)) else ac
  |_,_=>ac
 | .new i,.sl a b=>match H[i]?,v with
  |J (.ba l),.bytes x=>if bH (l.length+x.length) then(vK l a b x).bind λl'=>wr H i (.ba l') else ac
  |_,_=>ac
 |_,_=>ac
noncomputable def pt(o:L)(k:L)(H:an):Option an:=match o with
 | .new i=>match H[i]?,k with
  |J (.list l),.int k=>if bH l.length=ae/\0<=k/\k<l.length then wr H i (.list (l.eraseIdx k.toNat)) else ac
  |J (.dict l),k=>if fX k&&bH l.length&&(dV l k).isSome then wr H i (.dict (li l k)) else ac
  |_,_=>ac
 |_=>ac
noncomputable def bR:List L->Option (List UInt8)
 | []=>J []
 |v::l=>match oK v,bR l with
  |J c,J r=>J (c::r)
  |_,_=>ac
noncomputable def rV(l acc:List L):List L:=l.foldl (λacc v=>if acc.contains v then acc else acc++[v]) acc
theorem PO{acc:List L}:rV (v::l) acc=rV l (if acc.contains v then acc else acc++[v]):=rfl
def ag3(H:an)(o:bt):Option (L×an):=bt.casesOn (motive:=λ_=>Option (L×an)) o (λ_ _=>ac) (λl=>if bH l.length then J (.int l.length,H) else ac) (λ_=>ac) (λ_=>ac) (λl=>if bH l.length then J (.int l.length,H) else ac) (λl=>if bH l.length then J (.int l.length,H) else ac) λ_=>ac
def JB(a:L)(H:an):Option (L×an):=L.casesOn (motive:=λ_=>Option (L×an)) a ac (λ_=>ac) (λ_=>ac) (λl=>if bH l.length then J (.int l.length,H) else ac) (λ_=>ac) (λi=>H[i]?.bind (ag3 H)) λ_=>ac
noncomputable def OM(a:L)(H:an):Option (L×an):=match a with
 | .int a=>J (.int a.natAbs,H)
 |_=>ac
def aaj(H:an)(o:bt):Option (L×an):=bt.casesOn (motive:=λ_=>Option (L×an)) o (λ_ _=>ac) (λl=>if bH l.length then(bR l).map (.bytes ·,H) else ac) (λ_=>ac) (λ_=>ac) (λ_=>ac) (λl=>if bH l.length then J (.bytes l,H) else ac) λ_=>ac
def G7(a:L)(H:an):Option (L×an):=L.casesOn (motive:=λ_=>Option (L×an)) a ac (λ_=>ac) (λn=>if 0<=n/\n<=65536 then J (.bytes (f9 n.toNat 0),H) else ac) (λl=>if bH l.length then J (.bytes l,H) else ac) (λ_=>ac) (λi=>H[i]?.bind (aaj H)) λ_=>ac
noncomputable def GX(a:L)(H:an):Option (L×an):=match a with
 | .int n=>if 0<=n/\n<=65536 then J (.new H.length,H++[.ba (f9 n.toNat 0)]) else ac
 | .bytes l=>if bH l.length then J (.new H.length,H++[.ba l]) else ac
 |_=>ac
noncomputable def K6(a:L)(H:an):Option (L×an):=match a with
 | .new i=>(listAt H i).bind λl=>if eo (l.length<=4000)&&l.all isInt then J (.new H.length,H++[.set (rV l [])]) else ac
 |_=>ac
noncomputable def JD(a:L)(H:an):Option (L×an):=match a with
 | .bytes l=>if bH l.length then J (.new H.length,H++[.list (l.map dh)]) else ac
 | .new i=>(listAt H i).bind λl=>if bH l.length then J (.new H.length,H++[.list l]) else ac
 |_=>ac
noncomputable def Je:L->Bool
 | .st (.type s)=>s=="int"
 |_=>aA
noncomputable def O3(f:aG)(a:L)(H:an):Option (L×an):=match f with
 | .builtin s=>if s="len" then JB a H else if s="abs" then OM a H else ac
 | .type s=>if s="bytes" then G7 a H else if s="bytearray" then GX a H else if s="set" then K6 a H else if s="list" then JD a H else ac
 |_=>ac
noncomputable def RG(s:String)(x:Int)(b:L)(H:an):Option (L×an):=match b with
 | .int y=>if s="min" then J (.int (if y<x then y else x),H) else if s="max" then J (.int (if x<y then y else x),H) else ac
 |_=>ac
noncomputable def O4(f:aG)(a b:L)(H:an):Option (L×an):=match f with
 | .builtin s=>(match a with
  | .int x=>if s="isinstance" then(if Je b then J (.bool ae,H) else ac) else RG s x b H
  |_=>ac)
 |_=>ac
noncomputable def cH(f:aG)(df:List L)(H:an):Option (L×an):=match df with
 | []=>(match f with
  | .type s=>if s="bytearray" then J (.new H.length,H++[.ba []]) else ac
  |_=>ac)
 |a::r=>match r with
  | []=>O3 f a H
  |b::r=>match r with
   | []=>O4 f a b H
   |_::_=>ac
def ty(v:L)(l:List L):Option Nat:=zt ac (λx _ r=>if x=v then J 0 else r.map (· +1)) l
theorem Ie{x:L}:ty v (x::l)=if x=v then J 0 else(ty v l).map (· +1):=rfl
noncomputable def oD(H:an)(v:L):Bool:=match v with
 | .new j=>match H[j]?with
  |J (.inst c _)=>c==539
  |_=>aA
 |_=>aA
noncomputable def lT(o:L)(n:Str)(df:List L)(H:an):Option (L×an):=match o with
 | .new i=>match H[i]?with
  |J (.list l)=>
   if n="append" then(match df with | [v]=>if bH l.length then(wr H i (.list (l++[v]))).map (L.none,·) else ac|_=>ac)
   else if n="remove" then(match df with
    | [.new j]=>if bH l.length&&l.all (oD H) then(ty (.new j) l).bind λk=>(wr H i (.list (l.eraseIdx k))).map (L.none,·) else ac
    |_=>ac)
   else ac
  |J (.dict l)=>
   if n="get" then(match df with
    | [k]=>if fX k then J ((dV l k).getD .none,H) else ac
    | [k,d]=>if fX k then J ((dV l k).getD d,H) else ac
    |_=>ac)
   else ac
  |J (.ba l)=>
   if n="extend" then(match df with | [.bytes x]=>if bH (l.length+x.length) then(wr H i (.ba (l++x))).map (L.none,·) else ac|_=>ac) else ac
  |_=>ac
 |_=>ac
end
variable {k v:L}{l:List L}
end Mine.Internal
end
noncomputable section
set_option tactic.hygienic true
open PySem PySem.W PyProof.Rows PySem.Calls
namespace Mine.Internal
def Ar:List (a1×cD):=[(104,bf 16),(111,bf 17),(118,bf 18),(125,bf 19),(132,bf 20),(147,aL 21 0),(154,aL 21 1),(161,aL 21 2),(168,aL 21 3),(175,aL 21 4),(182,aL 21 5),(189,aL 21 6),(210,aL 22 0),(222,aL 22 2),(229,aL 22 3),(250,aL 22 6),(257,aL 22 7),(264,aL 22 8),(271,aL 22 9),(299,aL 23 0),(306,aL 23 1),(320,aL 23 3),(335,aL 23 5),(363,aL 23 9),(370,aL 23 10),(377,aL 23 11),(384,aL 23 12),(398,aL 23 14),(419,aL 23 17),(426,aL 23 18),(433,aL 23 19),(459,aL 25 0),(466,aL 25 1),(473,aL 25 2),(501,aL 25 6),(508,aL 25 7),(557,aL 26 0),(564,aL 26 1),(571,aL 26 2),(578,aL 26 3),(585,aL 26 4),(592,aL 26 5),(599,aL 26 6),(606,aL 26 7),(613,aL 26 8),(620,aL 26 9),(627,aL 26 10),(634,aL 26 11),(676,aL 28 0),(683,aL 28 1),(690,aL 28 2),(697,aL 28 3),(704,aL 28 4),(718,aL 28 6),(763,bf 33),(778,aL 34 0),(785,aL 34 1),(792,aL 34 2),(799,aL 34 3),(806,aL 34 4),(813,aL 34 5),(820,aL 34 6),(827,aL 34 7),(834,aL 34 8),(841,aL 34 9),(848,aL 34 10),(874,bf 36),(881,bf 37),(886,bf 38),(891,bf 39),(898,bf 40),(903,bf 41),(910,bf 42),(922,bf 44),(927,bf 45)]
def r1(f:a1):Option cD:=Ar.lookup f
def HV:List (a1×List (Str×a1)):=[(539,[(pV,459),(z "is_free",466),(d2,473),(z "fill",501),(z "clear",508)]),(658,[(pV,557),(z "need_block",564),(z "need_held",571),(nX,578),(z "make_room",585),(oZ,592),(z "pin",599),(z "unpin",606),(mK,613),(q6,620),(z "peek",627),(z "poke",634)]),(754,[(pV,676),(z "need_power",683),(z "need_block",690),(z "read",697),(mK,704),(q6,718)]),(865,[(pV,778),(z "is_own",785),(yO,792),(z "left",799),(sB,806),(mK,813),(z "end",820),(z "commit",827),(z "fill_log",834),(z "write_head",841),(z "install",848)]),(192,[(pV,147),(z "most_blocks",154),(z "most_size",161),(z "words",168),(d2,175),(z "row_of",182),(z "bit_of",189)]),(281,[(pV,210),(z "take_row",222),(z "put_row",229),(mK,250),(z "truncate",257),(q8,264),(z "hold",271)]),(441,[(pV,299),(z "need_number",306),(nX,320),(q8,335),(z "take_block",363),(z "free_bit",370),(z "clear_block",377),(z "give_block",384),(z "block_of",398),(mK,419),(z "write_part",426),(z "truncate",433)])]
def qu(c:a1):List (Str×a1):=(HV.lookup c).getD []
def Iu:Loc:=([("BoardError",39),("BadArgument",52),("BadDisk",64),("NoRoom",76),("half_at",104),("word_at",111),("put_half",118),("put_word",125),("rounded_up",132),("Super",192),("Node",281),("Nodes",441),("Buffer",539),("Cache",658),("Disk",754),("packed_head",763),("Journal",865),("_law_octets",874),("_law_row",881),("_law_image",886),("_law_taken",891),("_law_put",898),("_law_due",903),("_law_deed",910),("_law_has_room",917),("_law_group_right",922),("law",927)]:List (String×Nat)).map (λx=>(z x.1,L.st (.ref x.2)))++([("MAGIC",270544960),("FREE",0),("FIRST_LOG",2),("DIRECT",12),("HEAD",12),("PIECE",16),("SUPER_WORDS",9),("MOST_A_PIECE",4),("NUMBER",4),("MOST_EACH",10),("SPARE",4)]:List (String×Int)).map (λx=>(z x.1,L.int x.2))++(["len","min","max","abs","isinstance"]:List String).map (λx=>(z x,L.st (.builtin x)))++(["range","bytes","bytearray","set","list","enumerate","int"]:List String).map λx=>(z x,L.st (.type x))
noncomputable abbrev ds:=List (Str×lI)
def hZ(ax:ds)(x:Str):Bool:=cy ax x==J .local ||cy ax x==J .cell
noncomputable def oJ(ax:ds)(m:Loc)(x:Str):Option L:=match cy ax x with
 |J .local |J .cell=>cy m x
 |J .globalImplicit=>cy Iu x
 |_=>ac
def gF(ax fZ:ds):ds:=fZ.map λp=>if p.2== .free&&cy ax p.1==J .cell then(p.1,.cell) else p
def ow(ax:ds)(m:Loc):Loc:=m.filter λp=>cy ax p.1==J .cell
def D0(t:aU):Option Str:=iP t ac (kName:=λx _=>J x)
noncomputable def JO(l:List aU):Option (Str×Str):=match l with
 | []=>ac
 |a::l=>match l with
  | []=>ac
  |b::l=>match l with
   | []=>(D0 a).bind λa=>(D0 b).map (a,·)
   |_::_=>ac
def PE(fZ:ds)(t:aU):Bool:=iP t aA
 (kName:=λx _=>cy fZ x==J .local)
 (kTuple:=λl _ _=>(JO l).any λn=>cy fZ n.1==J .local &&cy fZ n.2==J .local)
def z9(ax:ds)(sc:jA)(dq:aU):Bool:=sc.kind== .function&&PE sc.names dq&&eo (sc.names.map (·.1)).Nodup&&
 sc.names.all λp=>p.2== .local ||p.2== .globalImplicit||(p.2== .free&&cy ax p.1==J .cell)
noncomputable def HS:Const->Option L
 | .none=>J .none
 | .bool b=>J (.bool b)
 | .int i=>J (.int i)
 | .str s=>J (.str s)
 | .bytes b=>J (.bytes b)
 |_=>ac
noncomputable def eA:L->Option (Option Int)
 | .none=>J ac
 | .int i=>J (J i)
 |_=>ac
inductive l8 where
 |fn (f:a1) (self:List L)|cls (c f:a1)|bi (f:aG)|me (o:L) (n:Str)
noncomputable def bx(o:L)(n:Str)(H:an):Option l8:=match o with
 | .new i=>match H[i]?with
  |J (.inst c aN)=>match cy aN n with
   |ac=>(cy (qu c) n).map λf=>.fn f [o]
   |J _=>ac
  |J (.list _)=>if n="append"\/n="remove" then J (.me o n) else ac
  |J (.dict _)=>if n="get" then J (.me o n) else ac
  |J (.ba _)=>if n="extend" then J (.me o n) else ac
  |_=>ac
 |_=>ac
noncomputable def Tv(v:L):Option aG:=L.casesOn (motive:=λ_=>Option aG) v ac (λ_=>ac) (λ_=>ac) (λ_=>ac) (λ_=>ac) (λ_=>ac) J
noncomputable def refOf(v:aG):Option a1:=match v with
 | .ref a=>J a
 |_=>ac
def abE(v:aG)(o:Option a1):Option l8:=n9 (motive:=λ_=>Option l8) o (J (.bi v)) λa=>n9 (motive:=λ_=>Option l8) (cy (qu a) "__init__") (if a=917 then J (.fn a []) else(r1 a).bind λ_=>J (.fn a [])) λi=>J (.cls a i)
def HH(f:L):Option l8:=(Tv f).bind λv=>abE v (refOf v)
inductive kI where
 |items (l:List L)|lst (i:Nat)|enum (i:Nat)
inductive n3 where
 |one (v:L)|pair (a b:L)
noncomputable def qT(a b c:Int):List L:=(nn (((b - a+c - 1).fdiv c).toNat)).map λ(k:Nat)=>.int (a+c*(k:Int))
noncomputable def lV(l:List L):Option (List L):=match l with
 | []=>ac
 |a::l=>match l with
  | []=>(qI a).bind λb=>if cG b&&bH b.toNat then J (qT 0 b 1) else ac
  |b::l=>match l with
   | []=>(qI a).bind λa=>(qI b).bind λb=>if cG a&&cG b&&bH (b - a).toNat then J (qT a b 1) else ac
   |c::l=>match l with
    | []=>(qI a).bind λa=>(qI b).bind λb=>(qI c).bind λc=>if 0<c&&eo (c<1000000)&&cG a&&cG b&&bH (b - a).toNat then J (qT a b c) else ac
    |_::_=>ac
noncomputable def itemAt(s:kI)(k:Nat)(H:an):Option (Option n3):=match s with
 | .items l=>J (l[k]?.map .one)
 | .lst i=>match H[i]?with
  |J (.list l)=>J (l[k]?.map .one)
  |_=>ac
 | .enum i=>match H[i]?with
  |J (.list l)=>J (l[k]?.map (.pair (.int k)))
  |_=>ac
noncomputable def LQ(l:List L):Option (L×L):=match l with
 | []=>ac
 |a::l=>match l with
  | []=>ac
  |b::l=>match l with
   | []=>J (a,b)
   |_::_=>ac
noncomputable def Lj(o:Option bt):Option (L×L):=match o with
 |J (.tup l)=>LQ l
 |_=>ac
noncomputable def afX(it:n3):Option L:=match it with
 | .one v=>J v
 | .pair _ _=>ac
noncomputable def DG(it:n3)(H:an):Option (L×L):=match it with
 | .pair u v=>J (u,v)
 | .one v=>(A6 v).bind λj=>Lj H[j]?
def eu(ax:ds)(t:aU)(it:n3)(m:Loc)(H:an):Option Loc:=iP t ac
 (kName:=λx _=>(afX it).bind λv=>if hZ ax x then J (fA m x v) else ac)
 (kTuple:=λl _ _=>(JO l).bind λn=>(DG it H).bind λw=>if hZ ax n.1&&hZ ax n.2 then J (fA (fA m n.1 w.1) n.2 w.2) else ac)
section
variable {cr:Type}(aK:cr)(C:a1->List L->an->(L->an->cr)->cr)
noncomputable def gR(ax:ds)(dq:aU)(body:Loc->an->(jw->Loc->an->cr)->cr)(s:kI):Nat->Nat->Loc->an->(jw->Loc->an->cr)->cr
 |0,_,_,_,_=>aK
 |n+1,k,m,H,q=>match itemAt s k H with
  |ac=>aK
  |J ac=>q .next m H
  |J (J it)=>match eu ax dq it m H with
   |ac=>aK
   |J m=>body m H λdn m H=>match dn with
    | .next| .cont=>gR ax dq body s n (k+1) m H q
    | .brk=>q .next m H
    | .ret v=>q (.ret v) m H
noncomputable def l3(xG:Loc->an->(Bool->an->cr)->cr)(body:Loc->an->(jw->Loc->an->cr)->cr):Nat->Loc->an->(jw->Loc->an->cr)->cr
 |0,_,_,_=>aK
 |n+1,m,H,q=>xG m H λb H=>match b with
  |aA=>q .next m H
  |ae=>body m H λdn m H=>match dn with
   | .next| .cont=>l3 xG body n m H q
   | .brk=>q .next m H
   | .ret v=>q (.ret v) m H
noncomputable def jX(ax:ds)(dq:aU)(cond:Loc->an->(Bool->an->cr)->cr)(dW:Loc->an->(L->an->cr)->cr)(s:kI):Nat->Nat->Loc->an->List L->(List L->an->cr)->cr
 |0,_,_,_,_,_=>aK
 |n+1,k,m,H,acc,q=>match itemAt s k H with
  |ac=>aK
  |J ac=>q acc H
  |J (J it)=>match eu ax dq it m H with
   |ac=>aK
   |J m=>cond m H λb H=>match b with
    |ae=>dW m H λv H=>jX ax dq cond dW s n (k+1) m H (acc++[v]) q
    |aA=>jX ax dq cond dW s n (k+1) m H acc q
noncomputable def bB(c:l8)(vs:List L)(H:an)(k:L->an->cr):cr:=match c with
 | .fn f self=>C f (self++vs) H k
 | .cls c f=>C f (.new H.length::vs) (H++[.inst c []]) λv bb=>match v with
  | .none=>k (.new H.length) bb
  |_=>aK
 | .bi f=>match cH f vs H with
  |J (v,H)=>k v H
  |ac=>aK
 | .me o n=>match lT o n vs H with
  |J (v,H)=>k v H
  |ac=>aK
noncomputable def f6:Nat:=1000
noncomputable def zT:og->Bool
 | .Add| .Sub=>ae
 |_=>aA
noncomputable def Tz(o:Option aU):Option Str:=o.bind λe=>iP e ac (kConstant:=λc _ _=>match c with
 | .str a=>J a
 |_=>ac)
noncomputable def PT(ff:List (Option aU))(vs:List L)(H:an)(k:L->an->cr):cr:=match ff with
 | []=>match vs with
  | []=>k (.new H.length) (H++[.dict []])
  |_::_=>aK
 |a::ff=>match ff with
  | []=>aK
  |b::ff=>match ff with
   |_::_=>aK
   | []=>match vs with
    | []=>aK
    |u::vs=>match vs with
     | []=>aK
     |v::vs=>match vs with
      |_::_=>aK
      | []=>match Tz a with
       |ac=>aK
       |J a=>match Tz b with
        |ac=>aK
        |J b=>if a=b then aK else k (.new H.length) (H++[.dict [(.str a,u),(.str b,v)]])
noncomputable def qY(k:Bool->an->cr)(v:L)(H:an):cr:=match ky v with
 |J b=>k b H
 |ac=>aK
noncomputable def lstK(k:kI->an->cr)(v:L)(H:an):cr:=match listOf v H with
 |J i=>k (.lst i) H
 |ac=>aK
mutual
noncomputable def bO(e:aU)(ax:ds)(m:Loc)(H:an)(k:L->an->cr):cr:=match e with
 | .BoolOp bM vs _=>vZ vs bM ax m H k
 | .NamedExpr .. =>aK
 | .BinOp l bM r _=>bO l ax m H λa H=>bO r ax m H λb H=>match a5 bM a b H with
  |J (v,H)=>k v H
  |ac=>aK
 | .UnaryOp .. | .Lambda .. =>aK
 | .IfExp t a b _=>ge t (λH k=>bO t ax m H k) ax m H λc H=>match c with
  |ae=>bO a ax m H k
  |aA=>bO b ax m H k
 | .Dict ff vs _=>ju vs ax m H λvs H=>PT aK ff vs H k
 | .Set .. =>aK
 | .ListComp dW aI sc _=>match aI with
  | []=>aK
  |aB::aI=>match aI with
   |_::_=>aK
   | []=>match aB with
    |⟨dq,iter,eU,z⟩=>if z=0 then(if z9 ax sc dq then sv iter (λH k=>bO iter ax m H k) ax m H λs H=>jX aK (gF ax sc.names) dq (λm H q=>jb eU (gF ax sc.names) m H q) (λm H q=>bO dW (gF ax sc.names) m H q) s f6 0 (ow (gF ax sc.names) m) H [] λvs H=>k (.new H.length) (H++[.list vs]) else aK) else aK
 | .SetComp .. | .DictComp .. | .GeneratorExp .. | .Await .. | .Yield .. | .YieldFrom .. =>aK
 | .Compare l dX rs _=>if dX.length=rs.length then bO l ax m H λa H=>su rs dX a ax m H λb H=>k (.bool b) H else aK
 | .Call f df ff _=>match ff with
  |_::_=>aK
  | []=>ard f (λq=>bO f ax m H λv H=>q (HH v) H) ax m H λc H=>match c with
   |J c=>ju df ax m H λvs H=>bB aK C c vs H k
   |ac=>aK
 | .FormattedValue .. | .JoinedStr .. =>aK
 | .Constant c _ _=>match HS c with
  |J v=>k v H
  |ac=>aK
 | .Attribute o n _=>bO o ax m H λv H=>match aV v n H with
  |J v=>k v H
  |ac=>aK
 | .Subscript o i _=>bO o ax m H λv H=>v0 i (λH k=>bO i ax m H k) ax m H λix H=>match cj v ix H with
  |J (v,H)=>k v H
  |ac=>aK
 | .Starred .. =>aK
 | .Name x _=>match oJ ax m x with
  |J v=>k v H
  |ac=>aK
 | .List aH _=>ju aH ax m H λvs H=>if bH vs.length then k (.new H.length) (H++[.list vs]) else aK
 | .Tuple aH _ _=>ju aH ax m H λvs H=>if bH vs.length then k (.new H.length) (H++[.tup vs]) else aK
 | .Slice .. =>aK
noncomputable def ard(e:aU)(g0:(Option l8->an->cr)->cr)(ax:ds)(m:Loc)(H:an)(k:Option l8->an->cr):cr:=match e with
 | .BoolOp .. | .NamedExpr .. | .BinOp .. | .UnaryOp .. | .Lambda .. | .IfExp .. | .Dict .. | .Set .. | .ListComp .. | .SetComp .. | .DictComp .. | .GeneratorExp .. | .Await .. | .Yield .. | .YieldFrom .. | .Compare .. | .Call .. | .FormattedValue .. | .JoinedStr .. | .Constant .. =>g0 k
 | .Attribute o n _=>bO o ax m H λv H=>k (bx v n H) H
 | .Subscript .. | .Starred .. | .Name .. | .List .. | .Tuple .. | .Slice .. =>g0 k
noncomputable def ju:List aU->ds->Loc->an->(List L->an->cr)->cr
 | [],_,_,H,k=>k [] H
 |e::aH,ax,m,H,k=>bO e ax m H λv H=>ju aH ax m H λvs H=>k (v::vs) H
noncomputable def vZ:List aU->ww->ds->Loc->an->(L->an->cr)->cr
 | [],_,_,_,_,_=>aK
 |e::aH,bM,ax,m,H,k=>match aH with
  | []=>bO e ax m H k
  |_::_=>bO e ax m H λv H=>match ky v,bM with
   |J aA,.And=>k v H
   |J ae,.Or=>k v H
   |J _,_=>vZ aH bM ax m H k
   |ac,_=>aK
noncomputable def su:List aU->List CmpOp->L->ds->Loc->an->(Bool->an->cr)->cr
 | [],_,_,_,_,_,_=>aK
 |r::rs,dX,a,ax,m,H,k=>match dX with
  | []=>aK
  |bM::dX=>bO r ax m H λb H=>match bW bM a b H with
   |ac=>aK
   |J c=>match rs with
    | []=>match dX with
     | []=>k c H
     |_::_=>aK
    |_::_=>match dX with
     | []=>aK
     |_::_=>match c with
      |ae=>su rs dX b ax m H k
      |aA=>k aA H
noncomputable def ge(e:aU)(g0:an->(L->an->cr)->cr)(ax:ds)(m:Loc)(H:an)(k:Bool->an->cr):cr:=match e with
 | .BoolOp bM vs _=>vW vs bM ax m H k
 | .NamedExpr .. | .BinOp .. =>g0 H (qY aK k)
 | .UnaryOp bM x _=>match bM with
  | .Not=>ge x (λH k=>bO x ax m H k) ax m H λb H=>k (!b) H
  | .Invert=>g0 H (qY aK k)
  | .UAdd=>g0 H (qY aK k)
  | .USub=>g0 H (qY aK k)
 | .Lambda .. =>g0 H (qY aK k)
 | .IfExp .. =>aK
 | .Dict .. | .Set .. | .ListComp .. | .SetComp .. | .DictComp .. | .GeneratorExp .. | .Await .. | .Yield .. | .YieldFrom .. =>g0 H (qY aK k)
 | .Compare l dX rs _=>if dX.length=rs.length then bO l ax m H λa H=>su rs dX a ax m H k else aK
 | .Call .. | .FormattedValue .. | .JoinedStr .. | .Constant .. | .Attribute .. | .Subscript .. | .Starred .. | .Name .. | .List .. | .Tuple .. | .Slice .. =>g0 H (qY aK k)
noncomputable def vW:List aU->ww->ds->Loc->an->(Bool->an->cr)->cr
 | [],bM,_,_,H,k=>k (bM== .And) H
 |e::aH,bM,ax,m,H,k=>ge e (λH k=>bO e ax m H k) ax m H λb H=>match bM,b with
  | .And,aA=>k aA H
  | .Or,ae=>k ae H
  |_,_=>vW aH bM ax m H k
noncomputable def jb:List aU->ds->Loc->an->(Bool->an->cr)->cr
 | [],_,_,H,k=>k ae H
 |e::aH,ax,m,H,k=>ge e (λH k=>bO e ax m H k) ax m H λb H=>match b with
  |ae=>jb aH ax m H k
  |aA=>k aA H
noncomputable def v0(e:aU)(g0:an->(L->an->cr)->cr)(ax:ds)(m:Loc)(H:an)(k:nl->an->cr):cr:=match e with
 | .BoolOp .. | .NamedExpr .. | .BinOp .. | .UnaryOp .. | .Lambda .. | .IfExp .. | .Dict .. | .Set .. | .ListComp .. | .SetComp .. | .DictComp .. | .GeneratorExp .. | .Await .. | .Yield .. | .YieldFrom .. | .Compare .. | .Call .. | .FormattedValue .. | .JoinedStr .. | .Constant .. | .Attribute .. | .Subscript .. | .Starred .. | .Name .. | .List .. | .Tuple .. =>g0 H λv H=>k (.at_ v) H
 | .Slice a b c _=>match c with
  |ac=>v1 a ax m H λu H=>v1 b ax m H λv H=>match eA u,eA v with
   |J u,J v=>k (.sl u v) H
   |_,_=>aK
  |J _=>g0 H λv H=>k (.at_ v) H
noncomputable def v1:Option aU->ds->Loc->an->(L->an->cr)->cr
 |ac,_,_,H,k=>k .none H
 |J e,ax,m,H,k=>bO e ax m H k
noncomputable def sv(e:aU)(g0:an->(L->an->cr)->cr)(ax:ds)(m:Loc)(H:an)(k:kI->an->cr):cr:=match e with
 | .BoolOp .. | .NamedExpr .. | .BinOp .. | .UnaryOp .. | .Lambda .. | .IfExp .. | .Dict .. | .Set .. | .ListComp .. | .SetComp .. | .DictComp .. | .GeneratorExp .. | .Await .. | .Yield .. | .YieldFrom .. | .Compare .. =>g0 H (lstK aK k)
 | .Call f df ff _=>match ff with
  |_::_=>g0 H (lstK aK k)
  | []=>match f with
   | .BoolOp .. | .NamedExpr .. | .BinOp .. | .UnaryOp .. | .Lambda .. | .IfExp .. | .Dict .. | .Set .. | .ListComp .. | .SetComp .. | .DictComp .. | .GeneratorExp .. | .Await .. | .Yield .. | .YieldFrom .. | .Compare .. | .Call .. | .FormattedValue .. | .JoinedStr .. | .Constant .. | .Attribute .. | .Subscript .. | .Starred .. =>g0 H (lstK aK k)
   | .Name f _=>if oJ ax m f=J (.st (.type "range")) then ju df ax m H λvs H=>match lV vs with
     |J l=>k (.items l) H
     |ac=>aK
    else if oJ ax m f=J (.st (.type "enumerate")) then ju df ax m H λvs H=>match(Kf vs).bind λv=>listOf v H with
     |J i=>k (.enum i) H
     |ac=>aK
    else aK
   | .List .. | .Tuple .. | .Slice .. =>g0 H (lstK aK k)
 | .FormattedValue .. | .JoinedStr .. | .Constant .. | .Attribute .. | .Subscript .. | .Starred .. | .Name .. | .List .. | .Tuple .. | .Slice .. =>g0 H (lstK aK k)
noncomputable def sr(e:aU)(v:L)(ax:ds)(m:Loc)(H:an)(k:Loc->an->cr):cr:=match e with
 | .BoolOp .. | .NamedExpr .. | .BinOp .. | .UnaryOp .. | .Lambda .. | .IfExp .. | .Dict .. | .Set .. | .ListComp .. | .SetComp .. | .DictComp .. | .GeneratorExp .. | .Await .. | .Yield .. | .YieldFrom .. | .Compare .. | .Call .. | .FormattedValue .. | .JoinedStr .. | .Constant .. =>aK
 | .Attribute o n _=>bO o ax m H λeM H=>match ft eM n v H with
  |J H=>k m H
  |ac=>aK
 | .Subscript o i _=>bO o ax m H λeM H=>v0 i (λH k=>bO i ax m H k) ax m H λix H=>match fS eM ix v H with
  |J H=>k m H
  |ac=>aK
 | .Starred .. =>aK
 | .Name x _=>if hZ ax x then k (fA m x v) H else aK
 | .List .. =>aK
 | .Tuple aH _ _=>match v with
  | .new j=>match H[j]?with
   |J (.tup l)=>if l.length=aH.length then vY aH l ax m H k else aK
   |_=>aK
  |_=>aK
 | .Slice .. =>aK
noncomputable def vY:List aU->List L->ds->Loc->an->(Loc->an->cr)->cr
 | [],_,_,m,H,k=>k m H
 |e::aH,vs,ax,m,H,k=>match vs with
  | []=>aK
  |v::vs=>sr e v ax m H λm H=>vY aH vs ax m H k
noncomputable def L1(e:aU)(ax:ds)(m:Loc)(H:an)(k:an->cr):cr:=match e with
 | .BoolOp .. | .NamedExpr .. | .BinOp .. | .UnaryOp .. | .Lambda .. | .IfExp .. | .Dict .. | .Set .. | .ListComp .. | .SetComp .. | .DictComp .. | .GeneratorExp .. | .Await .. | .Yield .. | .YieldFrom .. | .Compare .. | .Call .. | .FormattedValue .. | .JoinedStr .. | .Constant .. | .Attribute .. =>aK
 | .Subscript o i _=>bO o ax m H λeM H=>bO i ax m H λtM H=>match pt eM tM H with
  |J H=>k H
  |ac=>aK
 | .Starred .. | .Name .. | .List .. | .Tuple .. | .Slice .. =>aK
noncomputable def wpS(s:cD)(ax:ds)(m:Loc)(H:an)(k:jw->Loc->an->cr):cr:=match s with
 | .FunctionDef .. | .AsyncFunctionDef .. | .ClassDef .. =>aK
 | .Return o _=>match o with
  |ac=>k (.ret .none) m H
  |J e=>bO e ax m H λv H=>k (.ret v) m H
 | .Delete h1 _=>match h1 with
  | []=>aK
  |t::h1=>match h1 with
   |_::_=>aK
   | []=>L1 t ax m H λH=>k .next m H
 | .Assign h1 e _=>match h1 with
  | []=>aK
  |t::h1=>match h1 with
   |_::_=>aK
   | []=>bO e ax m H λv H=>sr t v ax m H λm H=>k .next m H
 | .TypeAlias .. =>aK
 | .AugAssign t bM e _=>match t with
  | .BoolOp .. | .NamedExpr .. | .BinOp .. | .UnaryOp .. | .Lambda .. | .IfExp .. | .Dict .. | .Set .. | .ListComp .. | .SetComp .. | .DictComp .. | .GeneratorExp .. | .Await .. | .Yield .. | .YieldFrom .. | .Compare .. | .Call .. | .FormattedValue .. | .JoinedStr .. | .Constant .. =>aK
  | .Attribute o n _=>bO o ax m H λeM H=>match aV eM n H with
   |ac=>aK
   |J a=>bO e ax m H λb H=>match a5 bM a b H with
    |J (v,H)=>if isInt a&&isInt b then(if zT bM then match ft eM n v H with
     |J H=>k .next m H
     |ac=>aK else aK) else aK
    |ac=>aK
  | .Subscript .. | .Starred .. =>aK
  | .Name x _=>match oJ ax m x with
   |ac=>aK
   |J a=>bO e ax m H λb H=>match a5 bM a b H with
    |J (v,H)=>if isInt a&&isInt b then(if zT bM&&hZ ax x then k .next (fA m x v) H else aK) else aK
    |ac=>aK
  | .List .. | .Tuple .. | .Slice .. =>aK
 | .AnnAssign .. =>aK
 | .For t it a l _=>match l with
  |_::_=>aK
  | []=>sv it (λH k=>bO it ax m H k) ax m H λs H=>gR aK ax t (λm H q=>b1 a ax m H q) s f6 0 m H k
 | .AsyncFor .. =>aK
 | .While t a l _=>match l with
  |_::_=>aK
  | []=>l3 aK (λm H q=>ge t (λH k=>bO t ax m H k) ax m H q) (λm H q=>b1 a ax m H q) f6 m H k
 | .If t a b _=>ge t (λH k=>bO t ax m H k) ax m H λc H=>match c with
  |ae=>b1 a ax m H k
  |aA=>b1 b ax m H k
 | .With .. | .AsyncWith .. | .Match .. | .Raise .. =>aK
 | .Try a _ l f _=>match l with
  |_::_=>aK
  | []=>match f with
   |_::_=>aK
   | []=>b1 a ax m H k
 | .TryStar .. | .Assert .. | .Import .. | .ImportFrom .. | .Global .. | .Nonlocal .. =>aK
 | .Expr e _=>bO e ax m H λ_ H=>k .next m H
 | .Pass _=>k .next m H
 | .Break _=>k .brk m H
 | .Continue .. =>aK
noncomputable def b1:List cD->ds->Loc->an->(jw->Loc->an->cr)->cr
 | [],_,m,H,k=>k .next m H
 |s::ss,ax,m,H,k=>wpS s ax m H λdn m H=>match dn with
  | .next=>b1 ss ax m H k
  |dn=>k dn m H
end
noncomputable def D8:jw->L
 | .ret v=>v
 |_=>.none
noncomputable def tm(f:a1)(vs:List L)(H:an)(k:L->an->cr):cr:=match r1 f with
 |ac=>aK
 |J st=>if vs.length=(fF st).args.length then b1 aK C (aW st) (dO st).names (((fF st).args.map (·.arg)).zip vs) H λdn _ H=>k (D8 dn) H else aK
end
def xA(H:an)(v:L):Option Bool:=(A6 v).bind λj=>(H[j]?).bind λo=>(QV o).bind λp=>
 ((cy p.2 "numbers").bind A6).bind λl=>((cy p.2 "calls").bind qI).bind λc=>((cy p.2 "each").bind qI).bind λe=>((cy p.2 "most").bind qI).bind λoI=>(listAt H l).bind λeW=>
 J (kG p.1 865&&((cy p.2 "begin").isNone&&((cy p.2 "has_room").isNone&&(bH eW.length&&(cG (c+1)&&(cG e&&eo (oI<eW.length+(c+1)*e)))))))
def Bj{cr:Type}(aK:cr)(vs:List L)(H:an)(k:L->an->cr):cr:=cond (kG vs.length 1&&(vs[0]?.bind (xA H)).getD aA) (k (.bool aA) H) aK
noncomputable def Ea{cr:Type}(aK:cr):Nat->a1->List L->an->(L->an->cr)->cr
 |0,_,_,_,_=>aK
 |n+1,f,vs,H,k=>if f=917 then Bj aK vs H k else tm aK (Ea aK n) f vs H k
theorem adL{cr:Type}{aK:cr}{ax:ds}{dq:aU}{body:Loc->an->(jw->Loc->an->cr)->cr}{s:kI}{n k:Nat}{m:Loc}{H:an}{q:jw->Loc->an->cr}:gR aK ax dq body s (n+1) k m H q=(match itemAt s k H with
 |ac=>aK
 |J ac=>q .next m H
 |J (J it)=>match eu ax dq it m H with
  |ac=>aK
  |J m=>body m H λdn m H=>match dn with
   | .next| .cont=>gR aK ax dq body s n (k+1) m H q
   | .brk=>q .next m H
   | .ret v=>q (.ret v) m H):=rfl
theorem abZ{cr:Type}{aK:cr}{ax:ds}{dq:aU}{cond:Loc->an->(Bool->an->cr)->cr}{dW:Loc->an->(L->an->cr)->cr}{s:kI}{n k:Nat}{m:Loc}{H:an}{acc:List L}{q:List L->an->cr}:jX aK ax dq cond dW s (n+1) k m H acc q=(match itemAt s k H with
 |ac=>aK
 |J ac=>q acc H
 |J (J it)=>match eu ax dq it m H with
  |ac=>aK
  |J m=>cond m H λb H=>match b with
   |ae=>dW m H λv H=>jX aK ax dq cond dW s n (k+1) m H (acc++[v]) q
   |aA=>jX aK ax dq cond dW s n (k+1) m H acc q):=rfl
section
variable {cr:Type}{aK:cr}{C:a1->List L->an->(L->an->cr)->cr}
theorem aq5{aM a7 q3 iF c H k}:bO aK C (.Constant c aM a7) q3 iF H k=(match HS c with
 |J v=>k v H
 |ac=>aK):=by rfl
theorem aq8{aM x ax m H k}:bO aK C (.Name x aM) ax m H k=(match oJ ax m x with
 |J v=>k v H
 |ac=>aK):=by rfl
theorem aq2{aM l bM r ax m H k}:bO aK C (.BinOp l bM r aM) ax m H k=(bO aK C l ax m H λa H=>bO aK C r ax m H λb H=>match a5 bM a b H with
 |J (v,H)=>k v H
 |ac=>aK):=by rfl
theorem aq3{aM bM vs ax m H k}:bO aK C (.BoolOp bM vs aM) ax m H k=(vZ aK C vs bM ax m H k):=by rfl
theorem aq6{aM t a b ax m H k}:bO aK C (.IfExp t a b aM) ax m H k=(ge aK C t (λH k=>bO aK C t ax m H k) ax m H λc H=>match c with
 |ae=>bO aK C a ax m H k
 |aA=>bO aK C b ax m H k):=by rfl
theorem aq4{aM l dX rs ax m H k}:bO aK C (.Compare l dX rs aM) ax m H k=(if dX.length=rs.length then bO aK C l ax m H λa H=>su aK C rs dX a ax m H λb H=>k (.bool b) H else aK):=by rfl
theorem aq1{aM o n ax m H k}:bO aK C (.Attribute o n aM) ax m H k=(bO aK C o ax m H λv H=>match aV v n H with
 |J v=>k v H
 |ac=>aK):=by rfl
theorem aq9{aM o i ax m H k}:bO aK C (.Subscript o i aM) ax m H k=(bO aK C o ax m H λv H=>v0 aK C i (λH k=>bO aK C i ax m H k) ax m H λix H=>match cj v ix H with
 |J (v,H)=>k v H
 |ac=>aK):=by rfl
theorem aq7{aM aH ax m H k}:bO aK C (.List aH aM) ax m H k=(ju aK C aH ax m H λvs H=>if bH vs.length then k (.new H.length) (H++[.list vs]) else aK):=by rfl
theorem ara{aM a7 aH ax m H k}:bO aK C (.Tuple aH aM a7) ax m H k=(ju aK C aH ax m H λvs H=>if bH vs.length then k (.new H.length) (H++[.tup vs]) else aK):=by rfl
theorem T8{aM ff vs ax m H k}:bO aK C (.Dict ff vs aM) ax m H k=(ju aK C vs ax m H λvs H=>PT aK ff vs H k):=by rfl
theorem L2{aM dW dq iter eU sc ax m H k}:bO aK C (.ListComp dW [⟨dq,iter,eU,0⟩] sc aM) ax m H k=(
 if z9 ax sc dq then sv aK C iter (λH k=>bO aK C iter ax m H k) ax m H λs H=>jX aK (gF ax sc.names) dq (λm H q=>jb aK C eU (gF ax sc.names) m H q) (λm H q=>bO aK C dW (gF ax sc.names) m H q) s f6 0 (ow (gF ax sc.names) m) H [] λvs H=>k (.new H.length) (H++[.list vs]) else aK):=by rfl
theorem as7{aM a7 o n df ax m H k}:bO aK C (.Call (.Attribute o n aM) df [] a7) ax m H k=(bO aK C o ax m H λeM H=>match bx eM n H with
 |J c=>ju aK C df ax m H λvs H=>bB aK C c vs H k
 |ac=>aK):=by rfl
theorem T9{aM a7 H k}:ju aK C [] aM a7 H k=(k [] H):=by rfl
theorem arc{e aH ax m H k}:ju aK C (e::aH) ax m H k=(bO aK C e ax m H λv H=>ju aK C aH ax m H λvs H=>k (v::vs) H):=by rfl
theorem aqY{aM a7 q3 iF vC}:vZ aK C [] aM a7 q3 iF vC=(aK):=by rfl
theorem T6{e aH bM ax m H k}:vZ aK C (e::aH) bM ax m H k=(match aH with
 | []=>bO aK C e ax m H k
 |_::_=>bO aK C e ax m H λv H=>match ky v,bM with
  |J aA,.And=>k v H
  |J ae,.Or=>k v H
  |J _,_=>vZ aK C aH bM ax m H k
  |ac,_=>aK):=by rfl
theorem aqZ{aM a7 q3 iF vC Be}:su aK C [] aM a7 q3 iF vC Be=(aK):=by rfl
theorem T7{r rs dX a ax m H k}:su aK C (r::rs) dX a ax m H k=(match dX with
 | []=>aK
 |bM::dX=>bO aK C r ax m H λb H=>match bW bM a b H with
  |ac=>aK
  |J c=>match rs with
   | []=>match dX with
    | []=>k c H
    |_::_=>aK
   |_::_=>match dX with
    | []=>aK
    |_::_=>match c with
     |ae=>su aK C rs dX b ax m H k
     |aA=>k aA H):=by rfl
theorem arB{aM a7 x ax m H k}:ge aK C (.UnaryOp .Not x aM) a7 ax m H k=(ge aK C x (λH k=>bO aK C x ax m H k) ax m H λb H=>k (!b) H):=by rfl
theorem arz{aM a7 bM vs ax m H k}:ge aK C (.BoolOp bM vs aM) a7 ax m H k=(vW aK C vs bM ax m H k):=by rfl
theorem arA{aM a7 l dX rs ax m H k}:ge aK C (.Compare l dX rs aM) a7 ax m H k=(if dX.length=rs.length then bO aK C l ax m H λa H=>su aK C rs dX a ax m H k else aK):=by rfl
theorem aqQ{aM a7 bM H k}:vW aK C [] bM aM a7 H k=(k (bM== .And) H):=by rfl
theorem aqP{e aH bM ax m H k}:vW aK C (e::aH) bM ax m H k=(ge aK C e (λH k=>bO aK C e ax m H k) ax m H λb H=>match bM,b with
 | .And,aA=>k aA H
 | .Or,ae=>k ae H
 |_,_=>vW aK C aH bM ax m H k):=by rfl
theorem ari{aM a7 H k}:jb aK C [] aM a7 H k=(k ae H):=by rfl
theorem arh{e aH ax m H k}:jb aK C (e::aH) ax m H k=(ge aK C e (λH k=>bO aK C e ax m H k) ax m H λb H=>match b with
 |ae=>jb aK C aH ax m H k
 |aA=>k aA H):=by rfl
theorem are{aM a7 a b ax m H k}:v0 aK C (.Slice a b ac aM) a7 ax m H k=(v1 aK C a ax m H λu H=>v1 aK C b ax m H λv H=>match eA u,eA v with
 |J u,J v=>k (.sl u v) H
 |_,_=>aK):=by rfl
theorem arj{aM a7 H k}:v1 aK C ac aM a7 H k=(k .none H):=by rfl
theorem ark{e ax m H k}:v1 aK C (J e) ax m H k=(bO aK C e ax m H k):=by rfl
theorem arl{aM a7 q3 f df ax m H k}:sv aK C (.Call (.Name f aM) df [] a7) q3 ax m H k=(if oJ ax m f=J (.st (.type "range")) then ju aK C df ax m H λvs H=>match lV vs with
  |J l=>k (.items l) H
  |ac=>aK
 else if oJ ax m f=J (.st (.type "enumerate")) then ju aK C df ax m H λvs H=>match(Kf vs).bind λv=>listOf v H with
  |J i=>k (.enum i) H
  |ac=>aK
 else aK):=by rfl
theorem LZ{aM x v ax m H k}:sr aK C (.Name x aM) v ax m H k=(if hZ ax x then k (fA m x v) H else aK):=by rfl
theorem aqW{aM o n v ax m H k}:sr aK C (.Attribute o n aM) v ax m H k=(bO aK C o ax m H λeM H=>match ft eM n v H with
 |J H=>k m H
 |ac=>aK):=by rfl
theorem aqX{aM o i v ax m H k}:sr aK C (.Subscript o i aM) v ax m H k=(bO aK C o ax m H λeM H=>v0 aK C i (λH k=>bO aK C i ax m H k) ax m H λix H=>match fS eM ix v H with
 |J H=>k m H
 |ac=>aK):=by rfl
theorem T4{aM a7 aH v ax m H k}:sr aK C (.Tuple aH aM a7) v ax m H k=(match v with
 | .new j=>match H[j]?with
  |J (.tup l)=>if l.length=aH.length then vY aK C aH l ax m H k else aK
  |_=>aK
 |_=>aK):=by rfl
theorem T5{aM a7 m H k}:vY aK C [] aM a7 m H k=(k m H):=by rfl
theorem L0{e aH vs ax m H k}:vY aK C (e::aH) vs ax m H k=(match vs with
 | []=>aK
 |v::vs=>sr aK C e v ax m H λm H=>vY aK C aH vs ax m H k):=by rfl
theorem aq0{aM o i ax m H k}:L1 aK C (.Subscript o i aM) ax m H k=(bO aK C o ax m H λeM H=>bO aK C i ax m H λtM H=>match pt eM tM H with
 |J H=>k H
 |ac=>aK):=by rfl
theorem arr{aM e ax m H k}:wpS aK C (.Expr e aM) ax m H k=(bO aK C e ax m H λ_ H=>k .next m H):=by rfl
theorem aru{aM a7 m H k}:wpS aK C (.Pass aM) a7 m H k=(k .next m H):=by rfl
theorem arp{aM a7 m H k}:wpS aK C (.Break aM) a7 m H k=(k .brk m H):=by rfl
theorem arv{aM a7 m H k}:wpS aK C (.Return ac aM) a7 m H k=(k (.ret .none) m H):=by rfl
theorem arw{aM e ax m H k}:wpS aK C (.Return (J e) aM) ax m H k=(bO aK C e ax m H λv H=>k (.ret v) m H):=by rfl
theorem L3{aM t e ax m H k}:wpS aK C (.Assign [t] e aM) ax m H k=(bO aK C e ax m H λv H=>sr aK C t v ax m H λm H=>k .next m H):=by rfl
theorem arn{aM a7 x bM e ax m H k}:wpS aK C (.AugAssign (.Name x aM) bM e a7) ax m H k=(match oJ ax m x with
 |ac=>aK
 |J a=>bO aK C e ax m H λb H=>match a5 bM a b H with
  |J (v,H)=>if isInt a&&isInt b then(if zT bM&&hZ ax x then k .next (fA m x v) H else aK) else aK
  |ac=>aK):=by rfl
theorem aro{aM a7 o n bM e ax m H k}:wpS aK C (.AugAssign (.Attribute o n aM) bM e a7) ax m H k=(bO aK C o ax m H λeM H=>match aV eM n H with
 |ac=>aK
 |J a=>bO aK C e ax m H λb H=>match a5 bM a b H with
  |J (v,H)=>if isInt a&&isInt b then(if zT bM then match ft eM n v H with
   |J H=>k .next m H
   |ac=>aK else aK) else aK
  |ac=>aK):=by rfl
theorem arq{aM t ax m H k}:wpS aK C (.Delete [t] aM) ax m H k=(L1 aK C t ax m H λH=>k .next m H):=by rfl
theorem art{aM t a b ax m H k}:wpS aK C (.If t a b aM) ax m H k=(ge aK C t (λH k=>bO aK C t ax m H k) ax m H λc H=>match c with
 |ae=>b1 aK C a ax m H k
 |aA=>b1 aK C b ax m H k):=by rfl
theorem Ua{aM t a ax m H k}:wpS aK C (.While t a [] aM) ax m H k=(l3 aK (λm H q=>ge aK C t (λH k=>bO aK C t ax m H k) ax m H q) (λm H q=>b1 aK C a ax m H q) f6 m H k):=by rfl
theorem ars{aM t it a ax m H k}:wpS aK C (.For t it a [] aM) ax m H k=(sv aK C it (λH k=>bO aK C it ax m H k) ax m H λs H=>gR aK ax t (λm H q=>b1 aK C a ax m H q) s f6 0 m H k):=by rfl
theorem arx{aM a7 a ax m H k}:wpS aK C (.Try a aM [] [] a7) ax m H k=(b1 aK C a ax m H k):=by rfl
theorem ary{aM m H k}:b1 aK C [] aM m H k=(k .next m H):=by rfl
theorem Ub{s ss ax m H k}:b1 aK C (s::ss) ax m H k=(wpS aK C s ax m H λdn m H=>match dn with
 | .next=>b1 aK C ss ax m H k
 |dn=>k dn m H):=by rfl
end
end Mine.Internal
end
noncomputable section
open PySem PySem.W PyProof.Rows PySem.Calls
open Sem (wp)
namespace Mine.Internal
section
variable {prog:uG}{w:eS}{A:k4}{E:aG->cs->Prop}{s:cs}
theorem vP{h:bq}{a:a1}{f:Obj->Obj}{o o':Obj}:h.objs.size<=(((h.update a f).push o).push o').objs.size:=by
 refine G (ib ..) (G (ib ..) (G (qf ..) ?_));lia
theorem apM{h:bq}{o o':Obj}:h.objs.size<=((h.push o).push o').objs.size:=by
 refine G (ib ..) (G (ib ..) ?_);lia
theorem ah6{it l:a1}{i:Nat}{items}{Q:Option aG->cs->Prop}(a6:A.handled=ac)
  (iC:s.heap.IsListIter it l i) (aQ:s.heap.IsList l items) (aO:items[i]? =ac)
  (jG:∀av,zy it s.heap av->s.heap.objs.size<=av.objs.size->Q ac {s with heap:=av}):cN (di prog w) A (pyNext (.ref it)) Q E s:=by
 refine kS (id iC) λo aR aD bA=>?_
 refine Mn aQ λSA AJ _ cO AC=>?_
 refine b4 (zJ (uK (name:=oh "__next__") iC.typeIs Gy
  (qn Gy iC.typeIs entry_listiter_next ?_ (args_listiter_next _))))
 show cN _ _ (rF (.ref it) 0>>=_) _ _ s
 refine bN (λ_=>mi aR bA (x:=.ref l) rfl) (jt (show¬((lK l==s1)=ae) from t7) (bN (λ_=>mi aR bA (x:=.int i 0) rfl) (bN (λ_=>GD AJ AC) ?_)))
 simp only [h8,aO];refine bN (λ_=>rJ) (bN (λ_=>GF aR bA (by simp)) ?_)
 refine b4 (b4 (qo ?_ (by size_fits)))
 refine b4 (m:=uI _ _) (hG (a:=s1) (by first |rfl|(simp only [uI];rfl)) ?_)
 refine qo ?_ (by size_fits)
 refine bN (λ_=>Gz) (G (show A.in1.handled=ac from a6) (bN (λ_=>cK) (GH ?_)))
 refine b4 (s8 (T:="StopIteration") (b:=ae) ⟨_,hU _ rfl,rfl⟩ Gv ?_);exact cK (jG _ (((NG ..).extBut.push _).push _) vP)
theorem ah4{it l:a1}{i:Nat}{items}{Q:aG->cs->Prop}(a6:A.handled=ac)
  (iC:s.heap.IsListIter it l i) (aQ:s.heap.IsList l items) (aO:items[i]? =ac)
  (tB:∀av e,zy it s.heap av->s.heap.objs.size<=av.objs.size->(∃o,av.get? e=J o/\o.cls=.type "StopIteration")->E (.ref e) {s with heap:=av}):
  cN (di prog w) A (Builtin.SmallTypes.nextOf (.ref it)) Q E s:=by
 refine kS (id iC) λo aR aD bA=>?_
 refine Mn aQ λSA AJ _ cO AC=>?_
 refine b4 (uK (name:=oh "__next__") iC.typeIs Gy
  (qn Gy iC.typeIs entry_listiter_next ?_ (args_listiter_next _)))
 show cN _ _ (rF (.ref it) 0>>=_) _ _ s
 refine bN (λ_=>mi aR bA (x:=.ref l) rfl) (jt (show¬((lK l==s1)=ae) from t7) (bN (λ_=>mi aR bA (x:=.int i 0) rfl) (bN (λ_=>GD AJ AC) ?_)))
 simp only [h8,aO];refine bN (λ_=>rJ) (bN (λ_=>GF aR bA (by simp)) ?_)
 refine b4 (b4 (qo ?_ (by size_fits)))
 refine b4 (m:=uI _ _) (hG (a:=s1) (by first |rfl|(simp only [uI];rfl)) ?_)
 refine qo ?_ (by size_fits)
 refine bN (λ_=>Gz) ?_
 first |(refine G (show A.in1.handled=ac from a6) ?_)|(refine G a6 ?_;try(with_reducible rfl))
 refine b4 (cK (GH ?_));exact tB _ _ (((NG ..).extBut.push _).push _) vP ⟨_,hU _ rfl,rfl⟩
theorem ah5{e it l:a1}{i:Nat}{items:Array aG}{nI:aG}{Q:Option aG->cs->Prop}(a6:A.handled=ac)
  (bl:IsEnum s.heap e it i nI) (iC:s.heap.IsListIter it l i) (aQ:s.heap.IsList l items) (aO:items[i]? =ac)
  (jG:∀av,zy it s.heap av->s.heap.objs.size<=av.objs.size->Q ac {s with heap:=av}):cN (di prog w) A (pyNext (.ref e)) Q E s:=by
 have gm:s.TypeIs (.ref e) "enumerate":=⟨_,bl,rfl⟩;refine b4 (zJ (uK (name:=oh "__next__") gm F.slot_enumerate_next
  (qn F.slot_enumerate_next gm F.entry_enumerate_next ?_ (F.args_enumerate_next_1 _))))
 show cN _ _ (rF (.ref e) 2>>=_) _ _ _
 refine bN (λ_=>mi bl rfl (x:=.ref it) rfl) (b4 (ah4 a6 iC aQ aO λav x ve hj Dz=>?_))
 refine bT Dz λo aR aD=>?_;clear Dz
 exact bN (λ_=>s8 (T:="StopIteration") (b:=ae) ⟨o,aR,aD⟩ Gv) (cK (jG _ ve hj))
theorem ah7{it:a1}{x vv step:Int}{Q:Option aG->cs->Prop}(a6:A.handled=ac)(iC:IsRangeIter s.heap it x vv step)(ae4:vv<=0)
  (jG:∀av,zy it s.heap av->s.heap.objs.size<=av.objs.size->Q ac {s with heap:=av}):cN (di prog w) A (pyNext (.ref it)) Q E s:=by
 have gm:s.TypeIs (.ref it) "range_iterator":=⟨_,iC,rfl⟩;refine b4 (zJ (uK (name:=oh "__next__") gm F.slot_range_iterator_next
  (qn F.slot_range_iterator_next gm F.entry_range_iterator_next ?_ (F.args_range_iterator_next_1 _))))
 show cN _ _ (rF (.ref it) 0>>=_) _ _ s
 refine bN (λ_=>mi iC rfl (x:=rH x) rfl) (bN (λ_=>mi iC rfl (x:=rH vv) rfl) (bN (λ_=>mi iC rfl (x:=rH step) rfl) ?_))
 show cN _ _ (if vv<=0 then _ else _) _ _ s
 refine yM ae4 (bN (λ_=>rJ) (b4 (b4 (b4 (qo ?_ (by size_fits))))))
 refine b4 (m:=uI _ _) (hG (a:=s1) (by first |rfl|(simp only [uI];rfl)) ?_)
 refine qo ?_ (by size_fits)
 refine bN (λ_=>Gz) ?_
 first |(refine G (show A.in1.handled=ac from a6) ?_)|(refine G a6 ?_;try(with_reducible rfl))
 refine bN (λ_=>cK) (GH ?_)
 refine b4 (s8 (T:="StopIteration") (b:=ae) ⟨_,hU _ rfl,rfl⟩ Gv ?_);exact cK (jG _ (((Heap.ExtBut.refl it s.heap).push _).push _) apM)
theorem next_tuple_end{it t:a1}{i:Nat}{items}{Q:Option aG->cs->Prop}(a6:A.handled=ac)
  (iC:s.heap.IsTupleIter it t i) (ce:s.heap.IsTuple t items) (aO:items[i]? =ac)
  (jG:∀av,zy it s.heap av->s.heap.objs.size<=av.objs.size->Q ac {s with heap:=av}):cN (di prog w) A (pyNext (.ref it)) Q E s:=by
 refine kS (id iC) λo aR aD bA=>?_
 refine Mn ce λSA AJ _ cO AC=>?_
 refine b4 (zJ (uK (name:=oh "__next__") iC.typeIs F.slot_tuple_iterator_next
  (qn F.slot_tuple_iterator_next iC.typeIs F.entry_tuple_iterator_next ?_ (F.args_tuple_iterator_next_1 _))))
 show cN _ _ (rF (.ref it) 0>>=_) _ _ s
 refine bN (λ_=>mi aR bA (x:=.ref t) rfl) (jt (show¬((lK t==s1)=ae) from t7) (bN (λ_=>mi aR bA (x:=.int i 0) rfl) (bN (λ_=>GD AJ AC) ?_)))
 simp only [h8,aO];refine bN (λ_=>rJ) (bN (λ_=>GF aR bA (by simp)) ?_)
 refine b4 (b4 (qo ?_ (by size_fits)))
 refine b4 (m:=uI _ _) (hG (a:=s1) (by first |rfl|(simp only [uI];rfl)) ?_)
 refine qo ?_ (by size_fits)
 refine bN (λ_=>Gz) ?_
 first |(refine G (show A.in1.handled=ac from a6) ?_)|(refine G a6 ?_;try(with_reducible rfl))
 refine bN (λ_=>cK) (GH ?_)
 refine b4 (s8 (T:="StopIteration") (b:=ae) ⟨_,hU _ rfl,rfl⟩ Gv ?_);exact cK (jG _ (((NG ..).extBut.push _).push _) vP)
theorem unpack_tuple{t:a1}{items:Array aG}{Q:List aG->cs->Prop}(a6:A.handled=ac)(ce:s.heap.IsTuple t items)
  (jG:∀av,(∀b o,s.heap.get? b=J o->av.get? b=J o)->s.heap.objs.size<=av.objs.size->Q items.toList {s with heap:=av}):cN (di prog w) A (CF (.ref t) items.size ac) Q E s:=by
 have lP:t≠s.heap.objs.size:=by refine bT ce λo aR _=>?_;exact mf (gE aR)
 refine b4 (bN (λ_=>ie ce.typeIs F.slot_tuple_iter.lookup) (cK (b4 (rI (wpAny_pyIter_tuple ce ?_)))))
 refine b4 (rI (wpAny_draw_tuple lP items.size 0 _ _ ⟨_,hU _ rfl,rfl,rfl⟩ (ce.push _) (by lia) λh₁ ae1 I2=>?_))
 have Aw:List.take items.size (List.drop 0 items.toList)=items.toList:=
  G zm (Vi (by simp))
 refine G Aw (jt (by simp) ?_)
 have afp:h₁.IsTuple t items:=(ce.push _).extBut I2.extBut lP;refine b4 (rI (next_tuple_end a6 ae1 afp (by simp) λafw aeU afn=>?_))
 refine cK (jG afw (λb o e=>?_) ?_)
 ·have hb:b≠s.heap.objs.size:=mf (gE e);exact aeU b o hb (I2.extBut b o hb (k6 _ e))
 ·refine cQ ?_ afn;exact G I2.1 (G (ib ..) (kZ s.heap.objs.size 1))
end
end Mine.Internal
end
noncomputable section
open PySem PySem.W PyProof.Rows PySem.Calls
namespace Mine.Internal
section
variable {H:an}{P:cB}{X:List a1}{b:a1}{h av:bq}{o:Obj}{p:a1×a1}{ρ cb:cq}
inductive All2{ay bF:Type}(R:ay->bF->Prop):List ay->List bF->Prop
 |nil:All2 R [] []
 |cons {a b l m}:R a b->All2 R l m->All2 R (a::l) (b::m)
namespace All2
variable {ay bF:Type}{R S:ay->bF->Prop}
theorem mono(k:∀a b,R a b->S a b){l:List ay}{m:List bF}(x:All2 R l m):All2 S l m:=by
 induction x with
 |nil=>exact .nil
 |cons h t ih=>exact .cons (k _ _ h) ih
theorem length{l:List ay}{m:List bF}(x:All2 R l m):l.length=m.length:=by
 induction x with
 |nil=>rfl
 |cons h t ih=>exact congrArg (· +1) ih
theorem get{l:List ay}{m:List bF}(x:All2 R l m):∀ {i:Nat} {a:ay},l[i]? =J a->∃b,m[i]? =J b/\R a b:=by
 induction x with
 |nil=>intro i a e;exact br e
 |cons h t ih=>
  intro i a e;induction i using n6 with
  |zero=>obtain rfl:=ci e;exact⟨_,rfl,h⟩
  |succ i=>exact ih (i:=i) e
theorem get'{l:List ay}{m:List bF}(x:All2 R l m):∀ {i:Nat} {b:bF},m[i]? =J b->∃a,l[i]? =J a/\R a b:=by
 induction x with
 |nil=>intro i a e;exact br e
 |cons h t ih=>
  intro i a e;induction i using n6 with
  |zero=>obtain rfl:=ci e;exact⟨_,rfl,h⟩
  |succ i=>exact ih (i:=i) e
theorem append{l l':List ay}{m bV:List bF}(x:All2 R l m)(y:All2 R l' bV):All2 R (l++l') (m++bV):=by
 induction x with
 |nil=>exact y
 |cons h t ih=>exact .cons h ih
theorem set{l:List ay}{m:List bF}(x:All2 R l m):∀ {i:Nat} {a:ay} {b:bF},R a b->All2 R (l.set i a) (m.set i b):=by
 induction x with
 |nil=>intro i a b r;exact .nil
 |cons h t ih=>
  intro i a b r;induction i using n6 with
  |zero=>exact .cons r t
  |succ i=>exact .cons h (ih r)
theorem eraseIdx{l:List ay}{m:List bF}(x:All2 R l m):∀ {i:Nat},All2 R (l.eraseIdx i) (m.eraseIdx i):=by
 induction x with
 |nil=>intro i;exact .nil
 |cons h t ih=>
  intro i;induction i using n6 with
  |zero=>exact t
  |succ i=>exact .cons h ih
theorem take{l:List ay}{m:List bF}(x:All2 R l m):∀ {i:Nat},All2 R (l.take i) (m.take i):=by
 induction x with
 |nil=>intro i;rcases i<;>exact .nil
 |cons h t ih=>
  intro i;induction i using n6 with
  |zero=>exact .nil
  |succ i=>exact .cons h ih
theorem drop{l:List ay}{m:List bF}(x:All2 R l m):∀ {i:Nat},All2 R (l.drop i) (m.drop i):=by
 induction x with
 |nil=>intro i;rcases i<;>exact .nil
 |cons h t ih=>
  intro i;induction i using n6 with
  |zero=>exact .cons h t
  |succ i=>exact ih
theorem un{a:ay}{l:List ay}{m:List bF}(x:All2 R (a::l) m):∃b n,m=b::n/\R a b/\All2 R l n:=by
 cases x with
 |cons h t=>exact⟨_,_,rfl,h,t⟩
theorem un0{m:List bF}(x:All2 R [] m):m=[]:=by
 rcases x;rfl
theorem one{a:ay}{l:List bF}(x:All2 R [a] l):∃da,l=[da]/\R a da:=by
 refine kA x.un λb n Kq r t=>?_;obtain rfl:=Kq
 cases t.un0;exact⟨b,rfl,r⟩
theorem two{a b:ay}{l:List bF}(x:All2 R [a,b] l):∃da ck,l=[da,ck]/\R a da/\R b ck:=by
 refine kA x.un λc n Kr r t=>?_;obtain rfl:=Kr
 refine bT t.one λd aj2 s=>?_;obtain rfl:=aj2
 exact⟨c,d,rfl,r,s⟩
theorem three{a b c:ay}{l:List bF}(x:All2 R [a,b,c] l):∃da ck c',l=[da,ck,c']/\R a da/\R b ck/\R c c':=by
 refine kA x.un λe n akd r t=>?_;obtain rfl:=akd
 refine kA t.two λd f ako s u=>?_;obtain rfl:=ako
 exact⟨e,d,f,rfl,r,s,u⟩
end All2
noncomputable abbrev cq:=List (a1×a1)
inductive M3(ρ:cq)(i:Nat)(v:aG):Prop
 |mk (p:a1×a1) (h:ρ[i]? =J p) (e:v=.ref p.1):M3 ρ i v
noncomputable def bg(ρ:cq):L->aG->Prop
 | .none,v=>v=.none
 | .bool b,v=>v=.bool b
 | .int i,v=>∃t,v=.int i t
 | .bytes l,v=>∃t,v=.bytes l.toArray t
 | .str s,v=>∃t,v=.str s t
 | .new i,v=>M3 ρ i v
 | .st c,v=>v=c
def Sub(ρ cb:cq):Prop:=∃x,cb=ρ++x
theorem Sub.refl(ρ:cq):Sub ρ ρ:=⟨[],by simp⟩
theorem Sub.trans{a b c:cq}(x:Sub a b)(y:Sub b c):Sub a c:=by
 refine cm x λu akz=>?_;obtain rfl:=akz;refine cm y λv akK=>?_;obtain rfl:=akK;exact⟨u++v,by simp⟩
theorem Sub.get{a b:cq}(x:Sub a b){i:Nat}{p}(e:a[i]? =J p):b[i]? =J p:=by
 refine cm x λu akV=>?_;obtain rfl:=akV
 exact G (sL (by have :=kF.mp e;exact this.1)) e
theorem bg.sub(x:Sub ρ cb){v:L}{aJ:aG}(h:bg ρ v aJ):bg cb v aJ:=by
 induction v using Mine.Internal.L.casesOn with
 |new i=>obtain⟨p,e,r⟩:=h;exact⟨p,x.get e,r⟩
 |_=>exact h
noncomputable def Jm(P:cB):L->Int
 | .int i=>hashInt i
 | .str s=>wA P s
 |_=>0
def zS(ρ:cq)(a:Str×L)(e:hT):Prop:=(∃t,e.key=.str a.1 t)/\bg ρ a.2 e.val
def H5(P:cB)(ρ:cq)(a:L×L)(e:hT):Prop:=fX a.1=ae/\bg ρ a.1 e.key/\bg ρ a.2 e.val/\e.hash=Jm P a.1
noncomputable def z8(c:a1):Bool:=[539,658,754,865,192,281,441].contains c
inductive M6(ρ:cq)(p:a1×a1)(h:bq)(c:a1)(l:List (Str×L)):Prop
 |mk (k:z8 c=ae) (n:p.1≠p.2) (aB:h.get? p.1=J (kj c p.2)) (aH:List hT) (m:Nat) (e:h.get? p.2=J (qh aH m)) (r:All2 (zS ρ) l aH):M6 ρ p h c l
inductive M7(ρ:cq)(p:a1×a1)(h:bq)(l:List L):Prop
 |mk (q:p.1=p.2) (vs:List aG) (n:Nat) (aB:h.get? p.1=J {cls:=.type "list",data:=.seq vs.toArray n}) (r:All2 (bg ρ) l vs):M7 ρ p h l
inductive Gc(am:bq->a1->Array aG->Prop)(ρ:cq)(p:a1×a1)(h:bq)(l:List L):Prop
 |mk (q:p.1=p.2) (vs:List aG) (aB:am h p.1 vs.toArray) (r:All2 (bg ρ) l vs):Gc am ρ p h l
inductive M5(P:cB)(ρ:cq)(p:a1×a1)(h:bq)(l:List (L×L)):Prop
 |mk (q:p.1=p.2) (aH:List hT) (n:Nat) (aB:h.get? p.1=J (qh aH n)) (r:All2 (H5 P ρ) l aH) (d:(l.map (·.1)).Nodup) (s:p.1≠CE):M5 P ρ p h l
inductive M8(p:a1×a1)(h:bq)(l:List L):Prop
 |mk (q:p.1=p.2) (o:Obj) (aH:Array (Int×aG)) (n:Nat) (t:SetTable) (aB:h.get? p.1=J o) (x:o.ExactSet) (d:o.data=.set aH n t) (f:t.fits aH.size=ae) (z:aH.size=l.length):M8 p h l
inductive M4(p:a1×a1)(h:bq)(l:List UInt8):Prop
 |mk (q:p.1=p.2) (n:Unit) (aB:h.get? p.1=J {cls:=.type "bytearray",data:=.bytearray l.toArray}):M4 p h l
def j9(P:cB)(ρ:cq)(p:a1×a1)(h:bq)(o:bt):Prop:=match o with
 | .inst c l=>M6 ρ p h c l
 | .list l=>M7 ρ p h l
 | .scr l=>Gc Heap.IsList ρ p h l
 | .tup l=>Gc Heap.IsTuple ρ p h l
 | .dict l=>M5 P ρ p h l
 | .set l=>M8 p h l
 | .ba l=>M4 p h l
theorem j9.sub(x:Sub ρ cb){p:a1×a1}{h:bq}{o:bt}(q:j9 P ρ p h o):j9 P cb p h o:=by
 induction o using Mine.Internal.bt.casesOn with
 |inst c aN=>obtain⟨z,a,b,aH,n,e,r⟩:=q;exact⟨z,a,b,aH,n,e,r.mono λ_ _ u=>⟨u.1,u.2.sub x⟩⟩
 |list l=>obtain⟨a,vs,n,b,c⟩:=q;exact⟨a,vs,n,b,c.mono λ_ _ v=>v.sub x⟩
 |scr l=>obtain⟨a,vs,b,c⟩:=q;exact⟨a,vs,b,c.mono λ_ _ v=>v.sub x⟩
 |tup l=>obtain⟨a,vs,b,c⟩:=q;exact⟨a,vs,b,c.mono λ_ _ v=>v.sub x⟩
 |dict l=>obtain⟨a,aH,n,e,r,d,s⟩:=q;exact⟨a,aH,n,e,r.mono λ_ _ u=>⟨u.1,u.2.1.sub x,u.2.2.1.sub x,u.2.2.2⟩,d,s⟩
 |set l=>exact q
 |ba l=>exact q
theorem j9.keeps(k1:∀o,h.get? p.1=J o->av.get? p.1=J o)(k2:∀o,h.get? p.2=J o->av.get? p.2=J o){o:bt}(q:j9 P ρ p h o):j9 P ρ p av o:=by
 induction o using Mine.Internal.bt.casesOn with
 |inst c aN=>obtain⟨z,a,b,aH,n,e,r⟩:=q;exact⟨z,a,k1 _ b,aH,n,k2 _ e,r⟩
 |list l=>obtain⟨a,vs,n,b,d⟩:=q;exact⟨a,vs,n,k1 _ b,d⟩
 |scr l=>obtain⟨a,vs,⟨o,b,c⟩,d⟩:=q;exact⟨a,vs,⟨o,k1 _ b,c⟩,d⟩
 |tup l=>obtain⟨a,vs,⟨o,b,c⟩,d⟩:=q;exact⟨a,vs,⟨o,k1 _ b,c⟩,d⟩
 |dict l=>obtain⟨a,aH,n,e,r,d,s⟩:=q;exact⟨a,aH,n,k1 _ e,r,d,s⟩
 |set l=>obtain⟨a,o,aH,n,t,e,r,u,v,w⟩:=q;exact⟨a,o,aH,n,t,k1 _ e,r,u,v,w⟩
 |ba l=>obtain⟨a,n,e⟩:=q;exact⟨a,n,k1 _ e⟩
theorem j9.live{o:bt}(q:j9 P ρ p h o):(∃o,h.get? p.1=J o)/\∃o,h.get? p.2=J o:=by
 induction o using Mine.Internal.bt.casesOn with
 |inst c aN=>obtain⟨z,a,b,aH,n,e,r⟩:=q;exact⟨⟨_,b⟩,_,e⟩
 |list l=>obtain⟨a,vs,n,b,d⟩:=q;exact⟨⟨_,b⟩,_,a▸b⟩
 |scr l=>obtain⟨a,vs,⟨o,b,c⟩,d⟩:=q;exact⟨⟨_,b⟩,_,a▸b⟩
 |tup l=>obtain⟨a,vs,⟨o,b,c⟩,d⟩:=q;exact⟨⟨_,b⟩,_,a▸b⟩
 |dict l=>obtain⟨a,aH,n,e,r⟩:=q;exact⟨⟨_,e⟩,_,a▸e⟩
 |set l=>obtain⟨a,o,aH,n,t,e,r⟩:=q;exact⟨⟨_,e⟩,_,a▸e⟩
 |ba l=>obtain⟨a,n,e⟩:=q;exact⟨⟨_,e⟩,_,a▸e⟩
structure fa where
 w:eS
 O:gv
 h₀:bq
 base:l7 w h₀
 fs:List a1
structure fW(Θ:fa)(ρ:cq)(H:an)(h:bq):Prop where
 len:ρ.length=H.length
 old:∀b o,Θ.h₀.get? b=J o->h.get? b=J o
 low:∀(i:Nat) (p:a1×a1),ρ[i]? =J p->i≠0->Θ.h₀.get? p.1=ac/\Θ.h₀.get? p.2=ac
 sep:∀(i j:Nat) (p q:a1×a1),ρ[i]? =J p->ρ[j]? =J q->i≠j->p.1≠q.1/\p.1≠q.2/\p.2≠q.1/\p.2≠q.2
 obj:∀(i:Nat) (p:a1×a1) (o:bt),ρ[i]? =J p->H[i]? =J o->j9 Θ.w.params ρ p h o
 frm:∀b∈Θ.fs,Θ.h₀.get? b=ac/\(∃o,h.get? b=J o/\o.cls=.type "frame"/\∃aH n,o.data=.dict aH n)/\∀(i:Nat) (p:a1×a1),ρ[i]? =J p->b≠p.1/\b≠p.2
def gQ(ρ:cq)(b:a1):Prop:=∃(i:Nat) (p:a1×a1),ρ[i]? =J p/\(b=p.1\/b=p.2)
def P9(ρ:cq)(b:a1):Prop:=∃(i:Nat) (p:a1×a1),ρ[i]? =J p/\i≠0/\(b=p.1\/b=p.2)
def gM(h av:bq):Prop:=(∀b o,h.get? b=J o->av.get? b=J o)/\h.objs.size<=av.objs.size
theorem gM.refl(h:bq):gM h h:=⟨λ_ _ e=>e,cW _⟩
theorem gM.trans{a b c:bq}(x:gM a b)(y:gM b c):gM a c:=⟨λq o e=>y.1 q o (x.1 q o e),cQ x.2 y.2⟩
theorem gM.push(h:bq)(o:Obj):gM h (h.push o):=⟨λ_ _ e=>k6 _ e,G (ib ..) (kZ h.objs.size 1)⟩
def p6(av:bq)(b:a1)(o:Obj):Prop:=∃sl,av.get? b=J {o with slots:=sl}/\(o.cls≠.type "frame"->sl=o.slots)
theorem p6.of(e:av.get? b=J o):p6 av b o:=⟨o.slots,e,λ_=>rfl⟩
theorem p6.exact(x:p6 av b o)(aD:o.cls≠.type "frame"):av.get? b=J o:=by
 refine bT x λsl e k=>?_
 rw [k aD] at e;exact e
theorem p6.trans{ak:bq}(x:p6 av b o)(y:∀o',av.get? b=J o'->p6 ak b o'):p6 ak b o:=by
 refine bT x λsl e k=>?_
 exact bT (y _ e) λaoo e2 k2=>⟨aoo,e2,λq=>(k2 q).trans (k q)⟩
structure d3(X:List a1)(ρ:cq)(h:bq)(cb:cq)(av:bq):Prop where
 sub:Sub ρ cb
 new:∀(i:Nat) (p:a1×a1),cb[i]? =J p->ρ.length<=i->h.objs.size<=p.1/\h.objs.size<=p.2
 keep:∀b o,h.get? b=J o->¬P9 ρ b->b∉X->p6 av b o
 size:h.objs.size<=av.objs.size
theorem d3.refl(X:List a1)(ρ:cq)(h:bq):d3 X ρ h ρ h:=⟨.refl _,λi p e hi=>absurd e (by refine G (mP hi) ?_;simp),λ_ _ e _ _=>.of e,cW _⟩
theorem d3.trans{bG du:cq}{ai ak:bq}(x:d3 X ρ h bG ai)(y:d3 X bG ai du ak):d3 X ρ h du ak:=by
 refine⟨x.sub.trans y.sub,λi p e hi=>?_,λb o e hb f4=>?_,cQ x.size y.size⟩
 ·by_cases Qp:bG.length<=i
  ·have :=y.new i p e Qp;have :=x.size;lia
  ·obtain⟨q,cI⟩:∃q,bG[i]? =J q:=⟨_,iy (wq Qp)⟩;have :=y.sub.get cI;rw [e] at this;obtain rfl:=ci this;exact x.new i _ cI hi
 ·refine(x.keep b o e hb f4).trans λo' cT=>y.keep b o' cT (λeH=>kA eH λi p hp hi Qv=>?_) f4
  by_cases aQ:ρ.length<=i
  ·have a:=x.new i p hp aQ;have ck:h.objs.size>b:=gE e;rcases Qv with z|z<;>rw [z] at ck<;>lia
  ·obtain⟨q,cI⟩:∃q,ρ[i]? =J q:=⟨_,iy (wq aQ)⟩;have :=x.sub.get cI;rw [hp] at this;obtain rfl:=ci this;exact hb ⟨i,_,cI,hi,Qv⟩
theorem d3.ext(x:gM h av):d3 X ρ h ρ av:=⟨.refl _,λi p e hi=>absurd e (by refine G (mP hi) ?_;simp),λb o e _ _=>.of (x.1 b o e),x.2⟩
theorem d3.wide(x:d3 [] ρ h cb av):d3 X ρ h cb av:=⟨x.sub,x.new,λb o e hb _=>x.keep b o e hb (by simp),x.size⟩
theorem fW.lt{Θ:fa}(x:fW Θ ρ H h){i:Nat}{p}(e:ρ[i]? =J p):h.objs.size>p.1/\h.objs.size>p.2:=by
 obtain⟨o,aR⟩:∃o,H[i]? =J o:=⟨_,iy (by have :=(kF.mp e).1;exact cU x.len this)⟩
 refine Ud ((x.obj i p o e aR).live) λale el e2=>?_;refine cm ale λdx e1=>?_
 exact⟨gE e1,gE e2⟩
theorem fW.get{Θ:fa}(x:fW Θ ρ H h){i:Nat}{o:bt}(e:H[i]? =J o):∃p,ρ[i]? =J p/\j9 Θ.w.params ρ p h o:=by
 obtain⟨p,hp⟩:∃p,ρ[i]? =J p:=⟨_,iy (by have :=(kF.mp e).1;exact G x.len this)⟩
 exact⟨p,hp,x.obj i p o hp e⟩
theorem fW.base{Θ:fa}(x:fW Θ ρ H h):l7 Θ.w h:=Θ.base.keeps x.old
theorem fW.ext{Θ:fa}(x:fW Θ ρ H h)(k:gM h av):fW Θ ρ H av:=
 ⟨x.len,λb o e=>k.1 b o (x.old b o e),x.low,x.sep,λi p o e1 e2=>(x.obj i p o e1 e2).keeps (λo e=>k.1 _ o e) λo e=>k.1 _ o e,λb hb=>let⟨a,⟨o,e,d⟩,c⟩:=x.frm b hb;⟨a,⟨o,k.1 _ _ e,d⟩,c⟩⟩
theorem fW.upd{Θ:fa}(x:fW Θ ρ H h){i:Nat}{p:a1×a1}{o:bt}(e:ρ[i]? =J p)(hi:i≠0)
  (k:∀b o,b≠p.1->b≠p.2->h.get? b=J o->av.get? b=J o) (r:j9 Θ.w.params ρ p av o):fW Θ ρ (H.set i o) av:=by
 refine⟨by refine G zp ?_;exact x.len,λb o' cT=>k b o' (λq=>?_) (λq=>?_) (x.old b o' cT),x.low,x.sep,λj q o' e1 e2=>?_,λb hb=>let⟨a,⟨o,aP,d⟩,c⟩:=x.frm b hb;⟨a,⟨o,k b o (c i p e).1 (c i p e).2 aP,d⟩,c⟩⟩
 ·have :=(x.low i p e hi).1;rw [<-q,cT] at this;exact br this.symm
 ·have :=(x.low i p e hi).2;rw [<-q,cT] at this;exact br this.symm
 ·by_cases cY:i=j
  ·subst cY;rw [e] at e1;obtain rfl:=ci e1;rw [Vg (by have :=(kF.mp e).1;exact cU x.len this)] at e2
   obtain rfl:=ci e2;exact r
  ·rw [MO cY] at e2;exact v5 (x.sep j i q p e1 e (λz=>cY z.symm)) λcP d6 hN xB=>(x.obj j q o' e1 e2).keeps (λo z=>k _ o cP d6 z) λo z=>k _ o hN xB z
theorem d3.upd{i:Nat}(e:ρ[i]? =J p)(hi:i≠0)
  (k:∀b o,b≠p.1->b≠p.2->h.get? b=J o->av.get? b=J o) (hs:h.objs.size<=av.objs.size):d3 X ρ h ρ av:=
 ⟨.refl _,λi p e hi=>absurd e (by refine G (mP hi) ?_;simp),λb o cT hb _=>.of (k b o (λq=>hb ⟨i,p,e,hi,.inl q⟩) (λq=>hb ⟨i,p,e,hi,.inr q⟩) cT),hs⟩
theorem fW.add{Θ:fa}(x:fW Θ ρ H h)(k:gM h av){p:a1×a1}{o:bt}(ai:h.objs.size<=p.1)(ak:h.objs.size<=p.2)
  (r:j9 Θ.w.params (ρ++[p]) p av o):fW Θ (ρ++[p]) (H++[o]) av:=by
 have sub:Sub ρ (ρ++[p]):=⟨[p],rfl⟩;have pr:∀i q,(ρ++[p])[i]? =J q->ρ[i]? =J q\/(i=ρ.length/\q=p):=by
  intro i q e;rcases Cj i ρ.length with aQ|aQ
  ·rw [sL aQ] at e;exact .inl e
  ·rw [sM aQ] at e;have :i - ρ.length=0:=by
    have :=(kF.mp e).1;simp at this;exact‹_›
   rw [this] at e;simp at e
   exact .inr ⟨OK aQ this,e.symm⟩
 refine⟨by simp [x.len],λb o e=>k.1 b o (x.old b o e),λi q e hi=>?_,λi j q iE e1 e2 vh=>?_,λi q o' e1 e2=>?_,λb hb=>?_⟩
 ·rcases pr i q e with e|⟨-,rfl⟩
  ·exact x.low i q e hi
  ·constructor
   ·cases z:Θ.h₀.get? q.1 with
    |none=>rfl
    |some o'=>have :h.objs.size>q.1:=gE (x.old _ _ z);lia
   ·cases z:Θ.h₀.get? q.2 with
    |none=>rfl
    |some o'=>have :h.objs.size>q.2:=gE (x.old _ _ z);lia
 ·have jL:∀ {a b:a1},h.objs.size>a->h.objs.size<=b->a≠b:=λu v z=>by rw [z] at u;exact jn _ (eE u v)
  rcases pr i q e1 with ch|⟨a,rfl⟩<;>rcases pr j iE e2 with cd|⟨b,rfl⟩
  ·exact x.sep i j q iE ch cd vh
  ·have z:=x.lt ch;exact⟨jL z.1 ai,jL z.1 ak,jL z.2 ai,jL z.2 ak⟩
  ·have z:=x.lt cd;exact⟨(jL z.1 ai).symm,(jL z.2 ai).symm,(jL z.1 ak).symm,(jL z.2 ak).symm⟩
  ·lia
 ·rcases pr i q e1 with e1|⟨a,rfl⟩
  ·have aQ:=(kF.mp e1).1;rw [sL (cU x.len aQ)] at e2;exact((x.obj i q o' e1 e2).keeps (λo e=>k.1 _ o e) (λo e=>k.1 _ o e)).sub sub
  ·subst a;rw [x.len,sM (cW _)] at e2;simp at e2;subst e2;exact r
 ·refine dS (x.frm b hb) λa alo c=>?_;refine bT alo λo e d=>?_
  have lP:b<h.objs.size:=gE e;refine⟨a,⟨o,k.1 _ _ e,d⟩,λi q e2=>?_⟩
  rcases pr i q e2 with e2|⟨_,rfl⟩
  ·exact c i q e2
  ·exact⟨λz=>by rw [<-z] at ai;exact jn _ (eE lP ai),λz=>by rw [<-z] at ak;exact jn _ (eE lP ak)⟩
theorem d3.add(k:gM h av){p:a1×a1}(ai:h.objs.size<=p.1)(ak:h.objs.size<=p.2):d3 X ρ h (ρ++[p]) av:=by
 refine⟨⟨[p],rfl⟩,λi q e hi=>?_,λb o e _ _=>.of (k.1 b o e),k.2⟩
 rw [sM hi] at e;have :i - ρ.length=0:=by have :=(kF.mp e).1;simp at this;exact‹_›
 rw [this] at e;simp at e;subst e;exact⟨ai,ak⟩
theorem bg.last{n:Nat}(e:ρ.length=n):bg (ρ++[p]) (.new n) (.ref p.1):=⟨p,by refine G (sM (iB e)) ?_;simp [e],rfl⟩
end
variable {H:an}{X:List a1}{h av:bq}{ρ cb:cq}{ay bF:Type}
section
variable {vs:List aG}
theorem pF{bF:Type}(x:Str):∀l:List (Str×bF),cy l x=l.lookup x
 | []=>rfl
 |(y,v)::l=>by
  refine G sO (G pE ?_);by_cases e:y=x
  ·subst e;simp
  ·refine G (a8 e) (G (pF x l) ?_);have :(x==y)=aA:=by simpa using λz=>e z.symm
   (exact G this rfl)
theorem qO{bF:Type}(x y:Str)(v:bF):∀l:List (Str×bF),cy (fA l x v) y=if y=x then J v else cy l y
 | []=>by
  show(if x=y then J v else ac)=if y=x then J v else ac
  by_cases e:x=y
  ·rw [aY e,aY e.symm]
  ·rw [a8 e,a8 λz=>e z.symm]
 |(z,u)::l=>by
  refine G Kk ?_;by_cases e:z=x
  ·subst e;refine G (aY rfl) (G pE (G (pE (v:=u)) ?_));by_cases f:z=y
   ·subst f;rw [aY rfl,aY rfl]
   ·(exact G (a8 f) (G (a8 (λz=>f z.symm)) (G (a8 f) rfl)))
  ·refine G (a8 e) (G pE (G pE ?_));by_cases f:z=y
   ·subst f;(exact G (aY rfl) (G (aY rfl) (G (a8 e) rfl)))
   ·exact G (a8 f) (G (a8 f) (qO x y v l))
noncomputable def own(Z:Env):List a1:=Z.locals::Z.cells.map (·.2)
structure zj(Z:Env)(ρ:cq)(m:Loc)(h:bq):Prop where
 kind:Z.scope.kind=.function
 glob:Z.globals=k8
 blt:Z.builtins=s5
 ns:∃nm,h.Ns Z.locals nm/\∀x v,Z.kindOf x=J .local ->cy m x=J v->∃aJ,nm x=J aJ/\bg ρ v aJ
 cell:∀x c,Z.cells.lookup x=J c->∃kb,h.IsCell c kb/\∀v,Z.kindOf x≠J .local ->cy m x=J v->∃aJ,kb=J aJ/\bg ρ v aJ
 has:∀x,Z.kindOf x=J .cell\/Z.kindOf x=J .free->(Z.cells.lookup x).isSome=ae
 apart:Z.cells.Pairwise λx y=>x.2≠y.2
 napart:∀x∈Z.cells,x.2≠Z.locals
theorem zj.move{Z:Env}{ρ cb:cq}{m:Loc}{h av:bq}(x:zj Z ρ m h)(hs:Sub ρ cb)(k:∀b∈own Z,∀o,h.get? b=J o->p6 av b o):zj Z cb m av:=by
 refine⟨x.kind,x.glob,x.blt,?_,λy c e=>?_,x.has,x.apart,x.napart⟩
 ·refine bT x.ns λnm alq b=>?_;obtain⟨o,aH,ii,aR,r⟩:=alq
  exact bT (k _ fK _ aR) λsl IV _=>⟨nm,⟨_,aH,ii,IV,r⟩,λy v e1 e2=>bT (b y v e1 e2) λaJ p q=>⟨aJ,p,q.sub hs⟩⟩
 ·refine bT (x.cell y c e) λkb alA r=>?_;refine bT alA λo a b=>?_
  exact bT (k _ (f8 _ (rr (f:=(·.2)) (mem_of_lookup e))) _ a) λsl da _=>⟨kb,⟨_,da,b⟩,λv hk e=>bT (r v hk e) λaJ p q=>⟨aJ,p,q.sub hs⟩⟩
structure bD(Θ:fa)(Z:Env)(ρ:cq)(m:Loc)(H:an)(h:bq):Prop where
 rel:fW Θ ρ H h
 fr:zj Z ρ m h
 out:∀b∈own Z,¬gQ ρ b/\Θ.h₀.get? b=ac/\h.objs.size>b
section
variable {Θ:fa}{Z:Env}{m:Loc}{bb:an}
theorem bD.ext(x:bD Θ Z ρ m H h)(k:gM h av):bD Θ Z ρ m H av:=
 ⟨x.rel.ext k,x.fr.move (.refl _) λb _ o e=>.of (k.1 b o e),λb hb=>⟨(x.out b hb).1,(x.out b hb).2.1,eE (x.out b hb).2.2 k.2⟩⟩
theorem tx{b:a1}(x:P9 ρ b):gQ ρ b:=kA x λi p a _ c=>⟨i,p,a,c⟩
theorem bD.call(x:bD Θ Z ρ m H h)(r:fW Θ cb bb av)(f:d3 [] ρ h cb av):bD Θ Z cb m bb av:=by
 refine⟨r,x.fr.move f.sub λb hb o e=>f.keep b o e (λz=>(x.out b hb).1 (tx z)) (by simp),λb hb=>⟨λeH=>mF eH λi p e z=>?_,(x.out b hb).2.1,eE (x.out b hb).2.2 f.size⟩⟩
 by_cases aQ:ρ.length<=i
 ·have a:=f.new i p e aQ;have q:h.objs.size>b:=(x.out b hb).2.2;rcases z with z|z<;>rw [z] at q<;>lia
 ·obtain⟨q,cI⟩:∃q,ρ[i]? =J q:=⟨_,iy (wq aQ)⟩;have :=f.sub.get cI;rw [e] at this;obtain rfl:=ci this;exact(x.out b hb).1 ⟨i,p,cI,z⟩
theorem bD.len(x:bD Θ Z ρ m H h):ρ.length=H.length:=x.rel.len
inductive d4(Θ:fa)(Z:Env)(ρ:cq)(h:bq){ay:Type}(Q:ay->cq->Loc->an->Prop)(a:ay)(av:bq):Prop
 |mk (cb:cq) (bV:Loc) (bb:an) (x:bD Θ Z cb bV bb av) (f:d3 (own Z) ρ h cb av) (q:Q a cb bV bb):d4 Θ Z ρ h Q a av
abbrev aa(Θ:fa)(ah:Ctx)(Z:Env)(ρ:cq){ay:Type}(t:Sem ay)(Q:ay->cq->Loc->an->Prop)(h:bq):Prop:=af Θ.w Θ.O ah t (d4 Θ Z ρ h Q) h
variable {ah:Ctx}{d:Nat}
theorem aa.mono{t:Sem ay}{Q oj:ay->cq->Loc->an->Prop}(x:aa Θ ah Z ρ t Q h)(k:∀a bG dF bI,Q a bG dF bI->oj a bG dF bI):aa Θ ah Z ρ t oj h:=
 af.mono x λa av ⟨bG,dF,bI,y,z,q⟩=>⟨bG,dF,bI,y,z,k _ _ _ _ q⟩
theorem d4.go{f:d3 (own Z) ρ h cb av}{Q:ay->cq->Loc->an->Prop}{a:ay}{ak:bq}(x:d4 Θ Z cb av Q a ak):d4 Θ Z ρ h Q a ak:=
 let⟨bG,dF,bI,y,z,q⟩:=x;⟨bG,dF,bI,y,f.trans z,q⟩
theorem aa.bind{t:Sem ay}{f:ay->Sem bF}{Q1:ay->cq->Loc->an->Prop}{Q:bF->cq->Loc->an->Prop}(x:aa Θ ah Z ρ t Q1 h)
  (k:∀a bG dF bI ai,bD Θ Z bG dF bI ai->Sub ρ bG->Q1 a bG dF bI->aa Θ ah Z bG (f a) Q ai):aa Θ ah Z ρ (t>>=f) Q h:=
 af.bind (af.mono x λa ai ⟨bG,dF,bI,y,z,q⟩=>af.mono (k a bG dF bI ai y z.sub q) λb ak r=>r.go (f:=z))
theorem aa.pure{a:ay}{Q:ay->cq->Loc->an->Prop}(x:bD Θ Z ρ m H h)(q:Q a ρ m H):aa Θ ah Z ρ (bK a:Sem ay) Q h:=af.pure ⟨ρ,m,H,x,.refl _ _ _,q⟩
theorem d4.now{a:ay}{Q:ay->cq->Loc->an->Prop}(x:bD Θ Z ρ m H h)(q:Q a ρ m H):d4 Θ Z ρ h Q a h:=⟨ρ,m,H,x,.refl _ _ _,q⟩
theorem d4.grown{a:ay}{Q:ay->cq->Loc->an->Prop}(x:bD Θ Z ρ m H h)(k:gM h av)(q:Q a ρ m H):d4 Θ Z ρ h Q a av:=⟨ρ,m,H,x.ext k,.ext k,q⟩
theorem d4.added{a:ay}{Q:ay->cq->Loc->an->Prop}(x:bD Θ Z ρ m H h)(k:gM h av){p:a1×a1}{o:bt}(ai:h.objs.size<=p.1)(ak:h.objs.size<=p.2)
  (r:j9 Θ.w.params (ρ++[p]) p av o) (q:Q a (ρ++[p]) m (H++[o])):d4 Θ Z ρ h Q a av:=by
 have f:d3 [] ρ h (ρ++[p]) av:=.add k ai ak;exact⟨ρ++[p],m,H++[o],x.call (x.rel.add k ai ak r) f,f.wide,q⟩
theorem d4.turned{a:ay}{Q:ay->cq->Loc->an->Prop}(x:bD Θ Z ρ m H h){i:Nat}{p:a1×a1}{o:bt}(e:ρ[i]? =J p)(hi:i≠0)
  (k:∀b o,b≠p.1->b≠p.2->h.get? b=J o->av.get? b=J o) (hs:h.objs.size<=av.objs.size) (r:j9 Θ.w.params ρ p av o) (q:Q a ρ m (H.set i o)):d4 Θ Z ρ h Q a av:=by
 have f:d3 [] ρ h ρ av:=.upd e hi k hs;exact⟨ρ,m,H.set i o,x.call (x.rel.upd e hi k r) f,f.wide,q⟩
theorem aa.any{t:Sem ay}{Q:ay->cq->Loc->an->Prop}(ok:bz Θ.fs d ah)
  (x:∀A s,A.handled=ac->A.depth<990->A.units<9800->s.heap=h->s.gens= #[]->s.os=Θ.O->cN (di prog Θ.w) A t (λa aS=>d4 Θ Z ρ h Q a aS.heap/\aS.gens= #[]/\aS.os=Θ.O) (λ_ _=>False) s):aa Θ ah Z ρ t Q h:=by
 obtain⟨A,cS,a6,bA,bU⟩:=ok.room;exact af.any cS λs e1 e2 aP=>x A s a6 (F8 bA) (F8 bU) e1 e2 aP
theorem aa.holding{t:Sem ay}{Q:ay->cq->Loc->an->Prop}(x:aa Θ ah Z ρ t Q h):aa Θ ah Z ρ (PySem.holding vs t) Q h:=af.holding x
theorem aa.operate{t:Sem aG}{Q:aG->cq->Loc->an->Prop}(x:aa Θ ah Z ρ t Q h):aa Θ ah Z ρ (PySem.operate vs t) Q h:=af.operate x
theorem aa.stand{pos:Pos}{f:Unit->Sem ay}{Q:ay->cq->Loc->an->Prop}(x:aa Θ ah Z ρ (f ()) Q h):aa Θ ah Z ρ (PySem.standAt pos>>=f) Q h:=af.bv (λ_=>af.standAt) x
theorem aa.release{ff:List aG}{f:Unit->Sem ay}{Q:ay->cq->Loc->an->Prop}(x:aa Θ ah Z ρ (f ()) Q h):aa Θ ah Z ρ (PySem.release vs ff>>=f) Q h:=af.bv (λ_=>af.release) x
abbrev mT(m:Loc)(k:L->an->Prop):aG->cq->Loc->an->Prop:=λaJ cb bV bb=>bV=m/\∃v,bg cb v aJ/\k v bb
theorem oN{ay bF:Type}{a v:ay}{b c:bF}(e:J (a,b)=J (v,c)):v=a:=(NC (ci e)).1.symm
theorem qR{ay bF:Type}{a v:ay}{b c:bF}(e:J (a,b)=J (v,c)):c=b:=(NC (ci e)).2.symm
theorem xf{ay:Type}{c:Prop}[Decidable c]{X:Option ay}{v:ay}{P:Prop}(e:(if c then ac else X)=J v)(k:¬c->X=J v->P):P:=by
 rcases Decidable.em c with h|h
 ·rw [aY h] at e;exact br e
 ·rw [a8 h] at e;exact k h e
theorem aoB{bM:og}{a b:Int}{t u:Tok}{v:L}{k:L->an->Prop}(ok:bz Θ.fs d ah)(x:bD Θ Z ρ m H h)(e:a5 bM (.int a) (.int b) H=J (v,bb))(q:k v bb):
  aa Θ ah Z ρ (zB bM (.int a t) (.int b u)) (mT m k) h:=by
 refine aa.any ok λA s a6 bA bU e1 e2 aP=>?_
 subst e1;have cp:∀(i:Int) (t:Tok),v=.int i->bb=H->d4 Θ Z ρ s.heap (mT m k) (.int i t) s.heap:=λi t e1 e2=>d4.now x ⟨rfl,v,e1▸⟨t,rfl⟩,e2▸q⟩
 have aov:∀z:Int,cG z=ae->z.natAbs<2^62:=λz hz=>by simpa [cG] using hz
 have Lc:∀z:Int,cG z=ae->z.natAbs<2^64:=λz hz=>n7 (aov z hz) (by decide)
 have js:∀ {i:Int} {t:Tok} {aS:cs},aS.heap=s.heap->aS.gens=s.gens->aS.os=s.os->v=.int i->bb=H->d4 Θ Z ρ s.heap (mT m k) (.int i t) aS.heap/\aS.gens= #[]/\aS.os=Θ.O:=
  λa b c acD acE=>⟨a▸cp _ _ acD acE,b.trans e2,c.trans aP⟩
 have e:QW bM a b H=J (v,bb):=e;rcases bM
 case Add=>exact add_int (js rfl rfl rfl (oN e) (qR e))
 case Sub=>exact sub_int (js rfl rfl rfl (oN e) (qR e))
 case Mult=>exact dR e λhs e=>mul_int (js rfl rfl rfl (oN e) (qR e)) (IntMulOk.of_left (PyProof.Rows.intBits_le (Lc _ (eZ hs))))
 case FloorDiv=>exact xf e λhb e=>dR e λhs e=>floordiv_int hb (js rfl rfl rfl (oN e) (qR e)) (.inl (Vs (eE ‹_› (by decide))))
 case Mod=>exact xf e λhb e=>mod_int' hb (js rfl rfl rfl (oN e) (qR e))
 case Pow=>exact dR e λhs e=>pow_int_small hs.1 (by lia) (Lc _ hs.2.2) (js rfl rfl rfl (oN e) (qR e))
 case LShift=>exact dR e λhs e=>lshift_int_small hs.1 (by lia) (Lc _ hs.2.2) (js rfl rfl rfl (oN e) (qR e))
 case RShift=>exact dR e λhs e=>rshift_int hs (js rfl rfl rfl (oN e) (qR e))
 case BitAnd=>exact and_int (js rfl rfl rfl (oN e) (qR e))
 case BitOr=>exact or_int (js rfl rfl rfl (oN e) (qR e))
 all_goals exact br e
end
end
variable {vs:List aG}{Θ:fa}{Z:Env}{m:Loc}{bb:an}{ah:Ctx}{d:Nat}
section
abbrev dC(m:Loc)(v:L)(bI:an):aG->cq->Loc->an->Prop:=λaJ cb bV bb=>bV=m/\bb=bI/\bg cb v aJ
noncomputable abbrev lc(m:Loc)(bI:an){ay:Type}:ay->cq->Loc->an->Prop:=λ_ _ bV bb=>bV=m/\bb=bI
noncomputable abbrev Mu(m:Loc)(b:Bool)(bI:an):Bool->cq->Loc->an->Prop:=λck _ bV bb=>bV=m/\bb=bI/\ck=b
variable {Ul:Type}
theorem aa.bindV{R:cq->Ul->ay->Prop}{k:Ul->an->Prop}{t:Sem ay}{f:ay->Sem bF}{Q:bF->cq->Loc->an->Prop}(x:aa Θ ah Z ρ t (λaJ cb bV bb=>bV=m/\∃v,R cb v aJ/\k v bb) h)
  (c:∀aJ v bG bI ai,bD Θ Z bG m bI ai->Sub ρ bG->R bG v aJ->k v bI->aa Θ ah Z bG (f aJ) Q ai):aa Θ ah Z ρ (t>>=f) Q h:=
 aa.bind x λaJ bG dF bI ai bL cP q=>by
  refine Ml q λKl v r w=>?_;obtain rfl:=Kl
  exact c aJ v bG bI ai bL cP r w
theorem aa.bindR{R:cq->ay->Prop}{t:Sem ay}{f:ay->Sem bF}{Q:bF->cq->Loc->an->Prop}(x:aa Θ ah Z ρ t (λa cb bV bI=>bV=m/\bI=bb/\R cb a) h)
  (c:∀aJ bG ai,bD Θ Z bG m bb ai->Sub ρ bG->R bG aJ->aa Θ ah Z bG (f aJ) Q ai):aa Θ ah Z ρ (t>>=f) Q h:=
 aa.bind x λaJ bG dF bI ai bL cP q=>by
  refine dS q λKs Ku r=>?_;obtain rfl:=Ks;obtain rfl:=Ku
  exact c aJ bG ai bL cP r
theorem aa.bindU{t:Sem ay}{f:ay->Sem bF}{Q:bF->cq->Loc->an->Prop}(x:aa Θ ah Z ρ t (lc m bb) h)
  (c:∀a bG ai,bD Θ Z bG m bb ai->Sub ρ bG->aa Θ ah Z bG (f a) Q ai):aa Θ ah Z ρ (t>>=f) Q h:=
 aa.bind x λaJ bG dF bI ai bL cP q=>by
  refine cz q λKv Kw=>?_;obtain rfl:=Kv;obtain rfl:=Kw
  exact c aJ bG ai bL cP
theorem aa.bindB{k:ay->an->Prop}{t:Sem ay}{f:ay->Sem bF}{Q:bF->cq->Loc->an->Prop}(x:aa Θ ah Z ρ t (λb _ bV bb=>bV=m/\k b bb) h)
  (c:∀b bG bI ai,bD Θ Z bG m bI ai->Sub ρ bG->k b bI->aa Θ ah Z bG (f b) Q ai):aa Θ ah Z ρ (t>>=f) Q h:=
 aa.bind x λaJ bG dF bI ai bL cP q=>by
  refine cz q λamA w=>?_;obtain rfl:=amA
  exact c aJ bG bI ai bL cP w
theorem aa.toV{v:L}{k:L->an->Prop}{t:Sem aG}(x:aa Θ ah Z ρ t (dC m v bb) h)(w:k v bb):aa Θ ah Z ρ t (mT m k) h:=
 aa.mono x λaJ bG dF bI q=>by
  refine dS q λaM Kx r=>?_;obtain rfl:=Kx
  exact⟨aM,v,r,w⟩
theorem RA{bF:Type}:∀ {l:List (Str×bF)} {x:Str} {v:bF},cy l x=J v->(x,v)∈l:=by
 intro l;induction l with
 |nil=>exact λe=>br e
 |cons p l ih=>
  intro x v e;obtain⟨y,u⟩:=p;rw [pE] at e;by_cases q:y=x
  ·rw [aY q] at e;obtain rfl:=ci e;subst q;exact fK
  ·rw [a8 q] at e;exact f8 _ (ih e)
noncomputable def oE(ρ:cq)(h:bq):nl->aG->Prop
 | .at_ v,aJ=>bg ρ v aJ
 | .sl a b,aJ=>∃s,aJ=.ref s/\∃u w:L,eA u=J a/\eA w=J b/\∃ef ja,bg ρ u ef/\bg ρ w ja/\h.get? s=J {cls:=.type "slice",data:=.fields #[ef,ja,.none]}/\ ¬gQ ρ s/\s∉own Z
end
section
variable {i:Nat}{k v:L}{fO o':aG}{d5:List (L×aG)}{l:List (L×L)}
noncomputable def vo:L->aG->Bool
 | .int i,v=>v.isInt i
 | .str x,v=>Value.isStrOf x v
 |_,_=>aA
theorem tJ{v:aG}(h:vo k v=ae):(∃i t,k=.int i/\v=.int i t)\/ ∃x t,k=.str x/\v=.str x t:=by
 rcases k<;>simp only [vo,ng] at h
 ·refine cm (Value.isInt_shape h) λt Kt=>?_;obtain rfl:=Kt;exact .inl ⟨_,t,rfl,rfl⟩
 ·refine cm (Value.isStrOf_shape h) λt alP=>?_;obtain rfl:=alP;exact .inr ⟨_,t,rfl,rfl⟩
theorem agd(w:eS)(x:Str):Jm w.params (.str x)=hashStr w x:=by
 first |rfl|(unfold wA;rfl)
def lq(w:eS):KeyKind prog w L where
 is:=vo
 hash:=Jm w.params
 inj:=λv a b ha hb=>by
  rcases tJ ha with⟨i,t,rfl,rfl⟩|⟨x,t,rfl,rfl⟩<;>rcases tJ hb with⟨j,u,rfl,e⟩|⟨y,u,rfl,e⟩<;>cases e<;>rfl
 byValue:=λk v h=>by rcases tJ h with⟨i,t,rfl,rfl⟩|⟨x,t,rfl,rfl⟩<;>rfl
 pyHash:=λ{A E s k v Q} hv h=>by
  rcases tJ hv with⟨i,t,rfl,rfl⟩|⟨x,t,rfl,rfl⟩
  ·exact wpAny_pyHash_int h
  ·exact wpAny_pyHash_str (cU (agd ..) h)
 eqBool:=λ{A E s a b u v Q} bU hv h=>by
  rcases tJ bU with⟨i,t,rfl,rfl⟩|⟨x,t,rfl,rfl⟩<;>rcases tJ hv with⟨j,r,rfl,rfl⟩|⟨y,r,rfl,rfl⟩
  ·refine wpAny_eqBool_int ?_;have e:(i==j)=eo (L.int i=L.int j):=by refine fB t6 ?_;simp
   exact G e h
  ·refine SeqAt.EqAt.int_str i t y r _ _ _ _ ?_;have e:eo (L.int i=L.str y)=aA:=by simp
   rw [e] at h;exact h
  ·refine SeqAt.EqAt.str_int x t j r _ _ _ _ ?_;have e:eo (L.str x=L.int j)=aA:=by simp
   rw [e] at h;exact h
  ·refine wpAny_eqBool_str ?_;have e:eo (L.str x=L.str y)=eo (x=y):=by simp
   rw [e] at h;exact h
 «strs»:=λk x t v h=>by
  rcases tJ h with⟨i,t,rfl,e⟩|⟨y,t,rfl,e⟩
  ·cases e
  ·cases e;rcases v<;>rfl
def kM(ρ:cq)(a:L×L)(b:L×aG):Prop:=a.1=b.1/\fX a.1=ae/\bg ρ a.2 b.2
theorem qK{v:aG}(hk:fX k=ae)(r:bg ρ k v):vo k v=ae:=by
 rcases k<;>simp only [fX,ng] at hk
 ·refine cm r λt alZ=>?_;obtain rfl:=alZ;simp [vo,Value.isInt]
 ·refine cm r λt ama=>?_;obtain rfl:=ama;simp [vo,Value.isStrOf]
theorem aiR{v:aG}(h:vo k v=ae):fX k=ae/\bg ρ k v:=by
 rcases tJ h with⟨i,t,rfl,rfl⟩|⟨x,t,rfl,rfl⟩
 ·exact⟨rfl,t,rfl⟩
 ·exact⟨rfl,t,rfl⟩
theorem kM.keys(x:All2 (kM ρ) l d5):d5.map (·.1)=l.map (·.1):=by
 induction x with
 |nil=>rfl
 |cons h t ih=>(exact G h9 (G h9 (G ih (G h.1 rfl))))
theorem u1{w:eS}{p:a1×a1}(r:j9 w.params ρ p h (.dict l)):p.1=p.2/\p.1≠CE/\∃d5,h.DictOf (lq w) p.1 d5/\All2 (kM ρ) l d5:=by
 obtain⟨e,aH,n,bj,ra,hn,hs⟩:=r;have key:∀ {l:List (L×L)} {aH:List hT},All2 (H5 w.params ρ) l aH->∃d5,All2 (kM ρ) l d5/\Pairs (lq w) aH d5/\∀e∈aH,∃k,(lq w).is k e.key=ae/\e.hash=(lq w).hash k:=λ{l aH} ra=>by
  induction ra with
  |nil=>exact⟨[],.nil,.nil,λ_ z=>absurd z jl⟩
  | @cons a b l aH r t ih=>
   refine kS ih λd5 ai ak aZ=>?_
   refine v5 r λaM a7 q3 iF=>?_
   refine⟨(a.1,b.val)::d5,.cons ⟨rfl,aM,q3⟩ ai,.cons (qK aM a7) rfl ak,λe bl=>?_⟩
   rcases fw.mp bl with rfl|bl
   ·exact⟨a.1,qK aM a7,iF⟩
   ·exact aZ e bl
 exact kS (key ra) λd5 ai ak aZ=>⟨e,hs,d5,⟨_,aH.toArray,n,bj,⟨rfl,rfl,rfl⟩,rfl,λe bl=>aZ e (by simpa using bl),by simpa using ak,G (kM.keys ai) hn⟩,ai⟩
theorem HY{w:eS}{a:a1}(bA:h.DictOf (lq w) a d5)(ra:All2 (kM ρ) l d5)(hs:a≠CE):j9 w.params ρ (a,a) h (.dict l):=by
 refine ar8 bA λo aH ii bj amc Qy hk hp hn=>?_;refine dS amc λdv dy eT=>?_
 obtain⟨J8,od,asV,os⟩:=o;dsimp only at dv dy eT Qy;subst dv dy eT Qy;have key:∀ {l:List (L×L)} {d5:List (L×aG)} {aH:List hT},All2 (kM ρ) l d5->Pairs (lq w) aH d5->(∀e∈aH,∃k,(lq w).is k e.key=ae/\e.hash=(lq w).hash k)->All2 (H5 w.params ρ) l aH:=λ{l d5 aH} ra hp hk=>by
  induction ra generalizing aH with
  |nil=>rcases hp;exact .nil
  | @cons a b l d5 r t ih=>
   cases hp with
   | @cons e _ aH _ ai ak aZ=>
    refine dS r λaM a7 q3=>?_
    refine bT (hk e fK) λk k1 k2=>?_
    have rW:k=b.1:=(lq w).inj _ _ _ k1 ai;subst rW;refine .cons ⟨a7,?_,?_,?_⟩ (ih aZ λe bl=>hk e (f8 _ bl))
    ·exact G aM ((aiR ai).2)
    ·exact G ak q3
    ·exact G k2 (G aM rfl)
 exact⟨rfl,aH.toList,ii,by simpa using bj,key ra hp λe bl=>hk e (by simpa using bl),by refine cU (kM.keys ra) ?_;exact hn,hs⟩
theorem Ad(x:All2 (kM ρ) l d5):match dV l k with |J v=>∃aJ,zH d5 k=J aJ/\bg ρ v aJ|ac=>zH d5 k=ac:=by
 induction x with
 |nil=>rfl
 | @cons a b l d5 h t ih=>
  obtain⟨y,v⟩:=a;obtain⟨eN,aJ⟩:=b;refine dS h λe hk r=>?_
  dsimp only at e r;subst e;refine G (show dV ((y,v)::l) k=if y=k then J v else dV l k from rfl) ?_
  unfold zH at ih⊢;refine G List.find?_cons ?_;by_cases q:y=k
  ·refine G (aY q) ?_;have :eo (y=k)=ae:=by simpa using q
   exact G this (⟨aJ,rfl,r⟩)
  ·refine G (a8 q) ?_;have :eo (y=k)=aA:=by simpa using q
   exact G this (ih)
theorem acw{aJ:aG}(hk:fX k=ae)(r:bg ρ v aJ){l:List (L×L)}{d5:List (L×aG)}(ra:All2 (kM ρ) l d5)(hn:(l.map (·.1)).Nodup):All2 (kM ρ) (g9 l k v) (stored d5 k aJ):=by
 have aiq:∀ {l:List (L×L)} {d5:List (L×aG)},All2 (kM ρ) l d5->k∉l.map (·.1)->g9 l k v=l++[(k,v)]/\(d5.any λvr=>eo (vr.1=k))=aA:=λ{l d5} ra hn=>by
  induction ra with
  |nil=>exact⟨rfl,rfl⟩
  | @cons a b l d5 r t ih=>
   rw [h9,fw,not_or] at hn;refine cz (ih hn.2) λai ak=>?_
   obtain⟨y,u⟩:=a;constructor
   ·rw [tv];exact G (a8 (λz=>hn.1 z.symm)) (G ai rfl)
   ·refine G zl (G ak (cU r.1 ?_));have :eo (y=k)=aA:=by simpa using λz=>hn.1 z.symm
    exact G this rfl
 have aoz:∀ {l:List (L×L)} {d5:List (L×aG)},All2 (kM ρ) l d5->(l.map (·.1)).Nodup->k∈l.map (·.1)->All2 (kM ρ) (g9 l k v) (d5.map λvr=>if vr.1=k then(vr.1,aJ) else vr)/\(d5.any λvr=>eo (vr.1=k))=ae:=λ{l d5} ra hn bc=>by
  induction ra with
  |nil=>rcases bc
  | @cons a b l d5 lu t ih=>
   obtain⟨y,u⟩:=a;rw [h9,n4] at hn;by_cases q:y=k
   ·subst q;have gX:y∉d5.map (·.1):=G (kM.keys t) hn.1;constructor
    ·rw [tv];refine G (aY rfl) (G h9 (G (aY lu.1.symm) (G (map_store_of_not_mem _ _ _ gX) ?_)));exact .cons ⟨lu.1,hk,r⟩ t
    ·refine G zl (cU lu.1 ?_);simp
   ·have i7:k∈l.map (·.1):=by
     rcases fw.mp bc with z|z
     ·exact absurd z.symm q
     ·exact z
    refine cz (ih hn.2 i7) λai ak=>?_
    constructor
    ·rw [tv];refine G (a8 q) (G h9 (G (a8 (by rw [<-lu.1];exact q)) ?_))
     exact .cons lu ai
    ·refine G zl (G ak ?_);simp
 unfold stored;by_cases bc:k∈l.map (·.1)
 ·exact cz (aoz ra hn bc) λai ak=>G (aY ak) ai
 ·refine cz (aiq ra bc) λai ak=>?_
  refine G (a8 (by rw [ak];simp)) (G ai ?_)
  exact ra.append (.cons ⟨rfl,hk,r⟩ .nil)
theorem ach(x:All2 (kM ρ) l d5)(hn:(l.map (·.1)).Nodup):All2 (kM ρ) (li l k) (zI d5 k):=by
 induction x with
 |nil=>exact .nil
 | @cons a b l d5 lu t ih=>
  obtain⟨y,u⟩:=a;obtain⟨eN,aJ⟩:=b;rw [h9,n4] at hn;have e:y=eN:=lu.1;subst e;have ih:=ih hn.2;refine G (show li ((y,u)::l) k=if y=k then l else(y,u)::li l k from rfl) ?_
  by_cases q:y=k
  ·subst q;have gX:y∉d5.map (·.1):=G (kM.keys t) hn.1;refine G (aY rfl) ?_;have :zI ((y,aJ)::d5) y=d5:=by
    unfold zI;refine G kE (G (a8 (by simp)) ?_)
    exact without_of_not_mem _ _ gX
   exact G this t
  ·refine G (a8 q) ?_;have :zI ((y,aJ)::d5) k=(y,aJ)::zI d5 k:=by
    unfold zI;(exact G kE (G (aY (by simpa using q)) rfl))
   exact G this (.cons lu ih)
theorem RT(B:l7 Θ.w h){a:a1}(ha:h.objs.size<=a):a≠CE:=by
 have :∃o,h.get? 927=J o:=by
  have e:((dk Θ.w.params).lookup 927).isSome=ae:=by kernel_rfl
  exact cm (sV.mp e) λo e=>⟨o,B.k _ _ e⟩
 refine cm this λo e=>?_
 have lt:h.objs.size>927:=gE e;rintro rfl
 have :h.objs.size<=1:=ha;lia
theorem acs(ok:bz Θ.fs (d+4) ah)(x:bD Θ Z ρ m H h)(aR:bg ρ (.new i) o')(hi:H[i]? =J (.dict l))(hk:fX k=ae)(pM:bg ρ k fO)(e:dV l k=J v):aa Θ ah Z ρ (oi o' fO) (dC m v H) h:=by
 obtain⟨p,hp,rfl⟩:=aR;have r:=x.rel.obj _ _ _ hp hi;refine tX (u1 r) λ_ _ d5 bA ra=>?_
 have aB:=Ad (k:=k) ra;rw [e] at aB;refine bT aB λaJ d1 g2=>?_
 refine aa.any ok λA s a6 pA bU e1 e2 aP=>?_
 subst e1;exact wpAny_getItem_of (knd:=lq Θ.w) (qK hk pM) bA.mapOf d1 ⟨.now x ⟨rfl,rfl,g2⟩,e2,aP⟩
theorem acr(ok:bz Θ.fs (d+4) ah)(x:bD Θ Z ρ m H h)(aR:bg ρ (.new i) o')(hi:H[i]? =J (.dict l))(hk:fX k=ae)(pM:bg ρ k fO):aa Θ ah Z ρ (s6 .In fO o') (dC m (.bool (dV l k).isSome) H) h:=by
 obtain⟨p,hp,rfl⟩:=aR;have r:=x.rel.obj _ _ _ hp hi;refine tX (u1 r) λ_ hs d5 bA ra=>?_
 have aB:=Ad (k:=k) ra;have e:(zH d5 k).isSome=(dV l k).isSome:=by
  cases q:dV l k with
  |none=>rw [q] at aB;exact G aB rfl
  |some v=>rw [q] at aB;refine bT aB λaJ aB _=>?_;exact G aB rfl
 refine aa.any ok λA s a6 pA bU e1 e2 aP=>?_
 subst e1;exact wpAny_in_of (knd:=lq Θ.w) (qK hk pM) (by simpa using hs) bA.mapOf ⟨.now x ⟨rfl,rfl,G e rfl⟩,e2,aP⟩
theorem acu{aJ:aG}(ok:bz Θ.fs (d+4) ah)(x:bD Θ Z ρ m H h)(aR:bg ρ (.new i) o')(hi:H[i]? =J (.dict l))(bu:i≠0)(hk:fX k=ae)(aq:bH l.length=ae)(pM:bg ρ k fO)(f0:bg ρ v aJ):
  aa Θ ah Z ρ (wF o' fO aJ) (lc m (H.set i (.dict (g9 l k v)))) h:=by
 obtain⟨p,hp,rfl⟩:=aR;have r:=x.rel.obj _ _ _ hp hi;obtain⟨-,-,-,-,-,hn,-⟩:=id r;refine tX (u1 r) λtI hs d5 bA ra=>?_
 obtain⟨p1,p2⟩:=p;dsimp only at tI hs bA;subst tI;have lN:l.length<=65536:=by simpa [bH] using aq
 refine aa.any ok λA s a6 pA bU e1 e2 aP=>?_
 subst e1;refine wpAny_setItem_pairs (knd:=lq Θ.w) (qK hk pM) bA (λav IH gc=>⟨d4.turned x hp bu (λb o ai _ e=>gc.extBut b o ai e) (iB gc.1.symm) (o:=.dict (g9 l k v)) (HY IH (acw hk f0 ra hn) hs) ⟨rfl,rfl⟩,e2,aP⟩) ?_
 refine G k9 (cU ra.length ?_);lia
theorem aco(ok:bz Θ.fs (d+4) ah)(x:bD Θ Z ρ m H h)(aR:bg ρ (.new i) o')(hi:H[i]? =J (.dict l))(bu:i≠0)(hk:fX k=ae)(aq:bH l.length=ae)(pM:bg ρ k fO)(e:(dV l k).isSome=ae):
  aa Θ ah Z ρ (zD o' fO) (lc m (H.set i (.dict (li l k)))) h:=by
 obtain⟨p,hp,rfl⟩:=aR;have r:=x.rel.obj _ _ _ hp hi;obtain⟨-,-,-,-,-,hn,-⟩:=id r;refine tX (u1 r) λtI hs d5 bA ra=>?_
 obtain⟨p1,p2⟩:=p;dsimp only at tI hs bA;subst tI;have aB:=Ad (k:=k) ra;refine cm (sV.mp e) λv Al=>?_
 rw [Al] at aB;refine bT aB λaJ d1 g2=>?_
 have lN:l.length<=65536:=by simpa [bH] using aq
 refine aa.any ok λA s a6 pA bU e1 e2 aP=>?_
 subst e1;unfold zD;try with_reducible refine rI ?_
 refine bN (λ_=>NZ bA.typeIs (by decide)) ?_
 refine b4 (uK (name:=oh "__delitem__") bA.typeIs PySem.F.slot_dict_delitem
  (call_meetsIn PySem.F.slot_dict_delitem bA.typeIs PySem.F.entry_dict_delitem (PySem.F.args_dict_delitem_2 _ _) (meets_dict_delitem_pairs (lq Θ.w) p1 (qK hk pM)) ⟨d5,bA,(by refine G k9 (cU ra.length ?_);lia),G d1 rfl,λav IH gc=>?_⟩))
 exact cK ⟨d4.turned x hp bu (λb o ai _ e=>gc.extBut b o ai e) (iB gc.1.symm) (o:=.dict (li l k)) (HY IH (ach ra hn) hs) ⟨rfl,rfl⟩,e2,aP⟩
theorem acp(ok:bz Θ.fs (d+4) ah)(x:bD Θ Z ρ m H h)(aR:bg ρ (.new i) o')(hi:H[i]? =J (.dict l))(hk:fX k=ae)(pM:bg ρ k fO):
  aa Θ ah Z ρ (PySem.call (.builtin "dict.get") [o',fO]) (dC m ((dV l k).getD .none) H) h:=by
 obtain⟨p,hp,rfl⟩:=aR;have r:=x.rel.obj _ _ _ hp hi;refine tX (u1 r) λ_ hs d5 bA ra=>?_
 have aB:=Ad (k:=k) ra;have e:bg ρ ((dV l k).getD .none) ((zH d5 k).getD .none):=by
  cases q:dV l k with
  |none=>rw [q] at aB;exact G aB rfl
  |some v=>rw [q] at aB;refine bT aB λaJ aB r=>?_;exact G aB r
 refine aa.any ok λA s a6 pA bU e1 e2 aP=>?_
 subst e1;exact call_meetsIn PySem.F.slot_dict_get bA.typeIs PySem.F.entry_dict_get (PySem.F.args_dict_get_2 _ _) (meets_dict_get (lq Θ.w) p.1 (qK hk pM) (by simpa using hs)) ⟨_,bA.mapOf,.now x ⟨rfl,rfl,e⟩,e2,aP⟩
theorem acq{Ac:L}{C6:aG}(ok:bz Θ.fs (d+4) ah)(x:bD Θ Z ρ m H h)(aR:bg ρ (.new i) o')(hi:H[i]? =J (.dict l))(hk:fX k=ae)(pM:bg ρ k fO)(KW:bg ρ Ac C6):
  aa Θ ah Z ρ (PySem.call (.builtin "dict.get") [o',fO,C6]) (dC m ((dV l k).getD Ac) H) h:=by
 obtain⟨p,hp,rfl⟩:=aR;have r:=x.rel.obj _ _ _ hp hi;refine tX (u1 r) λ_ hs d5 bA ra=>?_
 have aB:=Ad (k:=k) ra;have e:bg ρ ((dV l k).getD Ac) ((zH d5 k).getD C6):=by
  cases q:dV l k with
  |none=>rw [q] at aB;exact G aB KW
  |some v=>rw [q] at aB;refine bT aB λaJ aB r=>?_;exact G aB r
 refine aa.any ok λA s a6 pA bU e1 e2 aP=>?_
 subst e1;exact call_meetsIn PySem.F.slot_dict_get bA.typeIs PySem.F.entry_dict_get (PySem.F.args_dict_get_3 _ _ _) (meets_dict_get_default (lq Θ.w) p.1 (qK hk pM) (by simpa using hs) C6) ⟨_,bA.mapOf,.now x ⟨rfl,rfl,e⟩,e2,aP⟩
end
variable {i:Nat}{k v:L}{o':aG}
theorem tL{u:L}{a:Option Int}{ef:aG}(e:eA u=J a)(r:bg ρ u ef):IsPart ef a:=by
 cases u<;>simp only [eA] at e<;>first |(cases e;cases r;exact .none)|(cases e;refine cm r λt amd=>?_;obtain rfl:=amd;exact .int _ _)|exact br e
theorem ab7{ay bF:Type}{R:ay->bF->Prop}{l l':List ay}{m:List bF}(r:All2 R l m){a b:Option Int}(e:jY l a b=J l'):∃bV,jY m a b=J bV/\All2 R l' bV:=by
 unfold jY at e⊢;cases a<;>cases b<;>dsimp only at e⊢
 ·cases e;exact⟨_,rfl,r⟩
 ·refine dR e λaD e=>?_
  cases e;exact⟨_,aY aD,r.take⟩
 ·refine dR e λaD e=>?_
  cases e;exact⟨_,aY aD,r.drop⟩
 ·refine dR e λaD e=>?_
  cases e;exact⟨_,aY aD,r.take.drop⟩
theorem HP{bF:Type}(l:List bF)(a b:Nat):(l.drop (min a l.length)).take (min b l.length - min a l.length)=(l.take b).drop a:=by
 apply FY
 intro i;refine G List.getElem?_take (G List.getElem?_drop (G List.getElem?_drop (G List.getElem?_take ?_)));by_cases ai:i<min b l.length - min a l.length
 ·have ha:a<=l.length:=by
   rcases MW a l.length with q|q
   ·exact q
   ·rw [Ga q,Nat.sub_eq_zero_of_le (rx _ _)] at ai;exact absurd ai (M0 _)
  rw [pc ha] at ai⊢;(exact G (aY ai) (G (aY (eE (Nat.add_lt_of_lt_sub' ai) (sS _ _))) rfl))
 ·refine G (a8 ai) ?_;split
  ·(exact G (mP (Xh ai ‹_›)) rfl)
  ·rfl
theorem C5{bF:Type}{l l':List bF}{a b:Option Int}(e:jY l a b=J l'):
  l'=(l.drop (a.elim 0 (k7 l.length))).take (b.elim l.length (k7 l.length) - a.elim 0 (k7 l.length)):=by
 have m4:∀z:Int,0<=z->k7 l.length z=min z.toNat l.length:=λz hz=>by
  refine cm (ze hz) λk ame=>?_;obtain rfl:=ame
  exact Gr _ _
 cases a<;>cases b<;>dsimp only [Na] at e⊢
 ·cases e;simp
 ·refine dR e λaD e=>?_
  cases e;refine G (m4 _ aD.1) ?_;have :=HP l 0 (us ‹Int›);simpa using this.symm
 ·refine dR e λaD e=>?_
  cases e;refine G (m4 _ aD.1) ?_;have :=HP l (us ‹Int›) l.length;rw [List.take_length,Nat.min_self] at this;exact this.symm
 ·refine dR e λaD e=>?_
  cases e;refine G (m4 _ aD.1) (G (m4 _ aD.2.1) ?_);exact(HP l _ _).symm
theorem ab9{l l':List aG}{a b:Option Int}(e:jY l a b=J l'):slicePick l.toArray a b ac=l'.toArray:=by
 refine G (slicePick_plain ..) (G (C5 e ..) ?_);simp
theorem Jd{bF:Type}{l:List bF}{k:Int}{v:bF}(e:ij l k=J v):0<=k/\l[k.toNat]? =J v:=by
 unfold ij at e;split at e
 ·exact⟨by assumption,e⟩
 ·exact br e
theorem Ed{k:Int}(h:cG k=ae):k.natAbs<2^62:=by simpa [cG] using h
theorem fE{n:Nat}(h:bH n=ae):n<=65536:=by simpa [bH] using h
theorem oB{n:Nat}(h:bH n=ae):n<=mh:=by have :=fE h;refine G k9 ?_;lia
theorem ahd{i:Nat}{l:List L}{k:Int}{v:L}{o':aG}{t:Tok}(ok:bz Θ.fs (d+4) ah)(x:bD Θ Z ρ m H h)(aR:bg ρ (.new i) o')(hi:H[i]? =J (.list l))(hk:cG k=ae)(e:ij l k=J v):
  aa Θ ah Z ρ (oi o' (.int k t)) (dC m v H) h:=by
 obtain⟨p,hp,rfl⟩:=aR;obtain⟨-,vs,n,bj,r⟩:=x.rel.obj _ _ _ hp hi;refine cz (Jd e) λbu e=>bT (r.get e) λaJ cT f0=>?_
 have :=Ed hk;refine aa.any ok λA s a6 bA bU e1 e2 aP=>?_
 subst e1;exact wpAny_getItem_list (items:=vs.toArray) ⟨_,bj,rfl,n,rfl⟩ bu (by lia) (by simpa using cT) ⟨.now x ⟨rfl,rfl,f0⟩,e2,aP⟩
theorem apd{i:Nat}{l:List L}{k:Int}{v:L}{o':aG}{t:Tok}(ok:bz Θ.fs (d+4) ah)(x:bD Θ Z ρ m H h)(aR:bg ρ (.new i) o')(hi:H[i]? =J (.tup l))(hk:cG k=ae)(e:ij l k=J v):
  aa Θ ah Z ρ (oi o' (.int k t)) (dC m v H) h:=by
 obtain⟨p,hp,rfl⟩:=aR;obtain⟨-,vs,ce,r⟩:=x.rel.obj _ _ _ hp hi;refine cz (Jd e) λbu e=>bT (r.get e) λaJ cT f0=>?_
 have :=Ed hk;have aQ:k.toNat<vs.length:=(kF.mp cT).1;refine aa.any ok λA s a6 bA bU e1 e2 aP=>?_
 subst e1;refine PyProof.Rows.getItem_tuple (items:=vs.toArray) (j:=k.toNat) ce (by lia) (by lia) ?_ (by simpa using cT) ⟨.now x ⟨rfl,rfl,f0⟩,e2,aP⟩
 unfold seqIndex?;refine G (a8 (show¬k<0 by exact B5.mpr ‹_›)) ?_
 simp;exact OL bu aQ
theorem ahi{i:Nat}{l l':List L}{a b:Option Int}{o' eL:aG}(ok:bz Θ.fs (d+4) ah)(x:bD Θ Z ρ m H h)(aR:bg ρ (.new i) o')(vi:oE (Z:=Z) ρ h (.sl a b) eL)(aq:bH l.length=ae)
  (aQ:∀p:a1×a1,ρ[i]? =J p->∃vs,h.IsList p.1 (List.toArray vs)/\All2 (bg ρ) l vs) (e:jY l a b=J l'):
  aa Θ ah Z ρ (oi o' eL) (dC m (.new H.length) (H++[.list l'])) h:=by
 obtain⟨p,hp,rfl⟩:=aR;refine bT (aQ p hp) λvs bj r=>?_
 refine BK vi λq amf u w oA u4 ef ja jO nN hs _ _=>?_;obtain rfl:=amf
 refine bT (ab7 r e) λvs' ig fR=>aa.any ok λA s a6 bA bU e1 e2 aP=>?_
 subst e1;refine wpAny_getItem_list_slice (items:=vs.toArray) (lo:=a) (hi:=b) (st:=ac) bj ⟨_,hs,rfl,rfl⟩ (tL oA jO) (tL u4 nN) .none (by simp) ?_ ?_
 ·refine G (ab9 ig) (⟨d4.added x (gM.push _ _) (p:=(s.heap.objs.size,s.heap.objs.size)) (cW _) (cW _) (o:=.list l') ⟨rfl,vs',_,hU _ rfl,fR.mono λ_ _ z=>z.sub ⟨_,rfl⟩⟩ ⟨rfl,rfl,bg.last x.len⟩,e2,aP⟩)
 ·exact G iA (cU r.length (oB aq))
theorem ape{i:Nat}{l:List L}{a:Int}{o' eL:aG}(ok:bz Θ.fs (d+4) ah)(x:bD Θ Z ρ m H h)(aR:bg ρ (.new i) o')(vi:oE (Z:=Z) ρ h (.sl (J a) ac) eL)(aq:bH l.length=ae)
  (hi:H[i]? =J (.tup l)) (ai:1<=a) (ak:a<=l.length):aa Θ ah Z ρ (oi o' eL) (dC m (.new H.length) (H++[.tup (l.drop a.toNat)])) h:=by
 obtain⟨p,hp,rfl⟩:=aR;obtain⟨-,vs,ce,r⟩:=x.rel.obj _ _ _ hp hi;refine BK vi λq amg u w oA u4 ef ja jO nN hs _ _=>?_;obtain rfl:=amg
 have pu:=tL oA jO;have pw:=tL u4 nN;cases pw;cases pu;rename_i t;refine cm (ze (show 0<=a by exact zf ai)) λj amh=>?_;obtain rfl:=amh
 have aQ:=r.length;refine aa.any ok λA s a6 bA bU e1 e2 aP=>?_
 subst e1;refine getItem_tuple_from (items:=vs.toArray) (a:=j) ce ⟨_,hs,rfl,rfl⟩ (sI.mp ai) (by simp;lia) ?_ ?_
 ·refine⟨d4.added x (gM.push _ _) (p:=(s.heap.objs.size,s.heap.objs.size)) (cW _) (cW _) (o:=.tup (l.drop j)) ⟨rfl,vs.drop j,⟨_,hU _ rfl,rfl,_,rfl⟩,(r.drop).mono λ_ _ z=>z.sub ⟨_,rfl⟩⟩ ⟨rfl,rfl,bg.last x.len⟩,e2,aP⟩
 ·exact G iA (cU r.length (oB aq))
section
variable {M:qg}{A:k4}{E:aG->cs->Prop}{s:cs}
theorem T2{i:Int}{u:Tok}{Q:Option Int->cs->Prop}(c9:wx i=ae)(h:Q (J i) s):cN M A (Gh (.int i u)) Q E s:=by
 refine bN (λ_=>ie (wH s i u) F.slot_int_index.lookup) ?_
 show cN M A (if(!wx i)=ae then _ else bK (J i)) _ E s
 exact G c9 (cK h)
theorem T3{a:a1}{Q:Option Int->cs->Prop}(ce:s.TypeIs (.ref a) "slice")(h:Q ac s):cN M A (Gh (.ref a)) Q E s:=by
 exact bN (λ_=>ie ce slice_no_index) (cK h)
noncomputable def zV(v:aG):Sem aG:=do
 if v== .none then return .none
 if(<-specialOf v "__index__").isNone then
  rule "bytes.slice.part-no-index";raiseError "TypeError" "slice indices must be integers or None or have an __index__ method"
 return rH (<-asIndex v)
theorem aak(s:aG):Vx s=(do
 let step <-zV (<-rF s 2)
 if step==rH 0 then rule "bytes.slice.step-zero";raiseError "ValueError" "slice step cannot be zero"
 let An <-zV (<-rF s 0)
 let last <-zV (<-rF s 1)
 return(An,last,step)):=rfl
theorem LX{v:aG}{k:Option Int}{Q:aG->cs->Prop}(hv:IsPart v k)(h:Q (rawPart k) s):cN M A (zV v) Q E s:=by
 cases hv with
 |none=>exact cK h
 |int i t=>
  unfold zV;exact jt (show¬((Value.int i t==s1)=ae) from t7) (bN (λ_=>ie (T:="int") (wH s i t) int_index) (bN (λ_=>hG (a:=i) rfl) (cK h)))
theorem LY{sl:a1}{vU vV:aG}{lo hi:Option Int}{Q:aG×aG×aG->cs->Prop}(hs:s.heap.IsSliceOf sl vU vV .none)(pl:IsPart vU lo)(pu:IsPart vV hi)
  (h:Q (rawPart lo,rawPart hi,.none) s):cN M A (Vx (.ref sl)) Q E s:=by
 refine kS (id hs) λos vk asB IJ=>G (aak ..) (bN (λ_=>mi vk IJ (x:=.none) rfl) (bN (λ_=>LX .none) ?_))
 refine jt (show¬((rawPart ac==rH 0)=ae) from t7) (bN (λ_=>mi vk IJ (x:=vU) rfl) (bN (λ_=>LX pl) ?_))
 exact bN (λ_=>mi vk IJ (x:=vV) rfl) (bN (λ_=>LX pu) (cK h))
noncomputable abbrev jW(l:List UInt8):Obj:= {cls:=.type "bytearray",data:=.bytearray l.toArray}
theorem vX{a:a1}{l:List UInt8}{Q:Array UInt8->cs->Prop}(aR:s.heap.get? a=J (jW l))(h:Q l.toArray s):cN M A (Builtin.Bytes.payload (.ref a)) Q E s:=
 b4 (b4 (GA aR (cK (cK h))))
end
theorem xr:Manifest.owners.lookup (String.ofList ['y','a','r','r','a','e','t','y','b'].reverse)=J Manifest.sig_bytearray:=by kernel_rfl
theorem Th:Slot "bytearray" "__getitem__" "bytearray.__getitem__":=
 .of (owner:="bytearray") (n:="__getitem__") (by refine G (iM ..) (G (iL ..) ?_);kernel_rfl) (by decide+kernel) (by decide+kernel) (by decide+kernel)
  (by first |exact .inl (by decide+kernel)|exact .inr (by decide+kernel)) (by refine G (rG ..) ?_;kernel_rfl)
theorem ac2:qk nu "bytearray.__getitem__"=J Builtin.«bytearray.__getitem__»:=CA (by kernel_rfl)
theorem Yc(a b:aG):mg "bytearray.__getitem__" ⟨[a,b],[]⟩:=by
 unfold mg;refine G (zG (id:="bytearray.__getitem__") (n:=['_','_','m','e','t','i','t','e','g','_','_']) (o:=['y','a','r','r','a','e','t','y','b']) (by kernel_rfl) xr) ?_;kernel_rfl
theorem K5{k:Int}{n:Nat}(bu:0<=k)(ai:k.toNat<n):seqIndex? k n=J k.toNat:=by
 unfold seqIndex?;refine G (a8 (show¬k<0 by exact B5.mpr ‹_›)) ?_
 simp;exact OL bu ai
theorem adF{k:Int}(h:cG k=ae):wx k=ae:=by
 have :=Ed h;simp only [wx,he,decide_eq_true_eq];exact CM this
theorem Zg{i:Nat}{l:List UInt8}{k:Int}{v:UInt8}{o':aG}{t:Tok}(ok:bz Θ.fs (d+4) ah)(x:bD Θ Z ρ m H h)(aR:bg ρ (.new i) o')(hi:H[i]? =J (.ba l))(hk:cG k=ae)(e:ij l k=J v):
  aa Θ ah Z ρ (oi o' (.int k t)) (dC m (dh v) H) h:=by
 obtain⟨p,hp,rfl⟩:=aR;obtain⟨-,-,bj⟩:=x.rel.obj _ _ _ hp hi;refine cz (Jd e) λbu e=>?_
 have aQ:k.toNat<l.length:=(kF.mp e).1;refine aa.any ok λA s a6 bA bU e1 e2 aP=>?_
 subst e1;refine wpAny_getItem_slot (T:="bytearray") ⟨_,bj,rfl⟩ (by decide) Th (qn Th ⟨_,bj,rfl⟩ ac2 ?_ (Yc _ _))
 show cN _ _ (Gh (.int k t)>>=_) _ _ s
 refine bN (λ_=>T2 (adF hk)) (bN (λ_=>vX bj) (G iA (G (K5 bu aQ) ?_)))
 have cT:l.toArray[k.toNat]? =J v:=by simpa using e
 simp only [M9,cT];exact bN (λ_=>wpAny_mkInt) (cK ⟨_,rfl,.now x ⟨rfl,rfl,_,rfl⟩,e2,aP⟩)
theorem aos{l l':List UInt8}{a b:Option Int}(e:jY l a b=J l'):
  Vy l.toArray ((a.elim 0 (k7 l.length):Nat):Int) ((b.elim l.length (k7 l.length):Nat):Int) 1=l'.toArray:=by
 unfold Vy;(exact G (sliceRange_one ..) (G (pick_run ..) (G (C5 e) rfl)))
theorem ab8{bF:Type}{l l':List bF}{a b:Option Int}(e:jY l a b=J l'):l'.length<=l.length:=by
 (refine G (C5 e) (G o5 (G wl ?_)));exact cQ (rx _ _) (sT _ _)
theorem aav{l l':List UInt8}{a b:Option Int}{o' eL:aG}(ok:bz Θ.fs (d+4) ah)(x:bD Θ Z ρ m H h)(aR:bg ρ (.bytes l) o')(vi:oE (Z:=Z) ρ h (.sl a b) eL)(aq:bH l.length=ae)(e:jY l a b=J l'):
  aa Θ ah Z ρ (oi o' eL) (dC m (.bytes l') H) h:=by
 refine cm aR λt ami=>?_;obtain rfl:=ami
 refine BK vi λq amj u w oA u4 ef ja jO nN hs _ _=>?_;obtain rfl:=amj
 refine aa.any ok λA s a6 bA bU e1 e2 aP=>?_
 subst e1;have Qt:s.TypeIs (.ref q) "slice":=⟨_,hs,rfl⟩;refine wpAny_getItem_slot (T:="bytes") rfl (by decide) VG (qn VG rfl FB.entry_bytes_getitem ?_ (FB.args_bytes_getitem_2 _ _))
 show cN _ _ (Gh (.ref q)>>=_) _ _ s
 refine bN (λ_=>T3 Qt) (bN (λ_=>ta Qt) (jt (by decide) (bN (λ_=>LY ⟨_,hs,rfl,rfl⟩ (tL oA jO) (tL u4 nN)) (bN (λ_=>hG (sliceIndices_raw a b ac l.toArray.size (by simp))) (G iA (G (sliceBounds_plain ..) ?_))))))
 dsimp only;have cp:∀t,d4 Θ Z ρ s.heap (dC m (.bytes l') H) (.bytes l'.toArray t) s.heap:=λt=>.now x ⟨rfl,rfl,t,rfl⟩
 split
 ·rename_i aD;simp only [he,beq_iff_eq] at aD;have gs:a.elim 0 (k7 l.length)=0:=by have :=aD.1.1.1;exact Int.ofNat_eq_zero.mp this
  have fu:b.elim l.length (k7 l.length)=l.length:=by have :=aD.1.2;exact Int.ofNat_inj.mp this
  have ei:=C5 e;rw [gs,fu] at ei;have ei:l'=l:=by refine G ei ?_;simp
  subst ei;exact bN (λ_=>ta (T:="bytes") rfl) (yM (by decide) (bN (λ_=>rJ) (cK ⟨_,rfl,cp t,e2,aP⟩)))
 ·refine G (aos e) ?_;have hz:=ab8 e;exact b4 (GC (cK ⟨_,rfl,cp _,e2,aP⟩) (G iA (cQ hz (oB aq))))
set_option tactic.hygienic true in
theorem Q2{H:an}{P:L->nl->L->an->Prop}
  (k1:∀ {i l k w},H[i]? =J (.list l)->cG k=ae->ij l k=J w->P (.new i) (.at_ (.int k)) w H)
  (k2:∀ {i l k w},H[i]? =J (.tup l)->cG k=ae->ij l k=J w->P (.new i) (.at_ (.int k)) w H)
  (k3:∀ {i l k w},H[i]? =J (.ba l)->cG k=ae->ij l k=J w->P (.new i) (.at_ (.int k)) (dh w) H)
  (oH:∀ {i l k w},H[i]? =J (.dict l)->fX k=ae->dV l k=J w->P (.new i) (.at_ k) w H)
  (k5:∀ {i l a b w},H[i]? =J (.list l)\/H[i]? =J (.scr l)->bH l.length=ae->jY l a b=J w->P (.new i) (.sl a b) (.new H.length) (H++[.list w]))
  (Q8:∀ {i l} {a:Int},H[i]? =J (.tup l)->1<=a/\a<=l.length/\bH l.length=ae->P (.new i) (.sl (J a) ac) (.new H.length) (H++[.tup (l.drop a.toNat)]))
  (af9:∀ {l a b w},bH l.length=ae->jY l a b=J w->P (.bytes l) (.sl a b) (.bytes w) H):
  ∀ {o ix v bb},cj o ix H=J (v,bb)->P o ix v bb:=λ{o ix v bb} e=>by
 have ku:∀ {ay:Type} {x:Option ay} {f:ay->L×an} {Q:L->an->Prop},x.map f=J (v,bb)->(∀w,x=J w->Q (f w).1 (f w).2)->Q v bb:=λ{ay x f Q} e k=>by
  rcases x with _|w
  ·exact br e
  ·have :=k w rfl;rw [ci e] at this;exact this
 rcases ix with k|⟨a,b⟩
 ·rcases o<;>first |exact br e|skip
  rename_i i;delta cj at e
  dsimp only at e;generalize bX:H[i]? =q at e;rcases q with _|q
  ·exact br e
  ·rcases q<;>first |exact br e|skip
   ·rcases k<;>first |exact br e|exact dR e λhk e=>ku (Q:=P _ _) e λw e=>k1 bX hk e
   ·rcases k<;>first |exact br e|exact dR e λhk e=>ku (Q:=P _ _) e λw e=>k2 bX hk e
   ·rename_i l;have e:(if fX k then(dV l k).map (·,H) else ac)=J (v,bb):=by rcases k<;>exact e
    exact dR e λhk e=>ku (Q:=P _ _) e λw e=>oH bX hk e
   ·rcases k<;>first |exact br e|exact dR e λhk e=>ku (Q:=P _ _) e λw e=>k3 bX hk e
 ·rcases o<;>first |exact br e|skip
  ·exact dR e λhk e=>ku (Q:=P _ _) e λw e=>af9 hk e
  ·rename_i i;delta cj at e
   dsimp only at e;generalize bX:H[i]? =q at e;rcases q with _|q
   ·exact br e
   ·rcases q<;>first |exact br e|skip
    ·exact dR e λhk e=>ku (Q:=P _ _) e λw e=>k5 (.inl bX) hk e
    ·rcases a with _|a
     ·exact br e
     ·rcases b with _|b
      ·exact dR e λhk e=>by refine lX e λamk aml=>?_;obtain rfl:=amk;obtain rfl:=aml;exact Q8 bX hk
      ·exact br e
    ·exact dR e λhk e=>ku (Q:=P _ _) e λw e=>k5 (.inr bX) hk e
theorem agU{o v:L}{ix:nl}{o' eL:aG}(ok:bz Θ.fs (d+4) ah)(x:bD Θ Z ρ m H h)(aR:bg ρ o o')(hi:oE (Z:=Z) ρ h ix eL)(e:cj o ix H=J (v,bb)):aa Θ ah Z ρ (oi o' eL) (dC m v bb) h:=by
 refine Q2 (P:=λo ix v bb=>∀o' eL,bg ρ o o'->oE (Z:=Z) ρ h ix eL->aa Θ ah Z ρ (oi o' eL) (dC m v bb) h) ?_ ?_ ?_ ?_ ?_ ?_ ?_ e o' eL aR hi
 ·intro i l k w bX hk iO o' eL aR hi;refine cm hi λt amm=>?_;obtain rfl:=amm
  exact ahd ok x aR bX hk iO
 ·intro i l k w bX hk iO o' eL aR hi;refine cm hi λt amn=>?_;obtain rfl:=amn
  exact apd ok x aR bX hk iO
 ·intro i l k w bX hk iO o' eL aR hi;refine cm hi λt amo=>?_;obtain rfl:=amo
  exact Zg ok x aR bX hk iO
 ·exact λbX hk iO o' eL aR hi=>acs ok x aR bX hk hi iO
 ·intro i l a b w bX aq iO o' eL aR hi;refine ahi ok x aR hi aq (λp hp=>?_) iO
  rcases bX with bX|bX
  ·obtain⟨-,vs,n,bj,r⟩:=x.rel.obj _ _ _ hp bX;exact⟨vs,⟨_,bj,rfl,n,rfl⟩,r⟩
  ·obtain⟨-,vs,bj,r⟩:=x.rel.obj _ _ _ hp bX;exact⟨vs,bj,r⟩
 ·exact λbX aD o' eL aR hi=>ape ok x aR hi aD.2.2 bX aD.1 aD.2.1
 ·exact λaq iO o' eL aR hi=>aav ok x aR hi aq iO
variable {A:k4}{E:aG->cs->Prop}{s:cs}
section
variable {k:Int}{t:Tok}
theorem Lb:Slot "bytearray" "__setitem__" "bytearray.__setitem__":=
 .of (owner:="bytearray") (n:="__setitem__") (by refine G (iM ..) (G (iL ..) ?_);kernel_rfl) (by decide+kernel) (by decide+kernel) (by decide+kernel)
  (by first |exact .inl (by decide+kernel)|exact .inr (by decide+kernel)) (by refine G (rG ..) ?_;kernel_rfl)
theorem P1:qk nu "bytearray.__setitem__"=J Builtin.«bytearray.__setitem__»:=CA (by kernel_rfl)
theorem OU(a b c:aG):mg "bytearray.__setitem__" ⟨[a,b,c],[]⟩:=by
 unfold mg;refine G (zG (id:="bytearray.__setitem__") (n:=['_','_','m','e','t','i','t','e','s','_','_']) (o:=['y','a','r','r','a','e','t','y','b']) (by kernel_rfl) xr) ?_;kernel_rfl
section
variable {M:qg}
theorem T1{o i v:aG}{T id:String}{Q:Unit->cs->Prop}(gm:s.TypeIs o T)(hn:seqItemTypes.contains T=aA)(qX:Slot T "__setitem__" id)
  (aD:cN M A (call (.builtin id) [o,i,v]) (λ_ aS=>Q () aS) E s):cN M A (wF o i v) Q E s:=by
 refine rI (bN (λ_=>NZ gm hn) (b4 (uK gm qX (wI aD (λv aS av=>cK av) λ_ _ e=>e))))
theorem TY{a:a1}{l:List UInt8}{f:Array UInt8->Array UInt8}{Q:Unit->cs->Prop}(aR:s.heap.get? a=J (jW l))(hs:(f l.toArray).size<=mh)
  (h:Q () {s with heap:=s.heap.update a (wz f)}):cN M A (Gj (.ref a) f) Q E s:=by
 show cN _ _ (updateBytearray a f) _ _ _
 refine bN (λ_=>GA aR) (bN (λ_=>wpAny_update aR) ?_)
 have aB:(s.heap.update a (wz f)).get? a=J {cls:=.type "bytearray",data:=.bytearray (f l.toArray)}:=sZ _ aR rfl;refine NY aB ?_ h;have :(f l.toArray).size<=mh:=hs;unfold Data.pastItsLine;dsimp only;(exact G (a8 (n8.mpr hs)) rfl)
end
theorem ahh{l:List L}{v:L}{aJ:aG}(ok:bz Θ.fs (d+4) ah)(x:bD Θ Z ρ m H h)(aR:bg ρ (.new i) o')(hi:H[i]? =J (.list l))(bu:i≠0)(hv:bg ρ v aJ)(hk:cG k=ae)(k0:0<=k)(k1:k<l.length):
  aa Θ ah Z ρ (wF o' (.int k t) aJ) (lc m (H.set i (.list (l.set k.toNat v)))) h:=by
 obtain⟨p,hp,rfl⟩:=aR;obtain⟨nK,vs,n,bj,r⟩:=x.rel.obj _ _ _ hp hi;have :=Ed hk;have aQ:=r.length;refine aa.any ok λA s a6 bA bU e1 e2 aP=>?_
 subst e1;refine T1 (T:="list") ⟨_,bj,rfl⟩ (by decide) slot_list_setitem (qn slot_list_setitem ⟨_,bj,rfl⟩ entry_list_setitem ?_ (args_list_setitem _ _ _))
 show cN _ _ (Builtin.List.listSubscript? (.int k t)>>=_) _ _ s
 refine bN (λ_=>wpAny_listSubscript_int (fitsIndex_of k0 (by lia))) ?_
 obtain⟨j,rfl⟩:=ze k0;have cY:j<vs.toArray.size:=by simp;lia
 have Dz:vs.toArray[j]? =J vs.toArray[j]:=Ms cY;refine b4 (b4 (wpAny_seqItemAt bj rfl (cK ?_)));refine G Dz ?_;have qQ:∀b,b≠p.1->(s.heap.update p.1 (rA (·.setIfInBounds j aJ))).get? b=s.heap.get? b:=λb hb=>uE _ _ (λz=>hb z.symm)
 have cp:d4 Θ Z ρ s.heap (lc m (H.set i (.list (l.set j v)))) () (s.heap.update p.1 (rA (·.setIfInBounds j aJ))):=by
  refine d4.turned x hp bu (λb o ai ak e=>(qQ b ai).trans e) (G (qf ..) (cW _)) (o:=.list (l.set j v)) ⟨nK,vs.set j aJ,n,?_,r.set hv⟩ ⟨rfl,rfl⟩
  refine G (sZ _ bj (by simp [rA];rfl)) ?_
  simp [rA]
 exact bN (λ_=>wpAny_setSeqItemAt bj rfl) (cK ⟨.none,rfl,cp,e2,aP⟩)
set_option tactic.hygienic true in
theorem Zl{l:List UInt8}{v:L}{c:UInt8}{aJ:aG}(ok:bz Θ.fs (d+4) ah)(x:bD Θ Z ρ m H h)(aR:bg ρ (.new i) o')(hi:H[i]? =J (.ba l))(bu:i≠0)(hv:bg ρ v aJ)(aD:oK v=J c)(aq:bH l.length=ae)(k0:0<=k)(k1:k<l.length):
  aa Θ ah Z ρ (wF o' (.int k t) aJ) (lc m (H.set i (.ba (l.set k.toNat c)))) h:=by
 obtain⟨p,hp,rfl⟩:=aR;obtain⟨nK,-,bj⟩:=x.rel.obj _ _ _ hp hi;have :=fE aq;refine aa.any ok λA s a6 bA bU e1 e2 aP=>?_
 subst e1;refine T1 (T:="bytearray") ⟨_,bj,rfl⟩ (by decide) Lb (qn Lb ⟨_,bj,rfl⟩ P1 ?_ (OU _ _ _))
 refine bN (λ_=>T2 (by simp only [wx,he,decide_eq_true_eq];lia)) ?_
 unfold oK at aD;split at aD
 ·rename_i z;obtain⟨u,rfl⟩:=hv;split at aD
  ·rename_i hz;obtain rfl:=ci aD;refine b4 (b4 (hG (a:=z) rfl ?_));refine jt (by simp;exact And.symm (And.comm.mp hz)) ?_
   refine cK (bN (λ_=>vX bj) (G iA (G (K5 k0 ((MJ ‹_›).mpr ‹_›)) ?_)))
   have qQ:∀b,b≠p.1->(s.heap.update p.1 (wz (·.setIfInBounds k.toNat (hV z.toNat)))).get? b=s.heap.get? b:=λb hb=>uE _ _ (λz=>hb z.symm)
   have cp:d4 Θ Z ρ s.heap (lc m (H.set i (.ba (l.set k.toNat (hV z.toNat))))) () (s.heap.update p.1 (wz (·.setIfInBounds k.toNat (hV z.toNat)))):=by
    refine d4.turned x hp bu (λb o ai ak e=>(qQ b ai).trans e) (G (qf ..) (cW _)) (o:=.ba (l.set k.toNat (hV z.toNat))) ⟨nK,(),?_⟩ ⟨rfl,rfl⟩
    refine G (sZ _ bj rfl) ?_;simp [wz]
   refine bN (λ_=>TY bj (by simp;exact oB aq)) ?_
   exact cK ⟨.none,rfl,cp,e2,aP⟩
  ·exact br aD
 ·exact br aD
theorem ahe{l:List L}(ok:bz Θ.fs (d+4) ah)(x:bD Θ Z ρ m H h)(aR:bg ρ (.new i) o')(hi:H[i]? =J (.list l))(bu:i≠0)(aq:bH l.length=ae)(k0:0<=k)(k1:k<l.length):
  aa Θ ah Z ρ (zD o' (.int k t)) (lc m (H.set i (.list (l.eraseIdx k.toNat)))) h:=by
 obtain⟨p,hp,rfl⟩:=aR;obtain⟨nK,vs,n,bj,r⟩:=x.rel.obj _ _ _ hp hi;have :=fE aq;have aQ:=r.length;refine aa.any ok λA s a6 bA bU e1 e2 aP=>?_
 subst e1;refine P.delItem_list (n:=n) (items:=vs.toArray) (k:=k.toNat) bj ?_ (G iA (K5 k0 (Xr k0 k1 aQ))) ?_ (G iA (cU aQ (oB aq)))
 ·simp only [VA,he,decide_eq_true_eq];lia
 ·have qQ:∀b,b≠p.1->(s.heap.update p.1 (rA λeW=>eW.eraseIdxIfInBounds k.toNat)).get? b=s.heap.get? b:=λb hb=>uE _ _ (λz=>hb z.symm)
  have :=IsL.update (n:=n) (show IsL s.heap p.1 vs.toArray n from bj) (λeW=>eW.eraseIdxIfInBounds k.toNat)
  have z:vs.toArray.eraseIdxIfInBounds k.toNat=(vs.eraseIdx k.toNat).toArray:=by simp
  rw [z] at this;exact⟨d4.turned x hp bu (λb o ai ak e=>(qQ b ai).trans e) (G (qf ..) (cW _)) (o:=.list (l.eraseIdx k.toNat)) ⟨nK,vs.eraseIdx k.toNat,_,this,r.eraseIdx⟩ ⟨rfl,rfl⟩,e2,aP⟩
set_option tactic.hygienic true in
theorem aci{H:an}{P:L->L->an->Prop}
  (k1:∀ {i l k},H[i]? =J (.list l)->i≠0->bH l.length=ae/\0<=k/\k<l.length->P (.new i) (.int k) (H.set i (.list (l.eraseIdx k.toNat))))
  (k2:∀ {i l k},H[i]? =J (.dict l)->i≠0->(fX k&&bH l.length&&(dV l k).isSome)=ae->P (.new i) k (H.set i (.dict (li l k)))):
  ∀ {o k bb},pt o k H=J bb->P o k bb:=λ{o k bb} e=>by
 have ku:∀ {i:Nat} {x:bt} {Q:an->Prop},wr H i x=J bb->(i≠0->Q (H.set i x))->Q bb:=λ{i x Q} e k=>by
  exact xf e λh e=>cU (ci e) (k h)
 rcases o<;>first |exact br e|skip
 rename_i i;delta pt at e
 dsimp only at e;generalize bX:H[i]? =q at e;rcases q with _|q
 ·exact br e
 ·rcases q<;>first |exact br e|skip
  ·rcases k<;>first |exact br e|exact dR e λhk e=>ku (Q:=P _ _) e λh=>k1 bX h hk
  ·rename_i l;have e:(if fX k&&bH l.length&&(dV l k).isSome then wr H i (.dict (li l k)) else ac)=J bb:=by rcases k<;>exact e
   exact dR e λhk e=>ku (Q:=P _ _) e λh=>k2 bX h hk
theorem agR{o k:L}{fO:aG}(ok:bz Θ.fs (d+4) ah)(x:bD Θ Z ρ m H h)(aR:bg ρ o o')(hk:bg ρ k fO)(e:pt o k H=J bb):aa Θ ah Z ρ (zD o' fO) (lc m bb) h:=by
 refine aci (P:=λo k bb=>∀o' fO,bg ρ o o'->bg ρ k fO->aa Θ ah Z ρ (zD o' fO) (lc m bb) h) ?_ ?_ e o' fO aR hk
 ·intro i l k bX bu aD o' fO aR hk;obtain⟨t,rfl⟩:=hk;exact ahe ok x aR bX bu aD.1 aD.2.1 aD.2.2
 ·exact λbX bu aD o' fO aR hk=>aco ok x aR bX bu (eZ (eZ aD)) (eJ (eZ aD)) hk (eJ aD)
end
variable {t:Tok}
section
variable {a9:List a1}
section
variable {w:eS}{bp:gv}{n:Nat}
theorem Jk{T:String}{name:Str}{id:String}{B:Builtin}{self:aG}{ct:List aG}{Q:aG->bq->Prop}(ok:bz a9 (n+1) ah)(qX:Slot T name id)(ce:∀s:cs,s.heap=h->s.TypeIs self T)
  (hb:qk nu id=J B) (ha:mg id ⟨self::ct,[]⟩) (hn:qv.contains id=aA)
  (k:∀gU,bz a9 n gU->af w bp gU (B ⟨self::ct,[]⟩) (λcp av=>match cp with | .done f=>∃v,f=.ret v/\Q v av| .again c'=>c'.quiet=ae/\ji w bp (gU.goto c') Q av) h):af w bp ah (PySem.call (.builtin id) (self::ct)) Q h:=by
 refine af.call λp=>Q5 rfl ?_
 have D3:=ok.call (.builtin id) ⟨self::ct,[]⟩ p;obtain⟨A,cS,_⟩:=D3.room;refine af.any cS λs aM a7 q3=>qX.check _ _ _ _ _ _ _ _ (ce s aM) ha ⟨⟨zE qX.plain _,?_⟩,a7,q3⟩
 refine G aM ?_;exact DL rfl hb (k _ (ok.enter (.call (.builtin id) ⟨self::ct,[]⟩) (.builtin id ⟨self::ct,[]⟩) p (by show(!qv.contains id)=ae;exact G hn rfl) (G (plainId_weight qX.plain ..) (hf _)) (G (plainId_units qX.plain ..) (mQ rfl))))
theorem af5{T newId m1:String}{Mv:Builtin}{df:List aG}{Q:aG->bq->Prop}(ok:bz a9 (n+3) ah)(qz:TypeCalled T newId m1)(aeO:Gq T ⟨df,[]⟩=bK ())(ac1:qk nu m1=J Mv)
  (hn:qv.contains m1=aA)
  (ae9:∀gU,bz a9 (n+2) gU->af w bp gU (PySem.call (.builtin newId) (.type T::df)) (λmv ai=>(∀s:cs,s.heap=ai->s.TypeIs mv T)/\mg m1 ⟨mv::df,[]⟩/\
   ∀E2,bz a9 n E2->af w bp E2 (Mv ⟨mv::df,[]⟩) (λcp av=>match cp with | .done f=>∃v,f=.ret v/\v=.none/\Q mv av| .again c'=>c'.quiet=ae/\ji w bp (E2.goto c') (λv av=>v=.none/\Q mv av) av) ai) h):
  af w bp ah (PySem.call (.type T) df) Q h:=by
 refine af.call λp=>ji.tree rfl ?_
 have D3:=ok.call (.type T) ⟨df,[]⟩ p;show af w bp _ (callAny (.type T) ⟨df,[]⟩) _ h
 refine af.again (c:=.builtin "type.__call__" ⟨.type T::df,[]⟩) ⟨Gk _ (by decide+kernel),?_⟩
 have oL:bz a9 (n+2) ((ah.enter (.call (.type T) ⟨df,[]⟩) ac p).goto (.builtin "type.__call__" ⟨.type T::df,[]⟩)):=ok.enter _ _ p (by show(!qv.contains "type.__call__")=ae;decide+kernel) (by show 0<=2;exact hf _) (by show 1<=40;exact mQ rfl)
 refine DL rfl NN ?_;unfold Builtin.«type.__call__»;refine oX qz.mro λc nP ae8=>?_
 refine af.ifn (by refine G qz.notType ?_;decide) ?_
 refine af.ifn (by refine G qz.canCreate ?_;decide) ?_
 refine G aeO (G ae8 ?_);refine af.bind (af.pure (af.bind (af.pure ?_)));refine af.ifn (by simp) (G qz.made (af.bind (af.pure (af.bind (af.pure ?_)))))
 refine af.bind (af.holding (af.mono (ae9 _ oL) λmv ai cV=>?_))
 refine dS cV λce ha k=>?_
 obtain⟨wa,Dp,_⟩:=oL.room;refine af.bind (af.any Dp λs aM a7 q3=>s8 (ce s aM) qz.sub ⟨?_,a7,q3⟩)
 refine G aM (af.ifn (by decide) (af.bind (af.holding ?_)))
 refine af.bind (af.any Dp λs aM a7 q3=>ie (ce s aM) qz.init.lookup ⟨?_,a7,q3⟩)
 refine G aM ?_;dsimp only;refine G (qz.init.bind ..) (af.holding (af.bind (af.pure (af.bind ?_))));refine af.mono (Jk (n:=n+1) (Q:=λv av=>v=.none/\Q mv av) oL qz.init ce ac1 ha hn λgU hM=>af.mono (k gU (hM.mono (kZ n 1))) λcp av q=>?_) λv av q=>?_
 ·induction cp using PySem.Fin.casesOn with
  |done f=>refine bT q λv a b=>?_;exact⟨v,a,b⟩
  |again c=>exact q
 ·obtain⟨rfl,q⟩:=q;exact af.pure (af.ret ⟨_,rfl,q⟩)
end
end
variable {a9:List a1}{w:eS}{n:Nat}
section
variable {Q:Bool->cs->Prop}
theorem RK:mroOf (.type "bytearray")=bK [.type "bytearray",.type "object"]:=by refine G (mroOf_type ..) ?_;kernel_rfl
theorem ahs:jp (.type "bytearray") "__new__"=bK (J (.builtin "bytearray.__new__")):=by refine G (iM ..) (G (iL ..) ?_);kernel_rfl
theorem aou:Slot "bytearray" "__init__" "bytearray.__init__":=
 .of (owner:="bytearray") (n:="__init__") (by refine G (iM ..) (G (iL ..) ?_);kernel_rfl) (by decide+kernel) (by decide+kernel) (by decide+kernel)
  (by first |exact .inl (by decide+kernel)|exact .inr (by decide+kernel)) (by refine G (rG ..) ?_;kernel_rfl)
theorem abG:TypeCalled "bytearray" "bytearray.__new__" "bytearray.__init__":=
 ⟨by decide+kernel,by decide+kernel,⟨_,_,RK⟩,madeBy_type RK ahs (by decide+kernel),by decide+kernel,by refine G (rG ..) ?_;kernel_rfl,aou⟩
theorem apk:Gq "bytearray" ⟨[],[]⟩=bK ():=by kernel_rfl
theorem apl(a:aG):Gq "bytearray" ⟨[a],[]⟩=bK ():=by kernel_rfl
theorem ah1:rD "bytearray.__new__" ⟨[.type "bytearray"],[]⟩=bK ():=by kernel_rfl
theorem ah2(a:aG):rD "bytearray.__new__" ⟨[.type "bytearray",a],[]⟩=bK ():=by kernel_rfl
theorem ac5:qk nu "bytearray.__new__"=J Builtin.«list.__new__»:=
 entryFor_alias (id':="list.__new__") (by refine G (fastTable_eq_tree ..) ?_;kernel_rfl) (by decide+kernel) (by decide+kernel) (by refine G (fastTable_eq_tree ..) ?_;kernel_rfl)
theorem ac3:qk nu "bytearray.__init__"=J Builtin.«bytearray.__init__»:=CA (by kernel_rfl)
theorem SL:plainId "bytearray.__new__"=ae:=by decide+kernel
set_option maxRecDepth 1000000 in
set_option maxHeartbeats 4000000 in
theorem ai4:("bytearray.__new__".splitOn ".__new__").headD ""="bytearray":=by simp +decide [String.splitOn,String.splitOnAux]
theorem Lf:isSubtype (.type "bytearray") (.type "bytearray")=bK ae:=by refine G (rG ..) ?_;kernel_rfl
theorem Yd(a:aG):mg "bytearray.__init__" ⟨[a],[]⟩:=by
 unfold mg;refine G (zG (id:="bytearray.__init__") (n:=['_','_','t','i','n','i','_','_']) (o:=['y','a','r','r','a','e','t','y','b']) (by kernel_rfl) xr) ?_;kernel_rfl
theorem Ye(a b:aG):mg "bytearray.__init__" ⟨[a,b],[]⟩:=by
 unfold mg;refine G (zG (id:="bytearray.__init__") (n:=['_','_','t','i','n','i','_','_']) (o:=['y','a','r','r','a','e','t','y','b']) (by kernel_rfl) xr) ?_;kernel_rfl
theorem Zk:jp (.type "bytearray") "__release_buffer__"=bK (J (.builtin "bytearray.__release_buffer__")):=by refine G (iM ..) (G (iL ..) ?_);kernel_rfl
theorem aau:jp (.type "bytes") "__release_buffer__"=bK ac:=by refine G (iM ..) (G (iL ..) ?_);kernel_rfl
theorem uS:jp (.type "bytes") "__buffer__"=bK (J (.builtin "bytes.__buffer__")):=by refine G (iM ..) (G (iL ..) ?_);kernel_rfl
theorem GY:jp (.type "bytearray") "__buffer__"=bK (J (.builtin "bytearray.__buffer__")):=by refine G (iM ..) (G (iL ..) ?_);kernel_rfl
theorem Pe:jp (.type "bytes") "__index__"=bK ac:=by refine G (iM ..) (G (iL ..) ?_);kernel_rfl
theorem aat:jp (.type "bytes") "__int__"=bK ac:=by refine G (iM ..) (G (iL ..) ?_);kernel_rfl
theorem aas:jp (.type "bytes") "__float__"=bK ac:=by refine G (iM ..) (G (iL ..) ?_);kernel_rfl
theorem aar:isSubtype (.type "bytes") (.type "complex")=bK aA:=by refine G (rG ..) ?_;kernel_rfl
theorem aaq:isSubtype (.type "bytes") (.type "bytearray")=bK aA:=by refine G (rG ..) ?_;kernel_rfl
theorem acx:("bytearray.__release_buffer__":String).dropRight ("__release_buffer__".length+1)="bytearray":=by decide+kernel
theorem acy:("bytearray.__buffer__":String).dropRight ("__buffer__".length+1)="bytearray":=by decide+kernel
theorem PW:("bytes.__buffer__":String).dropRight ("__buffer__".length+1)="bytes":=by decide+kernel
theorem acX:("bytearray.__release_buffer__":String).endsWith ("."++"__release_buffer__")=ae:=by decide+kernel
theorem acY:("bytearray.__buffer__":String).endsWith ("."++"__buffer__")=ae:=by decide+kernel
theorem P0:("bytes.__buffer__":String).endsWith ("."++"__buffer__")=ae:=by decide+kernel
section
variable {M:qg}
theorem EY{o:aG}{T id name:String}(gm:s.TypeIs o T)(aQ:jp (.type T) (name:Str)=bK (J (.builtin id)))(bl:id.endsWith ("."++name)=ae)
  (bA:id.dropRight (name.length+1)=T) (hs:isSubtype (.type T) (.type T)=bK ae) (h:Q ae s):cN M A (Vz o name) Q E s:=by
 refine bN (λ_=>ie gm aQ) ?_
 dsimp only;refine G bl (G (a8 (by decide)) (G bA ?_))
 exact s8 gm hs h
theorem aqV{o:aG}{T name:String}(gm:s.TypeIs o T)(aQ:jp (.type T) (name:Str)=bK ac)(h:Q ae s):cN M A (Vz o name) Q E s:=
 bN (λ_=>ie gm aQ) (cK h)
theorem T0{a:a1}{l:List UInt8}(aR:s.heap.get? a=J (jW l))(h:Q aA s):cN M A (Vw (.ref a)) Q E s:=
 bN (λ_=>EY (T:="bytearray") ⟨_,aR,rfl⟩ Zk acX acx Lf) (cK h)
theorem aqU{b:Array UInt8}{t:Tok}(h:Q aA s):cN M A (Vw (.bytes b t)) Q E s:=
 bN (λ_=>aqV (T:="bytes") rfl aau) (cK h)
theorem EX{id:String}{Io:Bool}{b:Array UInt8}{t:Tok}{Q:Option (Array UInt8)->cs->Prop}(h:Q (J b) s):cN M A (Vt id (.bytes b t) Io) Q E s:=by
 exact bN (λ_=>ie (T:="bytes") rfl uS) (bN (λ_=>EY (T:="bytes") rfl uS P0 PW F.sub_bytes_bytes) (jt (by decide) (bN (λ_=>ie (T:="bytes") rfl uS) (bN (λ_=>aqU) (jt (by decide) (bN (λ_=>cK) (cK h)))))))
theorem aqR{id:String}{Io:Bool}{a:a1}{l:List UInt8}{Q:Option (Array UInt8)->cs->Prop}(aR:s.heap.get? a=J (jW l))(h:Q (J l.toArray) s):cN M A (Vt id (.ref a) Io) Q E s:=by
 have gm:s.TypeIs (.ref a) "bytearray":=⟨_,aR,rfl⟩;exact bN (λ_=>ie (T:="bytearray") gm GY) (bN (λ_=>EY (T:="bytearray") gm GY acY acy Lf) (jt (by decide) (bN (λ_=>ie (T:="bytearray") gm GY) (bN (λ_=>T0 aR) (jt (by decide) (bN (λ_=>vX aR) (cK h)))))))
end
end
section
variable {a:a1}{l l':List UInt8}
section
variable {prog:uG}
theorem abX{df:List aG}(aD:rD "bytearray.__new__" ⟨.type "bytearray"::df,[]⟩=bK ()){Q₁:aG->cs->Prop}
  (h:Q₁ (.ref s.heap.objs.size) {s with heap:=s.heap.push (jW [])}):
  codeAny (di prog w) A (.call (.builtin "bytearray.__new__") ⟨.type "bytearray"::df,[]⟩) (wants Q₁ E) s:=by
 refine Gs ?_;show cN _ A.in1 (do rD "bytearray.__new__" ⟨.type "bytearray"::df,[]⟩;again (.builtin "bytearray.__new__" ⟨.type "bytearray"::df,[]⟩)) _ _ s
 refine b4 (hG aD (cK ⟨zE SL _,codeAny_builtin_stack ac5 rfl λp st=>?_⟩))
 refine G (Gf SL _) ?_;have asF:=Lf;have afc:=ai4;obtain⟨hp,aB,d,tk,os⟩:=s;simp only [afc];wp_walk
 exact h
end
section
variable {bp:gv}
def Made(h:bq)(a:a1)(l:List UInt8)(av:bq):Prop:=av.get? a=J (jW l)/\(∀b,b≠a->av.get? b=h.get? b)/\av.objs.size=h.objs.size
theorem Made.write{f:Array UInt8->Array UInt8}(aR:h.get? a=J (jW l))(e:f l.toArray=l'.toArray):Made h a l' (h.update a (wz f)):=by
 refine⟨?_,λb hb=>uE _ _ (λz=>hb z.symm),by(exact G (qf ..) rfl)⟩
 refine G (sZ _ aR rfl) ?_;simp [wz,jW,e]
theorem Made.trans{ai ak:bq}(x:Made h a l ai)(y:Made ai a l' ak):Made h a l' ak:=
 ⟨y.1,λb hb=>(y.2.1 b hb).trans (x.2.1 b hb),y.2.2.trans x.2.2⟩
noncomputable def xF:Option aG->Option (List UInt8)
 |ac=>J []
 |J (.int n _)=>if 0<=n/\n<=65536 then J (f9 n.toNat 0) else ac
 |J (.bytes b _)=>if b.size<=65536 then J b.toList else ac
 |_=>ac
theorem af.write{f:Array UInt8->Array UInt8}{Q:Unit->bq->Prop}(ok:bz a9 n ah)(aR:h.get? a=J (jW l))(e:f l.toArray=l'.toArray)(hs:l'.length<=65536)
  (k:∀av,Made h a l' av->Q () av):af w bp ah (Gj (.ref a) f) Q h:=by
 obtain⟨A,cS,_⟩:=ok.room;refine af.any cS λs aM a7 q3=>?_
 subst aM;refine TY aR ?_ ⟨k _ (Made.write aR e),a7,q3⟩;refine G e (G iA (G k9 ?_));lia
theorem af.exports{Q:Nat->bq->Prop}(aR:h.get? a=J (jW l))(k:Q 0 h):af w bp ah (Gg (.ref a)) Q h:=by
 unfold Gg;exact af.bind (af.load aR (af.pure k))
theorem af.checkResize{Q:Unit->bq->Prop}(ok:bz a9 n ah)(aR:h.get? a=J (jW l))(k:Q () h):af w bp ah (Vv (.ref a)) Q h:=by
 unfold Vv;refine af.bind (af.bind (P8 ok ?_));refine af.bind (m:=Gg _) (af.exports aR (af.pure ?_));exact af.ifn (by decide) (af.pure k)
set_option tactic.hygienic true in
theorem afM{Q:bq->Prop}(ok:bz a9 n ah)(aR:h.get? a=J (jW [])){src:Option aG}(e:xF src=J l)(k:∀av,Made h a l av->Q av):
  af w bp ah (Builtin.«bytearray.__init__» ⟨.ref a::src.toList,[]⟩) (λcp av=>match cp with | .done f=>∃v,f=.ret v/\v=.none/\Q av| .again c'=>c'.quiet=ae/\ji w bp (ah.goto c') (λv av=>v=.none/\Q av) av) h:=by
 obtain⟨A,cS,_⟩:=id ok.room;unfold Builtin.«bytearray.__init__»;refine af.bind (af.any cS λs aM a7 q3=>T0 (aM▸aR) ⟨?_,a7,q3⟩)
 refine G aM (G (a8 (by decide)) ?_)
 have hb:Builtin.Bytes.bindOptional "bytearray.__init__" "bytearray" ["source","encoding","errors"] src.toList []=bK [src,ac,ac]:=by rcases src<;>rfl
 refine G hb (af.bind (af.pure ?_));refine af.bind (m:=Vu _ _ _ ac) (af.pure (af.bind (m:=Vu _ _ _ ac) (af.pure ?_)));refine af.bind (af.bind (P8 ok ?_));refine af.bind (m:=Gg _) (af.exports aR (af.pure ?_));refine af.ifn (by decide) (af.bind (af.write ok aR (l':=[]) rfl (by simp) λai dF=>?_))
 have cp:∀av,Made h a l av->af w bp ah (PySem.ret .none) (λcp av=>match cp with | .done f=>∃v,f=.ret v/\v=.none/\Q av| .again c'=>c'.quiet=ae/\ji w bp (ah.goto c') (λv av=>v=.none/\Q av) av) av:=λav m=>af.ret ⟨_,rfl,rfl,k av m⟩
 induction src using n9 with
 |none=>
  obtain rfl:=ci e;refine af.bind (af.pure ?_);exact cp _ dF
 |some v=>
  rcases v<;>first |exact br e|skip
  ·rename_i i t;refine dR e λhi e=>?_
   ·obtain rfl:=ci e;refine af.bind (m:=asStr? _) (af.pure ?_);refine af.ifn (by simp) (af.bind (m:=(bK ():Sem Unit)) (af.pure ?_))
    refine af.bind (af.any cS λs aM a7 q3=>ie (wH s i t) int_index ⟨?_,a7,q3⟩)
    refine G aM (af.ifp (by simp) (af.bind (af.attempt (af.any cS λs aM a7 q3=>hG (a:=i) rfl ⟨?_,a7,q3⟩))))
    refine G aM ?_;refine af.ifn (by simp [wx];lia) (af.ifn (Int.not_lt_of_ge hi.1) (af.ifn (by simp;lia) (af.ifn (by simp [Gi,k9];lia) ?_)))
    refine af.bind (af.rule ?_);split
    ·refine af.bind (af.write ok dF.1 (l':=f9 i.toNat 0) rfl (by simp;exact Int.le_def.mpr hi.2) λak jK=>cp _ (dF.trans jK))
    ·have :i.toNat=0:=by lia
     rw [this] at cp;exact cp _ dF
  ·rename_i b t;refine dR e λhi e=>?_
   ·obtain rfl:=ci e;refine af.bind (m:=asStr? _) (af.pure ?_);refine af.ifn (by simp) (af.bind (m:=(bK ():Sem Unit)) (af.pure ?_))
    refine af.bind (af.any cS λs aM a7 q3=>ie (T:="bytes") rfl Pe ⟨?_,a7,q3⟩)
    refine G aM (af.ifn (by simp) (af.bind (af.any cS λs aM a7 q3=>EX ⟨?_,a7,q3⟩)))
    refine G aM (af.bind (af.rule ?_));exact af.bind (af.write ok dF.1 (l':=b.toList) rfl (by simpa using hi) λak jK=>cp _ (dF.trans jK))
end
end
variable {a:a1}
theorem aot:qk nu "bytearray.extend"=J Builtin.«bytearray.extend»:=CA (by kernel_rfl)
theorem Yb(a b:aG):mg "bytearray.extend" ⟨[a,b],[]⟩:=by
 unfold mg;refine G (zG (id:="bytearray.extend") (n:=['d','n','e','t','x','e']) (o:=['y','a','r','r','a','e','t','y','b']) (by kernel_rfl) xr) ?_;kernel_rfl
section
variable {bp:gv}
theorem Q7{src:Option aG}{l:List UInt8}{Q:aG->bq->Prop}(ok:bz a9 (n+3) ah)(e:xF src=J l)
  (k:∀av,gM h av->av.get? h.objs.size=J (jW l)->Q (.ref h.objs.size) av):af w bp ah (PySem.call (.type "bytearray") src.toList) Q h:=by
 have aD:Gq "bytearray" ⟨src.toList,[]⟩=bK ():=by induction src using n9 with |none=>exact apk|some v=>exact apl v
 have jH:rD "bytearray.__new__" ⟨.type "bytearray"::src.toList,[]⟩=bK ():=by induction src using n9 with |none=>exact ah1|some v=>exact ah2 v
 have ha:∀o,mg "bytearray.__init__" ⟨o::src.toList,[]⟩:=λo=>by induction src using n9 with |none=>exact Yd o|some v=>exact Ye o v
 refine af5 ok abG aD ac3 (by decide+kernel) λgU hM=>?_
 obtain⟨A,cS,_⟩:=hM.room;refine af.any cS λs aM a7 q3=>CG (abX jH ?_)
 refine G aM (⟨?_,a7,q3⟩);have aB:(h.push (jW [])).get? h.objs.size=J (jW []):=hU _ rfl;refine⟨λs e=>⟨_,by refine G e ?_;exact aB,rfl⟩,ha _,λE2 aiS=>?_⟩
 refine afM (Q:=λav=>Q (.ref h.objs.size) av) aiS aB e λav m=>k av ⟨λb o e=>?_,G m.2.2 (G (ib ..) (kZ h.objs.size 1))⟩ m.1
 refine G (m.2.1 b (by intro z;subst z;exact absurd (gE e) (jn _))) ?_
 exact k6 _ e
theorem aoH{l x l':List UInt8}{lo hi:Option Int}(e:vK l lo hi x=J l'):
  l.toArray.extract 0 (us ((lo.elim 0 (k7 l.length):Nat):Int))++x.toArray++l.toArray.extract (us (max ((lo.elim 0 (k7 l.length):Nat):Int) ((hi.elim l.length (k7 l.length):Nat):Int))) l.length=l'.toArray/\l'.length=l.length:=by
 have m4:∀z:Int,0<=z->k7 l.length z=min z.toNat l.length:=λz hz=>by
  refine cm (ze hz) λk amp=>?_;obtain rfl:=amp
  exact Gr _ _
 rcases lo with _|a<;>rcases hi with _|b
 rotate_left
 ·exact br e
 ·exact br e
 rotate_left
 ·refine dR (show(if x.length=l.length then J x else ac)=J l' from e) λaQ e=>?_
  ·obtain rfl:=ci e;have z:(max ((0:Nat):Int) ((l.length:Nat):Int)).toNat=l.length:=rfl;dsimp only [Na];refine G z ?_;simp [aQ]
 ·refine dR (show(if 0<=a/\a<=b/\b<=l.length/\(x.length:Int)=b - a then J (l.take a.toNat++x++l.drop b.toNat) else ac)=J l' from e) λaD e=>?_
  ·obtain rfl:=ci e;dsimp only [Na];refine v5 aD λai ak aZ cC=>?_
   refine cm (ze ai) λi amq=>?_;obtain rfl:=amq
   refine cm (ze (zg ai ak)) λj amr=>?_;obtain rfl:=amr
   replace ak:=sI.mp ak
   replace aZ:=sI.mp aZ
   refine G (Gr ..) (G (Gr ..) (G (pc (cQ ak aZ)) (G (pc aZ) (G (Int.max_eq_right (sI.mpr ak)) (G (h8 ..) (G (h8 ..) ?_))))));replace cC:x.length+i=j:=by lia
   constructor
   ·have q:List.take (l.length - j) (List.drop j l)=List.drop j l:=Vi (by simp)
    simp [List.extract_toArray,q]
   ·simp;exact XQ ak aZ cC
theorem aon{a q:a1}{l x l':List UInt8}{t:Tok}{vU vV:aG}{lo hi:Option Int}{Q:bq->Prop}(ok:bz a9 (n+3) ah)(aR:h.get? a=J (jW l))(hs:h.get? q=J {cls:=.type "slice",data:=.fields #[vU,vV,.none]})
  (pl:IsPart vU lo) (pu:IsPart vV hi) (aq:l.length+x.length<=65536) (e:vK l lo hi x=J l') (k:∀ai av,gM h ai->Made ai a l' av->Q av):
  af w bp ah (Builtin.«bytearray.__setitem__» ⟨[.ref a,.ref q,.bytes x.toArray t],[]⟩) (λcp av=>match cp with | .done f=>∃v,f=.ret v/\Q av| .again c'=>c'.quiet=ae/\ji w bp (ah.goto c') (λ_ av=>Q av) av) h:=by
 obtain⟨A,cS,_⟩:=id ok.room;have gm:∀s:cs,s.heap=h->s.TypeIs (.ref q) "slice":=λs aM=>⟨_,by refine G aM ?_;exact hs,rfl⟩
 unfold Builtin.«bytearray.__setitem__»;refine af.ifn (by simp) (af.bind (af.any cS λs aM a7 q3=>T3 (gm s aM) ⟨?_,a7,q3⟩))
 refine G aM (af.bind (af.any cS λs aM a7 q3=>ta (gm s aM) ⟨?_,a7,q3⟩))
 refine G aM (af.ifn (by decide) ?_)
 refine af.bind (af.any cS λs aM a7 q3=>LY ⟨_,by refine G aM ?_;exact hs,rfl,rfl⟩ pl pu ⟨?_,a7,q3⟩)
 refine G aM (af.bind (m:=isInstance _ _) (af.any cS λs aM a7 q3=>s8 (s3 s _ t) aaq ⟨?_,a7,q3⟩))
 refine G aM (af.ifp (by decide) (af.bind (af.any cS λs aM a7 q3=>?_)))
 refine b4 (b4 (ie (s3 s _ t) Pe (cK ?_)));refine b4 (b4 (ie (s3 s _ t) aat (cK ?_)));refine b4 (b4 (ie (s3 s _ t) aas (cK ?_)));refine s8 (s3 s _ t) aar ⟨?_,a7,q3⟩;refine G aM (af.bind (m:=asStr? _) (af.pure ?_));refine af.ifn (by simp) (af.bind (af.rule (af.bind ?_)))
 refine Q7 (src:=J (.bytes x.toArray t)) ok (l:=x) (by simp [xF];exact Ch aq) λai az d1=>?_
 have aey:∀s:cs,s.heap=ai->s.heap.IsSliceOf q vU vV .none:=λs aM=>⟨_,by refine G aM ?_;exact az.1 _ _ hs,rfl,rfl⟩
 refine af.bind (af.holding (af.any cS λs aM a7 q3=>LY (aey s aM) pl pu ⟨?_,a7,q3⟩))
 refine G aM (af.bind (af.any cS λs aM a7 q3=>vX (aM▸d1) ⟨?_,a7,q3⟩))
 refine G aM ?_;have IW:=az.1 _ _ aR;refine af.bind (af.any cS λs aM a7 q3=>vX (aM▸IW) ⟨?_,a7,q3⟩)
 refine G aM (af.bind (af.any cS λs aM a7 q3=>hG (sliceIndices_raw lo hi ac l.toArray.size (by simp)) ⟨?_,a7,q3⟩))
 refine G aM (G iA (G (sliceBounds_plain ..) ?_));refine af.ifp (by decide) (af.bv (λ_=>af.rule) ?_)
 have xc:l.toArray.extract 0 (us ((lo.elim 0 (k7 l.length):Nat):Int))++x.toArray++l.toArray.extract (us (max ((lo.elim 0 (k7 l.length):Nat):Int) ((hi.elim l.length (k7 l.length):Nat):Int))) l.toArray.size=l'.toArray/\l'.length=l.length:=
  G iA (aoH e)
 have go:af w bp ah (Gj (.ref a) (λb=>b.extract 0 (us ((lo.elim 0 (k7 l.length):Nat):Int))++x.toArray++b.extract (us (max ((lo.elim 0 (k7 l.length):Nat):Int) ((hi.elim l.length (k7 l.length):Nat):Int))) b.size)>>=λ_=>PySem.ret .none)
  (λcp av=>match cp with | .done f=>∃v,f=.ret v/\Q av| .again c'=>c'.quiet=ae/\ji w bp (ah.goto c') (λ_ av=>Q av) av) ai:=
  af.bind (af.write ok IW (l':=l') xc.1 (by lia) λak jK=>af.ret ⟨_,rfl,k _ _ az jK⟩)
 split
 ·exact af.bv (λ_=>af.checkResize ok IW) go
 ·exact go
end
section
variable {l x:List UInt8}{aJ:aG}
variable {fs:List a1}
theorem Tg:Slot "bytearray" "extend" "bytearray.extend":=
 .of (owner:="bytearray") (n:="extend") (by refine G (iM ..) (G (iL ..) ?_);kernel_rfl) (by decide+kernel) (by decide+kernel) (by decide+kernel)
  (by first |exact .inl (by decide+kernel)|exact .inr (by decide+kernel)) (by refine G (rG ..) ?_;kernel_rfl)
section
variable {bp:gv}
theorem af7{T:String}{id:String}{B:Builtin}{o i v:aG}{Q:Unit->bq->Prop}(ok:bz fs (n+1) ah)(qX:Slot T "__setitem__" id)(afk:seqItemTypes.contains T=aA)(ce:∀s:cs,s.heap=h->s.TypeIs o T)
  (hb:qk nu id=J B) (ha:mg id ⟨[o,i,v],[]⟩) (hn:qv.contains id=aA)
  (k:∀gU,bz fs n gU->af w bp gU (B ⟨[o,i,v],[]⟩) (λcp av=>match cp with | .done f=>∃v,f=.ret v/\Q () av| .again c'=>c'.quiet=ae/\ji w bp (gU.goto c') (λ_ av=>Q () av) av) h):af w bp ah (PySem.setItem o i v) Q h:=by
 obtain⟨A,cS,_⟩:=ok.room;refine af.holding (af.bind (af.any cS λs aM a7 q3=>NZ (ce s aM) afk ⟨?_,a7,q3⟩))
 refine G aM (af.bind (af.bind (af.any cS λs aM a7 q3=>ie (ce s aM) qX.lookup ⟨?_,a7,q3⟩)))
 refine G aM ?_;dsimp only;refine G (qX.bind ..) (af.holding (af.bind (af.pure (af.bind ?_))));exact af.mono (Jk ok qX ce hb ha hn k) λv av q=>af.pure (af.pure q)
theorem adl{a:a1}{t:Tok}{Q:aG->bq->Prop}(ok:bz fs n ah)(aR:h.get? a=J (jW l))(aq:l.length+x.length<=65536)(k:∀av,Made h a (l++x) av->Q .none av):
  af w bp ah (Builtin.«bytearray.extend» ⟨[.ref a,.bytes x.toArray t],[]⟩) (λcp av=>match cp with | .done f=>∃v,f=.ret v/\Q v av| .again c'=>c'.quiet=ae/\ji w bp (ah.goto c') Q av) h:=by
 obtain⟨A,cS,_⟩:=ok.room;refine af.bind (m:=selfAndOne _ _) (af.pure ?_);refine af.bind (af.any cS λs aM a7 q3=>ie (s3 s _ t) uS ⟨?_,a7,q3⟩)
 refine G aM (af.ifp (by simp) (af.bind (af.rule ?_)))
 refine af.bind (af.any cS λs aM a7 q3=>vX (aM▸aR) ⟨?_,a7,q3⟩)
 refine G aM ?_;have tb:∀(s:cs) {Q:Option (Array UInt8×Option aG)->cs->Prop},Q (J (x.toArray,ac)) s->cN (di prog w) A (Builtin.Bytes.takeBuffer? "bytearray.extend" (.bytes x.toArray t) 0) Q (λ_ _=>False) s:=λs Q cI=>by
  refine b4 (ie (s3 s _ t) uS ?_);exact bN (λ_=>EY (s3 s _ t) uS P0 PW F.sub_bytes_bytes) (jt (by decide) (bN (λ_=>ie (s3 s _ t) uS) (bN (λ_=>EX) (cK cI))))
 refine af.bind (af.bind (af.attempt (af.any cS λs aM a7 q3=>tb s ⟨?_,a7,q3⟩)))
 refine G aM (af.pure (af.ifp (by simp) ?_))
 have go:af w bp ah (Gj (.ref a) (· ++x.toArray)>>=λ_=>PySem.ret .none) (λcp av=>match cp with | .done f=>∃v,f=.ret v/\Q v av| .again c'=>c'.quiet=ae/\ji w bp (ah.goto c') Q av) h:=
  af.bind (af.write ok aR (l':=l++x) (by simp) (by simp;omega) λak jK=>af.ret ⟨_,rfl,k _ jK⟩)
 show af w bp ah (if(!x.toArray.isEmpty)=ae then _ else _) _ _
 split
 ·exact af.bv (λ_=>af.checkResize ok aR) go
 ·exact go
end
theorem Zm{l':List UInt8}{a b:Option Int}{eL:aG}(ok:bz Θ.fs (d+4) ah)(y:bD Θ Z ρ m H h)(aR:bg ρ (.new i) o')(vi:oE (Z:=Z) ρ h (.sl a b) eL)(hv:bg ρ (.bytes x) aJ)(hi:H[i]? =J (.ba l))(bu:i≠0)
  (aq:bH (l.length+x.length)=ae) (e:vK l a b x=J l'):aa Θ ah Z ρ (wF o' eL aJ) (lc m (H.set i (.ba l'))) h:=by
 obtain⟨p,hp,rfl⟩:=aR;obtain⟨nK,-,bj⟩:=y.rel.obj _ _ _ hp hi;refine BK vi λq ams u w oA u4 ef ja jO nN hs _ _=>?_;obtain rfl:=ams
 refine cm hv λt amt=>?_;obtain rfl:=amt
 have aB:h.get? p.1=J (jW l):=bj;refine af7 (n:=d+3) ok Lb (by decide) (λs e=>⟨_,by refine G e ?_;exact aB,rfl⟩) P1 (OU _ _ _) (by decide+kernel) λgU hM=>?_
 exact aon (Q:=λav=>d4 Θ Z ρ h (lc m (H.set i (.ba l'))) () av) hM aB hs (tL oA jO) (tL u4 nN) (fE aq) e λai av az dF=>d4.turned y hp bu (λb o ai ak e=>(dF.2.1 b ai).trans (az.1 _ _ e)) (G dF.2.2 az.2) (o:=.ba l') ⟨nK,(),dF.1⟩ ⟨rfl,rfl⟩
set_option tactic.hygienic true in
theorem aof{H:an}{P:L->nl->L->an->Prop}
  (k1:∀ {i l k v},H[i]? =J (.list l)->i≠0->cG k=ae/\0<=k/\k<l.length->P (.new i) (.at_ (.int k)) v (H.set i (.list (l.set k.toNat v))))
  (k2:∀ {i l k v c},H[i]? =J (.ba l)->i≠0->bH l.length=ae/\0<=k/\k<l.length->oK v=J c->P (.new i) (.at_ (.int k)) v (H.set i (.ba (l.set k.toNat c))))
  (k3:∀ {i l k v},H[i]? =J (.dict l)->i≠0->(fX k&&bH l.length)=ae->P (.new i) (.at_ k) v (H.set i (.dict (g9 l k v))))
  (oH:∀ {i l a b x c},H[i]? =J (.ba l)->i≠0->bH (l.length+x.length)=ae->vK l a b x=J c->P (.new i) (.sl a b) (.bytes x) (H.set i (.ba c))):
  ∀ {o ix v bb},fS o ix v H=J bb->P o ix v bb:=λ{o ix v bb} e=>by
 have ku:∀ {i:Nat} {x:bt} {Q:an->Prop},wr H i x=J bb->(i≠0->Q (H.set i x))->Q bb:=λ{i x Q} e k=>by
  exact xf e λh e=>cU (ci e) (k h)
 rcases o<;>first |exact br e|skip
 ·rename_i i;rcases ix with k|⟨a,b⟩
  ·delta fS at e
   dsimp only at e;generalize bX:H[i]? =q at e;rcases q with _|q
   ·exact br e
   ·rcases q<;>first |exact br e|skip
    ·rcases k<;>first |exact br e|exact dR e λhk e=>ku (Q:=P _ _ _) e λh=>k1 bX h hk
    ·rename_i l;have e:(if fX k&&bH l.length then wr H i (.dict (g9 l k v)) else ac)=J bb:=by rcases k<;>exact e
     exact dR e λhk e=>ku (Q:=P _ _ _) e λh=>k3 bX h hk
    ·rcases k<;>first |exact br e|skip
     exact dR e λhk e=>by
      exact gb e λc ig e=>ku (Q:=P _ _ _) e λh=>k2 bX h hk ig
  ·delta fS at e
   dsimp only at e;generalize bX:H[i]? =q at e;rcases q with _|q
   ·exact br e
   ·rcases q<;>first |exact br e|skip
    rcases v<;>first |exact br e|skip
    exact dR e λaq e=>by
     exact gb e λc ig e=>ku (Q:=P _ _ _) e λh=>oH bX h aq ig
theorem ag0{o v:L}{ix:nl}{eL:aG}(ok:bz Θ.fs (d+4) ah)(x:bD Θ Z ρ m H h)(aR:bg ρ o o')(hi:oE (Z:=Z) ρ h ix eL)(hv:bg ρ v aJ)(e:fS o ix v H=J bb):aa Θ ah Z ρ (wF o' eL aJ) (lc m bb) h:=by
 refine aof (P:=λo ix v bb=>∀o' eL aJ,bg ρ o o'->oE (Z:=Z) ρ h ix eL->bg ρ v aJ->aa Θ ah Z ρ (wF o' eL aJ) (lc m bb) h) ?_ ?_ ?_ ?_ e o' eL aJ aR hi hv
 ·intro i l k v bX bu aD o' eL aJ aR hi hv;refine cm hi λt amu=>?_;obtain rfl:=amu
  exact ahh ok x aR bX bu hv aD.1 aD.2.1 aD.2.2
 ·intro i l k v c bX bu aD ig o' eL aJ aR hi hv;refine cm hi λt amv=>?_;obtain rfl:=amv
  exact Zl ok x aR bX bu hv ig aD.1 aD.2.1 aD.2.2
 ·exact λbX bu aD o' eL aJ aR hi hv=>acu ok x aR bX bu (eZ aD) (eJ aD) hi hv
 ·exact λbX bu aq ig o' eL aJ aR hi hv=>Zm ok x aR hi hv bX bu aq ig
theorem Zh(ok:bz Θ.fs (d+4) ah)(y:bD Θ Z ρ m H h)(aR:bg ρ (.new i) o')(hv:bg ρ (.bytes x) aJ)(hi:H[i]? =J (.ba l))(bu:i≠0)
  (aq:bH (l.length+x.length)=ae):aa Θ ah Z ρ (PySem.call (.builtin "bytearray.extend") [o',aJ]) (dC m .none (H.set i (.ba (l++x)))) h:=by
 obtain⟨p,hp,rfl⟩:=aR;obtain⟨nK,-,bj⟩:=y.rel.obj _ _ _ hp hi;refine cm hv λt amw=>?_;obtain rfl:=amw
 have aB:h.get? p.1=J (jW l):=bj;refine Jk (n:=d+3) ok Tg (λs e=>⟨_,by refine G e ?_;exact aB,rfl⟩) aot (Yb _ _) (by decide+kernel) λgU hM=>?_
 exact adl hM aB (fE aq) λav dF=>d4.turned y hp bu (λb o ai ak e=>(dF.2.1 b ai).trans e) (G dF.2.2 (cW _)) (o:=.ba (l++x)) ⟨nK,(),dF.1⟩ ⟨rfl,rfl,rfl⟩
theorem GZ{src:Option aG}(ok:bz Θ.fs (d+4) ah)(y:bD Θ Z ρ m H h)(e:xF src=J l):aa Θ ah Z ρ (PySem.call (.type "bytearray") src.toList) (dC m (.new H.length) (H++[.ba l])) h:=by
 exact Q7 (n:=d+1) ok e λav az aB=>d4.added y az (p:=(h.objs.size,h.objs.size)) (cW _) (cW _) (o:=.ba l) ⟨rfl,(),aB⟩ ⟨rfl,rfl,bg.last y.len⟩
theorem list_append{l:List L}{v:L}(ok:bz Θ.fs (d+4) ah)(x:bD Θ Z ρ m H h)(aR:bg ρ (.new i) o')(hv:bg ρ v aJ)(hi:H[i]? =J (.list l))(bu:i≠0)(aq:bH l.length=ae):
  aa Θ ah Z ρ (PySem.call (.builtin "list.append") [o',aJ]) (dC m .none (H.set i (.list (l++[v])))) h:=by
 obtain⟨p,hp,rfl⟩:=aR;obtain⟨nK,vs,n,bj,r⟩:=x.rel.obj _ _ _ hp hi;refine aa.any ok λA s a6 bA bU e1 e2 aP=>?_
 subst e1;refine wpAny_list_append_plain (items:=vs.toArray) ⟨n,bj⟩ (λav AK gc=>⟨?_,e2,aP⟩) (G iA (cU r.length (oB aq)))
 exact cm AK λJK AK=>d4.turned x hp bu (λb o ai _ e=>gc.extBut b o ai e) (iB gc.1.symm) (o:=.list (l++[v])) ⟨nK,vs++[aJ],JK,by simpa using AK,r.append (.cons hv .nil)⟩ ⟨rfl,rfl,rfl⟩
end
variable {aJ:aG}
section
open PySem.SeqAt
open _root_.PySem.AutoSeq1 (wpAny_loadPart')
open MeetsSeq MeetsSeq2 MeetsSeq3 SeqRoads2
theorem anP(l:a1)(items:Array aG)(n:Nat)(x:aG)(e:aG->Bool)(j:Nat)(cY:j<items.size)(iC:e items[j]=ae)(k:Nat)(qG:items.size<=mh):
  ∀i:Nat,j - i=k->i<=j->(∀m (bc:m<items.size),i<=m->m<j->e items[m]=aA)->Meets (Builtin.«list.remove.loop» ⟨[.ref l,x,rH i],[]⟩)
   (λA R s=>s.heap.get? l=J {cls:=.type "list",dict:=ac,data:=.seq items n,slots:= #[]}/\(∀y,y∈items->EqAt A.in1 s y x (e y))/\R (.ok (.ret .none)) {s with heap:=s.heap.update l (rA λeW=>eW.eraseIdxIfInBounds j)}):=by
 induction k with
 |zero=>
  intro i hk vh AI prog w A R s h;obtain⟨hp,aB,d,tk,os⟩:=s;obtain⟨aQ,bl,h⟩:=h;have ae0:i=j:=rd (Mine.Internal.OK vh hk);subst ae0;wp_walk using GB aQ
  have hi:items[((i:Nat):Int).toNat]? =J items[i]:=by simp [cY]
  (rw [hi])
  refine b4 (bl _ (Array.getElem_mem cY) prog w _ _ ?_);(rw [iC])
  have aft:(items.eraseIdxIfInBounds i).size<=mh+1:=cQ (size_erased items _) (uC qG);wp_walk using(wpAny_updateSeq aQ rfl (hz:=qG) (_hz':=aft)),GB aQ
  simpa using h
 |succ k ih=>
  intro i hk vh AI prog w A R s h;obtain⟨hp,aB,d,tk,os⟩:=s;obtain⟨aQ,bl,h⟩:=h;have lP:i<items.size:=eI vh cY;wp_walk using GB aQ
  have hi:items[((i:Nat):Int).toNat]? =J items[i]:=by simp [lP]
  have aD:((i:Int)+1)=((i+1:Nat):Int):=by push_cast;rfl
  (rw [hi])
  refine b4 (bl _ (Array.getElem_mem lP) prog w _ _ ?_);(rw [AI i lP (cW _) (Nat.lt_of_sub_eq_succ hk)])
  wp_walk
  (rw [aD])
  exact⟨zE plain_remove_loop _,NL entry_remove_loop (by
   (rw [Gf plain_remove_loop _])
   exact ih (i+1) (Mine.Internal.asp hk) (Mine.Internal.asq hk) (λm bc ai ak=>AI m bc (jz ‹_›) ak) prog w A R _ ⟨aQ,bl,h⟩)⟩
theorem ahg(l:a1)(items:Array aG)(n:Nat)(x:aG)(e:aG->Bool)(j:Nat)(cY:j<items.size)
  (iC:e items[j]=ae) (AI:∀m (bc:m<items.size),m<j->e items[m]=aA) (qG:items.size<=mh):
  Meets (Builtin.«list.remove» ⟨[.ref l,x],[]⟩)
   (λA R s=>s.heap.get? l=J {cls:=.type "list",dict:=ac,data:=.seq items n,slots:= #[]}/\(∀y,y∈items->EqAt A.in1 s y x (e y))/\R (.ok (.ret .none)) {s with heap:=s.heap.update l (rA λeW=>eW.eraseIdxIfInBounds j)}):=by
 intro prog w A R s h;obtain⟨hp,aB,d,tk,os⟩:=s;obtain⟨aQ,bl,h⟩:=h;wp_walk using GB aQ
 exact⟨zE plain_remove_loop _,NL entry_remove_loop (by
  (rw [Gf plain_remove_loop _])
  exact anP l items n x e j cY iC _ qG 0 rfl (hf _) (λm bc _ ak=>AI m bc ak) prog w A R _ ⟨aQ,bl,h⟩)⟩
end
theorem age(P:cB):(match(xq P).data with | .dict aH _=>aH.all (λe=>match e.key with | .str _ _=>ae|_=>aA)|_=>aA)=ae:=by kernel_rfl
theorem ain(P:cB):(match(xq P).data with | .dict aH _=>nsFind aH "__eq__"|_=>J .none)=ac:=by kernel_rfl
theorem aio(P:cB):(match(xq P).data with | .dict aH _=>nsFind aH "__ne__"|_=>J .none)=ac:=by kernel_rfl
theorem adV(P:cB):(dk P).lookup 539=J JX:=by kernel_rfl
theorem adU(P:cB):(dk P).lookup 538=J (xq P):=by kernel_rfl
theorem PC{P:cB}{h:bq}{x d:a1}(K:(dk P).In h)(aO:h.get? x=J (kj 539 d)):h.CmpInst x 539 [.type "object"]:=by
 have dD:=K _ _ (adV P);have nE:=K _ _ (adU P);have n:h.isNs 538=ae:=by unfold Heap.isNs;exact G nE (age P)
 have N:=Heap.Ns.of_isNs n;refine⟨_,_,_,538,_,_,_,_,_,_,_,_,_,_,_,_,"object.__new__",_,aO,rfl,dD,N,?_,?_⟩
 ·unfold Heap.nsMap;exact G nE (ain P)
 ·unfold Heap.nsMap;exact G nE (aio P)
section
open PySem.SeqAt
theorem Qb{v:L}:∀ {l:List L} {k:Nat},ty v l=J k->l[k]? =J v/\∀j,j<k->l[j]? ≠J v
 | [],k,e=>by exact br e
 |x::l,k,e=>by
  rw [Ie] at e;by_cases q:x=v
  ·rw [aY q] at e;obtain rfl:=ci e;subst q;exact⟨rfl,λj cY=>absurd cY (M0 _)⟩
  ·rw [a8 q] at e;refine bT (ry.mp e) λi dw amx=>?_;obtain rfl:=amx
   refine cz (Qb dw) λa b=>⟨by simpa using a,λj cY=>?_⟩
   induction j using n6 with
   |zero=>simp only [List.getElem?_cons_zero];intro z;obtain rfl:=ci z;exact q rfl
   |succ j=>simp only [List.getElem?_cons_succ];exact b j (Nat.succ_lt_succ_iff.mp cY)
set_option tactic.hygienic true in
theorem G4{v:L}{aJ:aG}(x:fW Θ ρ H h)(hv:oD H v=ae)(r:bg ρ v aJ):∃(i:Nat) (p:a1×a1),v=.new i/\ρ[i]? =J p/\aJ=.ref p.1/\h.get? p.1=J (kj 539 p.2):=by
 unfold oD at hv;split at hv
 ·rename_i i;split at hv
  ·rename_i c aN e;obtain⟨p,hp,rfl⟩:=r;obtain⟨gZ,iR,-,-,aB,-⟩:=x.get e;rw [hp] at iR;obtain rfl:=ci iR;have :c=539:=by simpa using hv
   subst this;exact⟨i,p,rfl,hp,rfl,aB⟩
  ·exact b8 hv
 ·exact b8 hv
theorem ahf{i j k:Nat}{l:List L}{o' aJ:aG}(ok:bz Θ.fs (d+4) ah)(x:bD Θ Z ρ m H h)(aR:bg ρ (.new i) o')(hv:bg ρ (.new j) aJ)(hi:H[i]? =J (.list l))(bu:i≠0)(aq:bH l.length=ae)
  (hb:l.all (oD H)=ae) (e:ty (.new j) l=J k):
  aa Θ ah Z ρ (PySem.call (.builtin "list.remove") [o',aJ]) (dC m .none (H.set i (.list (l.eraseIdx k)))) h:=by
 obtain⟨p,hp,rfl⟩:=aR;obtain⟨nK,vs,n,bj,r⟩:=x.rel.obj _ _ _ hp hi;refine cz (Qb e) λrW j0=>?_
 have Z0:oD H (.new j)=ae:=i3.mp hb _ (zr rW);refine tY (G4 x.rel Z0 hv) λasH q ej cI amy aeo=>?_;obtain rfl:=amy
 cases ej;have Q9:k<l.length:=(kF.mp rW).1;have aQ:=r.length;refine aa.any ok λA s a6 bA bU e1 e2 aP=>?_
 subst e1;refine call_meets PySem.F.slot_list_remove ⟨_,bj,rfl⟩ PySem.F.entry_list_remove (PySem.F.args_list_remove_2 _ _)
  (ahg p.1 vs.toArray n (.ref q.1) (λy=>y== .ref q.1) k (by simp;exact MX Q9 aQ) ?_ (λbV bc lP=>?_) (G iA (cU aQ (oB aq)))) ⟨bj,λy hy=>?_,?_⟩
 ·refine bT (r.get rW) λy Dc K3=>?_
  obtain⟨iE,AL,rfl⟩:=K3;rw [cI] at AL;obtain rfl:=ci AL;have :vs.toArray[k]? =J (.ref q.1):=by simpa using Dc
  rw [Ms (by simp;exact place_lt Dc)] at this
  have :=ci this;exact G this (beq_self_eq_true _)
 ·have i7:bV<l.length:=by simp at bc;exact n7 lP Q9
  have aB:=iy i7;refine bT (r.get aB) λy Dc K3=>?_
  have bm:oD H l[bV]=ae:=i3.mp hb _ (zo _);refine tY (G4 x.rel bm K3) λlQ a7 iO QQ amz g2=>?_;obtain rfl:=amz
  have :lQ≠j:=λz=>j0 bV lP (by(exact G aB (G iO (G z rfl))))
  have jL:=(x.rel.sep _ _ _ _ QQ cI this).1;have :vs.toArray[bV]? =J (.ref a7.1):=by simpa using Dc
  rw [Ms bc] at this;have :=ci this;show(vs.toArray[bV]== .ref q.1)=aA
  refine G this (fB beq_eq_false_iff_ne ?_);intro z;exact jL (by injection z)
 ·have hy:y∈vs:=by simpa using hy
  obtain⟨bV,i7,rfl⟩:=ux hy;refine bT (r.get' (iy i7)) λa mV ra=>?_
  have bm:oD H a=ae:=i3.mp hb _ (zr mV);refine tY (G4 x.rel bm ra) λlQ a7 iO QQ Ae g2=>G Ae ?_
  by_cases z:a7.1=q.1
  ·refine G z ?_;have :(lK q.1==lK q.1)=ae:=beq_self_eq_true _;exact G this (EqAt.same _)
  ·have :(lK a7.1==lK q.1)=aA:=by refine fB beq_eq_false_iff_ne ?_;intro y;exact z (by injection y)
   refine G this (EqAt.of_refs z λprog w E Q cI=>?_)
   obtain⟨xa,aI,asu,tk,os⟩:=s;exact compareOp_eq_other PySem.F.cmp_object PySem.F.cmp_object (PC x.rel.base.k g2) (PC x.rel.base.k aeo) z (by show A.units+1<9900;exact eI ‹_› (by decide)) cI
 ·have qQ:∀b,b≠p.1->(s.heap.update p.1 (rA λeW=>eW.eraseIdxIfInBounds k)).get? b=s.heap.get? b:=λb hb=>uE _ _ (λz=>hb z.symm)
  have :=IsL.update (n:=n) (show IsL s.heap p.1 vs.toArray n from bj) (λeW=>eW.eraseIdxIfInBounds k)
  have z:vs.toArray.eraseIdxIfInBounds k=(vs.eraseIdx k).toArray:=by simp
  rw [z] at this;exact⟨d4.turned x hp bu (λb o ai ak e=>(qQ b ai).trans e) (G (qf ..) (cW _)) (o:=.list (l.eraseIdx k)) ⟨nK,vs.eraseIdx k,_,this,r.eraseIdx⟩ ⟨rfl,rfl,rfl⟩,e2,aP⟩
end
section
variable {a b:L}{da ck:aG}{c:Bool}{l fY:List L}{bM:CmpOp}
theorem aik:jp (.type "bytes") (dunderR "add")=bK ac:=by refine G (iM ..) (G (iL ..) ?_);kernel_rfl
theorem aij:fillsNumberSlot (.type "bytes") "add"=bK aA:=PySem.fillsNumberSlot_seq (id:="bytes.__add__") (r:=ac) NK.lookup (by decide+kernel) aik rfl
theorem aoc:seqSlot? (.type "bytes") "__add__"=bK (J (.builtin "bytes.__add__")):=PySem.seqSlot_of NK.lookup (by decide+kernel)
section
theorem agN{a b:List UInt8}(ok:bz Θ.fs (d+4) ah)(x:bD Θ Z ρ m H h)(ha:bg ρ (.bytes a) da)(hb:bg ρ (.bytes b) ck)(aq:bH (a.length+b.length)=ae):
  aa Θ ah Z ρ (zB .Add da ck) (dC m (.bytes (a++b)) H) h:=by
 refine cm ha λt amI=>?_;obtain rfl:=amI
 refine cm hb λu amJ=>?_;obtain rfl:=amJ
 have :=fE aq;refine aa.any ok λA s a6 bA bU e1 e2 aP=>?_
 subst e1;refine wpAny_binaryOp_concat (T:="bytes") rfl rfl aij aoc (qn NK rfl FB.entry_bytes_add ?_ (FB.args_bytes_add_2 _ _));refine b4 (m:=slotArgs _ _ _) (cK ?_);refine b4 (EX ?_);refine b4 (b4 (zJ (EX (cK ?_))));dsimp only;have cp:∀(l:List UInt8) (t:Tok) (aS:cs),l=a++b->aS.heap=s.heap->aS.gens= #[]->aS.os=Θ.O->d4 Θ Z ρ s.heap (dC m (.bytes (a++b)) H) (.bytes l.toArray t) aS.heap/\aS.gens= #[]/\aS.os=Θ.O:=
  λl t aS e ai ak aZ=>⟨by refine G ai (G e ?_);exact .now x ⟨rfl,rfl,t,rfl⟩,ak,aZ⟩
 have go:cN (di prog Θ.w) A.in1 (if Gi (a.toArray.size+b.toArray.size)=ae then(do let _ <-(unsupported "bytes.__add__:memory":Sem PUnit);ret (<-mkBytes (a.toArray++b.toArray))) else(do ret (<-mkBytes (a.toArray++b.toArray)))) (λcp aS=>∃v,cp=.done (.ret v)/\d4 Θ Z ρ s.heap (dC m (.bytes (a++b)) H) v aS.heap/\aS.gens= #[]/\aS.os=Θ.O) (λ_ _=>False) s:=by
  refine jt (by simp [Gi,k9];lia) ?_
  exact b4 (GC (cK ⟨_,rfl,by simpa using cp (a++b) _ _ rfl rfl e2 aP⟩) (by simp [k9];lia))
 split
 ·rename_i hz;refine bN (λ_=>ta (T:="bytes") rfl) (yM (by decide) ?_)
  have :a=[]:=by simpa using hz
  exact bN (λ_=>rJ) (cK ⟨_,rfl,cp b u s (G this rfl) rfl e2 aP⟩)
 ·split
  ·rename_i hz;refine bN (λ_=>ta (T:="bytes") rfl) (yM (by decide) ?_)
   have :b=[]:=by simpa using hz
   exact bN (λ_=>rJ) (cK ⟨_,rfl,cp a t s (by refine G this ?_;simp) rfl e2 aP⟩)
  ·exact go
open PySem.SeqAt
set_option tactic.hygienic true in
theorem adJ(A:k4)(s:cs)(ha:hK a=ae)(hb:hK b=ae)(ra:bg ρ a da)(rb:bg ρ b ck):EqAt A s da ck (a==b):=by
 rcases a<;>simp only [hK] at ha<;>first |exact b8 ha|skip
 ·rcases b<;>simp only [hK] at hb<;>first |exact b8 hb|skip
  ·cases ra;cases rb;exact EqAt.same _
  ·cases ra;refine cm rb λt amK=>?_;obtain rfl:=amK;exact EqAt.none_int _ _
 ·rename_i i;rcases b<;>simp only [hK] at hb<;>first |exact b8 hb|skip
  ·cases rb;refine cm ra λt amL=>?_;obtain rfl:=amL;exact EqAt.int_none _ _
  ·rename_i j;refine cm ra λt amM=>?_;obtain rfl:=amM
   refine cm rb λu amN=>?_;obtain rfl:=amN
   have :((L.int i)==(L.int j))=(i==j):=by
    refine fB t6 ?_;simp
   exact G this (EqAt.int_int _ _ _ _)
theorem all_range(aQ:l.length=fY.length):(nn l.length).all (λj=>l[j]? ==fY[j]?)=(l==fY):=by
 refine fB t6 ?_;rewrite [i3];refine fB beq_iff_eq ?_;constructor
 ·intro h;apply FY
  intro i;by_cases hi:i<l.length
  ·have :=h i (by simpa using hi)
   simpa using this
  ·(exact G (mP (wo hi)) (G (mP (by lia)) rfl))
 ·rintro rfl i -
  simp
theorem AY{i:Nat}(x:fW Θ ρ H h)(hi:H[i]? =J (.list l)\/H[i]? =J (.scr l)){v:aG}(r:bg ρ (.new i) v):∃a vs,v=.ref a/\h.IsList a (List.toArray vs)/\All2 (bg ρ) l vs:=by
 obtain⟨p,hp,rfl⟩:=r;rcases hi with hi|hi
 ·obtain⟨gZ,iR,-,vs,n,bj,r⟩:=x.get hi;rw [hp] at iR;obtain rfl:=ci iR;exact⟨_,vs,rfl,⟨_,bj,rfl,n,rfl⟩,r⟩
 ·obtain⟨gZ,iR,-,vs,bj,r⟩:=x.get hi;rw [hp] at iR;obtain rfl:=ci iR;exact⟨_,vs,rfl,bj,r⟩
theorem ahk{vs gr:List aG}(A:k4)(s:cs)(b9:All2 (bg ρ) l vs)(dG:All2 (bg ρ) fY gr)(ch:l.all hK=ae)(cd:fY.all hK=ae):
  ∀j (ai:j<vs.toArray.size) (ak:j<gr.toArray.size),EqAt A s vs.toArray[j] gr.toArray[j] (l[j]? ==fY[j]?):=by
 intro j ai ak;have ai:j<vs.length:=by simpa using ai
 have ak:j<gr.length:=by simpa using ak
 refine bT (b9.get' (iy ai)) λa mV ra=>?_
 refine bT (dG.get' (iy ak)) λb fc rb=>?_
 refine G mV (G fc ?_);have :(J a==J b)=(a==b):=by refine fB t6 ?_;simp
 exact G this (adJ A s (i3.mp ch _ (zr mV)) (i3.mp cd _ (zr fc)) ra rb)
theorem ahj{dx el:aG}{i j:Nat}(ok:bz Θ.fs (d+4) ah)(x:bD Θ Z ρ m H h)(ai:H[i]? =J (.list l)\/H[i]? =J (.scr l))(ak:H[j]? =J (.list fY))(b9:bg ρ (.new i) dx)(dG:bg ρ (.new j) el)
  (e:(if l.length=fY.length then(if l.all hK&&fY.all hK then J (l==fY) else ac) else J aA)=J c) (hop:bM=.Eq\/bM=.NotEq):aa Θ ah Z ρ (s6 bM dx el) (dC m (.bool (if bM=.Eq then c else !c)) H) h:=by
 refine kA (AY x.rel ai b9) λa vs amO bj aM=>?_;obtain rfl:=amO
 refine kA (AY x.rel (.inl ak) dG) λb gr amP Du a7=>?_;obtain rfl:=amP
 have e1:=aM.length;have e2:=a7.length;refine aa.any ok λA s a6 bA bU gs fu f1=>?_
 subst gs;split at e
 ·rename_i aQ;refine dR e λaq e=>?_
  rw [he] at aq;obtain rfl:=ci e;have hz:vs.toArray.size=gr.toArray.size:=by simp;lia
  have key:=ahk A.in1 s aM a7 aq.1 aq.2;have all:(nn vs.toArray.size).all (λj=>l[j]? ==fY[j]?)=(l==fY):=G iA (cU e1 (all_range aQ))
  rcases hop with rfl|rfl
  ·exact eq_listAt (e:=λj=>l[j]? ==fY[j]?) bj Du hz (by show A.units<9900;exact eE ‹_› (by decide)) key ⟨.now x ⟨rfl,rfl,G all rfl⟩,fu,f1⟩
  ·exact RcNeAt.lists (e:=λj=>l[j]? ==fY[j]?) bj Du hz (by show A.units<9900;exact eE ‹_› (by decide)) key prog Θ.w _ _ ⟨.now x ⟨rfl,rfl,G all rfl⟩,fu,f1⟩
 ·rename_i aQ;obtain rfl:=ci e;have hz:(vs.toArray.size !=gr.toArray.size)=ae:=by simp;lia
  rcases hop with rfl|rfl
  ·exact eq_list_lengthsAt bj Du hz (by show A.units<9900;exact eE ‹_› (by decide)) ⟨.now x ⟨rfl,rfl,rfl⟩,fu,f1⟩
  ·exact RcNeAt.lists_lengths bj Du hz (by show A.units<9900;exact eE ‹_› (by decide)) prog Θ.w _ _ ⟨.now x ⟨rfl,rfl,rfl⟩,fu,f1⟩
set_option tactic.hygienic true in
theorem ac9(e:Ak a b H=J c):(∃i j,a=.int i/\b=.int j/\c=(i==j))\/(∃i j,a=.bytes i/\b=.bytes j/\c=(i==j))\/
  ∃i j l fY,a=.new i/\b=.new j/\(H[i]? =J (.list l)\/H[i]? =J (.scr l))/\H[j]? =J (.list fY)/\(if l.length=fY.length then(if l.all hK&&fY.all hK then J (l==fY) else ac) else J aA)=J c:=by
 rcases a<;>first |exact br e|skip
 ·rcases b<;>first |exact br e|exact .inl ⟨_,_,rfl,rfl,(ci e).symm⟩
 ·rcases b<;>first |exact br e|exact .inr (.inl ⟨_,_,rfl,rfl,(ci e).symm⟩)
 ·rename_i i;rcases b<;>first |exact br e|skip
  rename_i j;refine .inr (.inr ⟨i,j,?_⟩);delta Ak at e
  dsimp only at e;generalize H[i]? =o at e⊢;generalize H[j]? =q at e⊢;rcases o with _|o
  ·exact br e
  ·rcases o<;>first |exact br e|skip
   ·rcases q with _|q
    ·exact br e
    ·rcases q<;>first |exact br e|exact⟨_,_,rfl,rfl,.inl rfl,rfl,e⟩
   ·rcases q with _|q
    ·exact br e
    ·rcases q<;>first |exact br e|exact⟨_,_,rfl,rfl,.inr rfl,rfl,e⟩
theorem P5(hop:bM=.Eq\/bM=.NotEq)(ok:bz Θ.fs (d+4) ah)(x:bD Θ Z ρ m H h)(ha:bg ρ a da)(hb:bg ρ b ck)(e:Ak a b H=J c):
  aa Θ ah Z ρ (s6 bM da ck) (dC m (.bool (if bM=.Eq then c else !c)) H) h:=by
 rcases ac9 e with⟨i,j,rfl,rfl,rfl⟩|⟨i,j,rfl,rfl,rfl⟩|⟨i,j,l,fY,rfl,rfl,ai,ak,e⟩
 ·refine cm ha λt amQ=>?_;obtain rfl:=amQ
  refine cm hb λu amR=>?_;obtain rfl:=amR
  refine aa.any ok λA s a6 bA bU gs fu f1=>?_
  subst gs;rcases hop with rfl|rfl
  ·exact PyProof.Rows.eq_int ⟨.now x ⟨rfl,rfl,rfl⟩,fu,f1⟩
  ·exact PyProof.Rows.ne_int ⟨.now x ⟨rfl,rfl,rfl⟩,fu,f1⟩
 ·refine cm ha λt amS=>?_;obtain rfl:=amS
  refine cm hb λu amT=>?_;obtain rfl:=amT
  refine aa.any ok λA s a6 bA bU gs fu f1=>?_
  subst gs;rcases hop with rfl|rfl
  ·exact eq_bytes ⟨.now x ⟨rfl,rfl,rfl⟩,fu,f1⟩
  ·exact ne_bytes ⟨.now x ⟨rfl,rfl,rfl⟩,fu,f1⟩
 ·exact ahj ok x ai ak ha hb e hop
theorem afU(e:DD a b H=J c):(a=.none/\b=.none/\c=ae)\/((∃i,a=.new i)/\b=.none/\c=aA)\/((∃i,a=.int i)/\b=.none/\c=aA)\/(a=.none/\(∃i,b=.new i)/\c=aA)\/
  ∃i j,a=.new i/\b=.new j/\qJ H i=ae/\qJ H j=ae/\c=(i==j):=by
 rcases a<;>first |exact br e|skip
 ·rcases b<;>first |exact br e|skip
  ·exact .inl ⟨rfl,rfl,(ci e).symm⟩
  ·exact dR e λ_ e=>.inr (.inr (.inr (.inl ⟨rfl,⟨_,rfl⟩,(ci e).symm⟩)))
 ·rcases b<;>first |exact br e|skip
  exact .inr (.inr (.inl ⟨⟨_,rfl⟩,rfl,(ci e).symm⟩))
 ·rcases b<;>first |exact br e|skip
  ·exact dR e λ_ e=>.inr (.inl ⟨⟨_,rfl⟩,rfl,(ci e).symm⟩)
  ·exact dR e λh e=>.inr (.inr (.inr (.inr ⟨_,_,rfl,rfl,(eZ h),(eJ h),(ci e).symm⟩)))
set_option tactic.hygienic true in
theorem QY(hop:bM=.Is\/bM=.IsNot)(ok:bz Θ.fs (d+4) ah)(x:bD Θ Z ρ m H h)(ha:bg ρ a da)(hb:bg ρ b ck)(e:DD a b H=J c):
  aa Θ ah Z ρ (s6 bM da ck) (dC m (.bool (if bM=.Is then c else !c)) H) h:=by
 have two:∀v:aG,(∃a,v=.ref a)\/(∃i t,v=.int i t)->plainIs v .none=ae/\plainIs .none v=ae/\v≠.none:=by
  rintro v (⟨a,rfl⟩|⟨i,t,rfl⟩)<;>exact⟨rfl,rfl,λz=>by cases z⟩
 refine aa.any ok λA s a6 bA bU gs fu f1=>?_
 subst gs;rcases afU e with⟨rfl,rfl,rfl⟩|⟨⟨i,rfl⟩,rfl,rfl⟩|⟨⟨i,rfl⟩,rfl,rfl⟩|⟨rfl,⟨i,rfl⟩,rfl⟩|⟨i,j,rfl,rfl,aeG,w8,rfl⟩
 ·cases ha;cases hb;rcases hop with rfl|rfl
  ·exact wpAny_is_self rfl ⟨.now x ⟨rfl,rfl,rfl⟩,fu,f1⟩
  ·exact wpAny_isNot_self rfl ⟨.now x ⟨rfl,rfl,rfl⟩,fu,f1⟩
 ·obtain⟨p,hp,rfl⟩:=ha;cases hb;refine dS (two (.ref p.1) (.inl ⟨_,rfl⟩)) λlY pO tV=>?_
  rcases hop with rfl|rfl
  ·exact NW lY tV ⟨.now x ⟨rfl,rfl,rfl⟩,fu,f1⟩
  ·exact NV lY tV ⟨.now x ⟨rfl,rfl,rfl⟩,fu,f1⟩
 ·refine cm ha λt amV=>?_;obtain rfl:=amV
  cases hb;obtain⟨lY,pO,tV⟩:=two (.int _ t) (.inr ⟨_,_,rfl⟩);rcases hop with rfl|rfl
  ·exact NW lY tV ⟨.now x ⟨rfl,rfl,rfl⟩,fu,f1⟩
  ·exact NV lY tV ⟨.now x ⟨rfl,rfl,rfl⟩,fu,f1⟩
 ·obtain⟨p,hp,rfl⟩:=hb;cases ha;refine dS (two (.ref p.1) (.inl ⟨_,rfl⟩)) λlY pO tV=>?_
  rcases hop with rfl|rfl
  ·exact NW pO (λz=>tV z.symm) ⟨.now x ⟨rfl,rfl,rfl⟩,fu,f1⟩
  ·exact NV pO (λz=>tV z.symm) ⟨.now x ⟨rfl,rfl,rfl⟩,fu,f1⟩
 ·have inst:∀ {i:Nat} {p:a1×a1},qJ H i=ae->ρ[i]? =J p->∃c,s.heap.get? p.1=J (kj c p.2):=by
   intro i p hi hp;unfold qJ at hi;split at hi
   ·rename_i c aN bX;obtain⟨-,-,aB,-⟩:=x.rel.obj _ _ _ hp bX;exact⟨c,aB⟩
   ·exact b8 hi
  obtain⟨p,hp,rfl⟩:=ha;obtain⟨q,cI,rfl⟩:=hb;refine cm (inst aeG hp) λdv d1=>cm (inst w8 cI) λdy g2=>?_
  by_cases z:i=j
  ·subst z;rw [hp] at cI;obtain rfl:=ci cI;refine G (beq_self_eq_true ..) ?_;rcases hop with rfl|rfl
   ·exact wpAny_is_ref_self ⟨.now x ⟨rfl,rfl,rfl⟩,fu,f1⟩
   ·exact wpAny_isNot_ref_self ⟨.now x ⟨rfl,rfl,rfl⟩,fu,f1⟩
  ·have jL:=(x.rel.sep _ _ _ _ hp cI z).1;have :(i==j)=aA:=by simpa using z
   refine G this ?_;rcases hop with rfl|rfl
   ·exact wpAny_is_ref_other jL d1 g2 (by intro y;cases y) ⟨.now x ⟨rfl,rfl,rfl⟩,fu,f1⟩
   ·exact wpAny_isNot_ref_other jL d1 g2 (by intro y;cases y) ⟨.now x ⟨rfl,rfl,rfl⟩,fu,f1⟩
theorem abW(e:bW .Lt a b H=J c):∃i j,a=.int i/\b=.int j/\c=eo (i<j):=by
 rcases a<;>first |exact br e|(rcases b<;>first |exact br e|exact⟨_,_,rfl,rfl,(ci e).symm⟩)
theorem abV(e:bW .LtE a b H=J c):∃i j,a=.int i/\b=.int j/\c=eo (i<=j):=by
 rcases a<;>first |exact br e|(rcases b<;>first |exact br e|exact⟨_,_,rfl,rfl,(ci e).symm⟩)
theorem abT(e:bW .Gt a b H=J c):∃i j,a=.int i/\b=.int j/\c=eo (j<i):=by
 rcases a<;>first |exact br e|(rcases b<;>first |exact br e|exact⟨_,_,rfl,rfl,(ci e).symm⟩)
theorem abS(e:bW .GtE a b H=J c):∃i j,a=.int i/\b=.int j/\c=eo (j<=i):=by
 rcases a<;>first |exact br e|(rcases b<;>first |exact br e|exact⟨_,_,rfl,rfl,(ci e).symm⟩)
set_option tactic.hygienic true in
theorem abU(e:bW .In a b H=J c):fX a=ae/\∃j l,b=.new j/\H[j]? =J (.dict l)/\c=(dV l a).isSome:=by
 rcases b<;>first |exact br e|skip
 rename_i j;refine dR e λhk e=>⟨hk,j,?_⟩
 have e:(match H[j]?with |J (.dict l)=>J (dV l a).isSome|_=>ac)=J c:=e
 generalize H[j]? =q at e⊢;rcases q with _|q
 ·exact br e
 ·rcases q<;>first |exact br e|exact⟨_,rfl,rfl,(ci e).symm⟩
theorem DQ(ok:bz Θ.fs (d+4) ah)(x:bD Θ Z ρ m H h)(ha:bg ρ a da)(hb:bg ρ b ck)(e:bW bM a b H=J c):
  aa Θ ah Z ρ (s6 bM da ck) (dC m (.bool c) H) h:=by
 rcases bM
 case Eq=>exact P5 (.inl rfl) ok x ha hb e
 case NotEq=>
  refine bT (ry.mp e) λc' cT amW=>?_;obtain rfl:=amW
  exact P5 (.inr rfl) ok x ha hb cT
 case Is=>exact QY (.inl rfl) ok x ha hb e
 case IsNot=>
  refine bT (ry.mp e) λc' cT amX=>?_;obtain rfl:=amX
  exact QY (.inr rfl) ok x ha hb cT
 case In=>
  refine ar1 (abU e) λhk j l amY bX amZ=>?_;obtain rfl:=amY;obtain rfl:=amZ
  exact acr ok x hb bX hk ha
 case NotIn=>exact br e
 case Lt=>
  refine kA (abW e) λi j am0 am1 am2=>?_;obtain rfl:=am0;obtain rfl:=am1;obtain rfl:=am2
  refine cm ha λt am3=>?_;obtain rfl:=am3
  refine cm hb λu am4=>?_;obtain rfl:=am4
  refine aa.any ok λA s a6 bA bU gs fu f1=>?_
  subst gs;exact P.lt_int ⟨.now x ⟨rfl,rfl,rfl⟩,fu,f1⟩
 case LtE=>
  refine kA (abV e) λi j am6 am7 am8=>?_;obtain rfl:=am6;obtain rfl:=am7;obtain rfl:=am8
  refine cm ha λt am9=>?_;obtain rfl:=am9
  refine cm hb λu ana=>?_;obtain rfl:=ana
  refine aa.any ok λA s a6 bA bU gs fu f1=>?_
  subst gs;exact P.le_int ⟨.now x ⟨rfl,rfl,rfl⟩,fu,f1⟩
 case Gt=>
  refine kA (abT e) λi j anb anc ane=>?_;obtain rfl:=anb;obtain rfl:=anc;obtain rfl:=ane
  refine cm ha λt anf=>?_;obtain rfl:=anf
  refine cm hb λu ang=>?_;obtain rfl:=ang
  refine aa.any ok λA s a6 bA bU gs fu f1=>?_
  subst gs;exact P.gt_int ⟨.now x ⟨rfl,rfl,rfl⟩,fu,f1⟩
 case GtE=>
  refine kA (abS e) λi j ajl ajm ajn=>?_;obtain rfl:=ajl;obtain rfl:=ajm;obtain rfl:=ajn
  refine cm ha λt ajo=>?_;obtain rfl:=ajo
  refine cm hb λu ajp=>?_;obtain rfl:=ajp
  refine aa.any ok λA s a6 bA bU gs fu f1=>?_
  subst gs;exact P.ge_int ⟨.now x ⟨rfl,rfl,rfl⟩,fu,f1⟩
end
end
variable {da ck:aG}{l:List L}
section
variable {a:Int}
theorem Ti:Slot "bytearray" "__len__" "bytearray.__len__":=
 .of (owner:="bytearray") (n:="__len__") (by refine G (iM ..) (G (iL ..) ?_);kernel_rfl) (by decide+kernel) (by decide+kernel) (by decide+kernel)
  (by first |exact .inl (by decide+kernel)|exact .inr (by decide+kernel)) (by refine G (rG ..) ?_;kernel_rfl)
theorem ac4:qk nu "bytearray.__len__"=J Builtin.«bytearray.__len__»:=CA (by kernel_rfl)
theorem Yf(a:aG):mg "bytearray.__len__" ⟨[a],[]⟩:=by
 unfold mg;refine G (zG (id:="bytearray.__len__") (n:=['_','_','n','e','l','_','_']) (o:=['y','a','r','r','a','e','t','y','b']) (by kernel_rfl) xr) ?_;kernel_rfl
theorem aa.anyS{ay:Type}{t:Sem ay}{Q:ay->cq->Loc->an->Prop}(ok:bz Θ.fs d ah)
  (x:∀A s,A.handled=ac->A.depth<990->A.units<9800->s.heap=h->s.gens= #[]->s.os=Θ.O->cN (di prog Θ.w) A t (λa aS=>(s.heap.objs.size<=aS.heap.objs.size->d4 Θ Z ρ h Q a aS.heap)/\aS.gens= #[]/\aS.os=Θ.O) (λ_ _=>False) s):aa Θ ah Z ρ t Q h:=by
 obtain⟨A,cS,a6,bA,bU⟩:=ok.room;exact af.sized (af.any cS λs e1 e2 aP=>wI (x A s a6 (F8 bA) (F8 bU) e1 e2 aP) (λa aS y=>⟨λz=>y.1 (G e1 z),y.2⟩) λ_ _ e=>e)
theorem xg{s:cs}{av:bq}(k:∀b o,s.heap.get? b=J o->av.get? b=J o)(z:s.heap.objs.size<=av.objs.size):gM s.heap av:=⟨k,z⟩
theorem ag5{l:List UInt8}(ok:bz Θ.fs (d+4) ah)(x:bD Θ Z ρ m H h)(aR:bg ρ (.new i) o')(hi:H[i]? =J (.ba l))(aq:bH l.length=ae):aa Θ ah Z ρ (PySem.call (.builtin "len") [o']) (dC m (.int l.length) H) h:=by
 obtain⟨p,hp,rfl⟩:=aR;obtain⟨gZ,iR,-,-,bj⟩:=x.rel.get hi;rw [hp] at iR;obtain rfl:=ci iR;have :=fE aq;refine aa.any ok λA s a6 bA bU e1 e2 aP=>?_
 subst e1;have gm:s.TypeIs (.ref p.1) "bytearray":=⟨_,bj,rfl⟩;refine Calls.call_function_entry kind_len plain_len entry_len (args_len1 _) (b4 (m:=oneArg "len" _) (cK ?_));refine b4 (m:=callSpecial? (.ref p.1) (oh "__len__")) (uK (name:=oh "__len__") gm Ti (qn Ti gm ac4 ?_ (Yf _)));refine b4 (m:=slotArgs _ _ _) (cK ?_);refine bN (λ_=>vX bj) (bN (λ_=>wpAny_mkInt) (cK ⟨_,rfl,?_⟩))
 refine b4 (rI (cK ?_));refine bN (λ_=>wpAny_letGo) (G iA ?_)
 show cN _ _ (if((l.length:Nat):Int)<0 then _ else _) _ _ _
 refine jt (Int.not_ofNat_neg l.length) ?_;show cN _ _ (if((l.length:Nat):Int)>=2^63 then _ else _) _ _ _
 exact jt (by lia) (bN (λ_=>wpAny_mkInt) (cK ⟨_,rfl,.now x ⟨rfl,rfl,_,rfl⟩,e2,aP⟩))
theorem ag7{l:List L}(ok:bz Θ.fs (d+4) ah)(x:bD Θ Z ρ m H h)(aR:bg ρ (.new i) o')(hi:H[i]? =J (.list l))(aq:bH l.length=ae):aa Θ ah Z ρ (PySem.call (.builtin "len") [o']) (dC m (.int l.length) H) h:=by
 refine kA (AY x.rel (.inl hi) aR) λa vs ajq bj r=>?_;obtain rfl:=ajq
 have :=fE aq;have e:=r.length;refine aa.any ok λA s a6 bA bU e1 e2 aP=>?_
 subst e1;refine PyProof.Rows.len_list bj (by refine G iA ?_;lia) ⟨.now x ⟨rfl,rfl,s.toks+1,by(exact G iA (G e rfl))⟩,e2,aP⟩
theorem ag9{l:List L}(ok:bz Θ.fs (d+4) ah)(x:bD Θ Z ρ m H h)(aR:bg ρ (.new i) o')(hi:H[i]? =J (.set l))(aq:bH l.length=ae):aa Θ ah Z ρ (PySem.call (.builtin "len") [o']) (dC m (.int l.length) H) h:=by
 obtain⟨p,hp,rfl⟩:=aR;obtain⟨gZ,iR,-,o,aH,n,t,bj,aO,bA,ce,hz⟩:=x.rel.get hi;rw [hp] at iR;obtain rfl:=ci iR;have :=fE aq;refine aa.any ok λA s a6 pA bU e1 e2 aP=>?_
 subst e1;refine call_len_set bj aO bA ce (by lia) ⟨.now x ⟨rfl,rfl,s.toks+1,by(exact G hz rfl)⟩,e2,aP⟩
theorem ag6{l:List UInt8}(ok:bz Θ.fs (d+4) ah)(x:bD Θ Z ρ m H h)(aR:bg ρ (.bytes l) o')(aq:bH l.length=ae):aa Θ ah Z ρ (PySem.call (.builtin "len") [o']) (dC m (.int l.length) H) h:=by
 refine cm aR λt ajr=>?_;obtain rfl:=ajr
 have :=fE aq;refine aa.any ok λA s a6 pA bU e1 e2 aP=>?_
 subst e1;refine len_bytes (by refine G iA ?_;lia) ⟨.now x ⟨rfl,rfl,s.toks+1,by(exact G iA rfl)⟩,e2,aP⟩
theorem ahO{b:Int}{u:Tok}(ok:bz Θ.fs (d+4) ah)(x:bD Θ Z ρ m H h):aa Θ ah Z ρ (PySem.call (.builtin "min") [.int a t,.int b u]) (dC m (.int (if b<a then b else a)) H) h:=by
 refine aa.anyS ok λA s a6 bA bU e1 e2 aP=>?_
 subst e1;refine PySem.min_two_ints a6 λav tk k=>⟨λz=>d4.grown x (xg k z) ⟨rfl,rfl,?_⟩,e2,aP⟩
 split<;>exact⟨_,rfl⟩
theorem ahK{b:Int}{u:Tok}(ok:bz Θ.fs (d+4) ah)(x:bD Θ Z ρ m H h):aa Θ ah Z ρ (PySem.call (.builtin "max") [.int a t,.int b u]) (dC m (.int (if a<b then b else a)) H) h:=by
 refine aa.anyS ok λA s a6 bA bU e1 e2 aP=>?_
 subst e1;refine PySem.max_two_ints a6 λav tk k=>⟨λz=>d4.grown x (xg k z) ⟨rfl,rfl,?_⟩,e2,aP⟩
 show bg ρ _ (if b>a then _ else _)
 by_cases q:a<b
 ·exact G (aY q) (G (aY q) (⟨_,rfl⟩))
 ·exact G (a8 q) (G (a8 q) (⟨_,rfl⟩))
theorem XT(ok:bz Θ.fs (d+4) ah)(x:bD Θ Z ρ m H h):aa Θ ah Z ρ (PySem.call (.builtin "abs") [.int a t]) (dC m (.int a.natAbs) H) h:=by
 refine aa.any ok λA s a6 bA bU e1 e2 aP=>?_
 subst e1;refine PyProof.Rows.call_abs_int λu tk=>⟨.now x ⟨rfl,rfl,u,?_⟩,e2,aP⟩
 congr 1
 split
 ·exact Xd ‹_›
 ·exact(U5 (B5.mp ‹_›)).symm
theorem afW(ok:bz Θ.fs (d+4) ah)(x:bD Θ Z ρ m H h):aa Θ ah Z ρ (PySem.call (.builtin "isinstance") [.int a t,.type "int"]) (dC m (.bool ae) H) h:=by
 refine aa.any ok λA s a6 bA bU e1 e2 aP=>?_
 subst e1;exact PySem.IsiPair.int_int ⟨.now x ⟨rfl,rfl,rfl⟩,e2,aP⟩
end
section
variable {Q:aG->cs->Prop}
theorem afP:jp (.type "int") "__bytes__"=bK ac:=by refine G (iM ..) (G (iL ..) ?_);kernel_rfl
theorem Zi:jp (.type "bytearray") "__bytes__"=bK ac:=by refine G (iM ..) (G (iL ..) ?_);kernel_rfl
theorem Zj:jp (.type "bytearray") "__index__"=bK ac:=by refine G (iM ..) (G (iL ..) ?_);kernel_rfl
theorem aap:jp (.type "bytes") "__bytes__"=bK (J (.builtin "bytes.__bytes__")):=by refine G (iM ..) (G (iL ..) ?_);kernel_rfl
section
variable {prog:uG}
theorem HG{x:aG}(h:cN (di prog w) A.in1.in1 (Builtin.«bytes.__new__» ⟨[.type "bytes",x],[]⟩) (λcp aS=>∃b t,cp=.done (.ret (.bytes b t))/\Q (.bytes b t) aS) E s):
  cN (di prog w) A (call (.type "bytes") [x]) Q E s:=by
 refine callType_codes (Q₁:=λmv en=>en.TypeIs mv "bytes"/\Q mv en) F.bm_called (F.bm_typeCall _) F.entry_object_init ?_ λmv en h₁=>?_
 ·refine Gs (bN (λ_=>hG (F.bm_newCall _)) (cK ⟨zE F.bm_plain _,NL F.bm_entry ?_⟩))
  refine G (Gf F.bm_plain _) (wI h (λcp aS eH=>mF eH λb t e q=>?_) λ_ _ e=>e)
  subst e;exact⟨PySem.W.typeIs_bytes _ _ _,q⟩
 ·exact⟨h₁.1,F.args_object_init_2 mv _,object_init_meets F.bm_called.init.lookup F.bm_called.made (by decide) prog w A.in1 _ en ⟨h₁.1,rfl,h₁.2⟩⟩
theorem aao{n:Int}{u:Tok}(bu:0<=n)(ai:n<=65536)(h:Q (.bytes (Array.replicate n.toNat 0) s.toks) {s with toks:=s.toks+1}):
  cN (di prog w) A (Builtin.«bytes.__new__» ⟨[.type "bytes",.int n u],[]⟩) (λcp aS=>∃b t,cp=.done (.ret (.bytes b t))/\Q (.bytes b t) aS) E s:=by
 refine bN (λ_=>hG (a:=ae) rfl) (pe rfl (bN (λ_=>hG F.bm_sub) (pe rfl (bN (λ_=>hG (F.bm_bind _)) (bN (λ_=>hG (a:=()) rfl) (bN (λ_=>hG (a:=()) rfl) (pe rfl (bN (λ_=>ie (wH s n u) afP) (bN (λ_=>hG (a:=aA) rfl) (pe rfl (bN (λ_=>ie (wH s n u) int_index) (pe rfl (b4 (zJ (hG (a:=n) rfl ?_)))))))))))))))
 refine jt (by simp [wx];lia) (jt (B5.mpr ‹_›) (jt (by lia) (jt (by simp [Gi,k9];lia) ?_)))
 refine bN (λ_=>rJ) (b4 (GC ?_ (by simp [k9];lia)))
 exact Cx (by decide) (cK ⟨_,_,rfl,h⟩)
theorem aan{b:Array UInt8}{u:Tok}(h:Q (.bytes b u) s):
  cN (di prog w) A (Builtin.«bytes.__new__» ⟨[.type "bytes",.bytes b u],[]⟩) (λcp aS=>∃b t,cp=.done (.ret (.bytes b t))/\Q (.bytes b t) aS) E s:=by
 refine bN (λ_=>hG (a:=ae) rfl) (pe rfl (bN (λ_=>hG F.bm_sub) (pe rfl (bN (λ_=>hG (F.bm_bind _)) (bN (λ_=>hG (a:=()) rfl) (bN (λ_=>hG (a:=()) rfl) (pe rfl (bN (λ_=>ie (PySem.W.typeIs_bytes s b u) aap) (bN (λ_=>rJ) (b4 (ta (PySem.W.typeIs_bytes s b u) ?_)))))))))))
 exact Cx (by decide) (Cx (by decide) (cK ⟨_,_,rfl,h⟩))
theorem aam{a:a1}{l:List UInt8}(aR:s.heap.get? a=J (jW l))(aq:l.length<=65536)(h:Q (.bytes l.toArray s.toks) {s with toks:=s.toks+1}):
  cN (di prog w) A (Builtin.«bytes.__new__» ⟨[.type "bytes",.ref a],[]⟩) (λcp aS=>∃b t,cp=.done (.ret (.bytes b t))/\Q (.bytes b t) aS) E s:=by
 have gm:s.TypeIs (.ref a) "bytearray":=⟨_,aR,rfl⟩;refine bN (λ_=>hG (a:=ae) rfl) (pe rfl (bN (λ_=>hG F.bm_sub) (pe rfl (bN (λ_=>hG (F.bm_bind _)) (bN (λ_=>hG (a:=()) rfl) (bN (λ_=>hG (a:=()) rfl) (pe rfl (bN (λ_=>ie gm Zi) (b4 (b4 ?_))))))))))
 refine bN (λ_=>GA aR) (cK (cK ?_))
 refine pe rfl (bN (λ_=>ie gm Zj) (Cx rfl (bN (λ_=>aqR aR) ?_)))
 refine bN (λ_=>rJ) (b4 (GC ?_ (by simp [k9];lia)))
 exact Cx (by decide) (cK ⟨_,_,rfl,h⟩)
end
end
variable {Q:aG->cs->Prop}
section
variable {prog:uG}
abbrev Gd(b:Array UInt8):Nat->aG->Prop:=λi v=>∃c u,b[i]? =J c/\v=.int (c.toNat:Int) u
theorem aqS{R:Result->cs->Prop}(a6:A.handled=ac)(x:Array UInt8)(t:Tok)(S:a1)(xy:aG)(acd:Nat)(py:s.heap.get? S=J {cls:=.type "list",data:=.seq #[] acd})
  (tC:∀av tk lL c',(∀b o,b≠S->s.heap.get? b=J o->av.get? b=J o)->av.get? S=J {cls:=.type "list",dict:=ac,data:=.seq lL c',slots:= #[]}->
   ItemsOf (Gd x) lL x.size->R (.ok (.ret xy)) {s with heap:=av,toks:=tk}) (hn:x.size<=mh):
  cN (di prog w) A.in1 (NE (.ref S) (.bytes x t) xy)
   (λcp aS=>match cp with | .done f=>R (.ok f) aS| .again c'=>c'.quiet=ae/\codeAny (di prog w) A c' R aS) (λe aS=>R (.error e) aS) s:=by
 have aeu:S≠s.heap.objs.size:=mf (gE py);have aev:S∉ [s.heap.objs.size]:=λbc=>aeu (jk.mp bc)
 refine b4 (ta (T:="bytes") (v:=.bytes x t) rfl ?_);have ai:Builtin.List.listSameRef (.ref S) (.bytes x t)=aA:=rfl;have ak:(Gn "bytes"==Gn "list")=aA:=by decide
 have aZ:(Gn "bytes"==Gn "tuple")=aA:=by decide
 refine bN (λ_=>KBw.pyIter_bytes) (b4 (rI ?_))
 refine bN (λ_=>ie (T:="bytes") (v:=.bytes x t) rfl FB.slot_bytes_len.lookup) ?_
 wp_delta
 refine bN (λ_=>s8 (T:="bytes") (v:=.bytes x t) (b:=ae) rfl (by refine G (rG ..) ?_;kernel_rfl)) ?_
 show cN _ _ (typeOf (Value.bytes x t)>>=_) _ _ _
 refine bN (λ_=>ta (T:="bytes") (v:=.bytes x t) rfl) (cK (jt (by decide) (cK ⟨zE F.plain_extend_loop _,codeAny_extend_loopS (KBw.walks (A:=A.in1) a6 s.heap.objs.size x t).toS hn _ aev _ x.size 0 _ _ _ rfl (hf _) ⟨_,hU _ rfl,rfl,rfl⟩ (k6 _ py) (ItemsOf.nil _) λaS lL c' bc Au Av=>?_⟩)))
 refine G (Moved.eq_with bc) (tC aS.heap aS.toks lL c' (λb m6 hb e=>bc.heap b m6 (λIS=>?_) (k6 _ e)) Au Av)
 rcases fw.mp IS with cT|IS
 ·exact hb cT
 ·exact absurd (gE e) (G (jk.mp IS) (jn _))
theorem aqT{R:Result->cs->Prop}(a6:A.handled=ac)(x:Array UInt8)(t:Tok)(S:a1)(py:s.heap.get? S=J {cls:=.type "list",data:=.seq #[]})
  (tC:∀av tk lL c',(∀b o,b≠S->s.heap.get? b=J o->av.get? b=J o)->av.get? S=J {cls:=.type "list",dict:=ac,data:=.seq lL c',slots:= #[]}->
   ItemsOf (Gd x) lL x.size->R (.ok (.ret .none)) {s with heap:=av,toks:=tk}) (hn:x.size<=mh):
  cN (di prog w) A.in1 (Builtin.«list.__init__» ⟨[.ref S,.bytes x t],[]⟩)
   (λcp aS=>match cp with | .done f=>R (.ok f) aS| .again c'=>c'.quiet=ae/\codeAny (di prog w) A c' R aS) (λe aS=>R (.error e) aS) s:=by
 show cN _ _ (do let nI <-Builtin.List.listItems (.ref S);Builtin.List.listUpdate (.ref S) (λ_=> #[]);letGo nI.toList.reverse;NE (.ref S) (.bytes x t) .none) _ _ s
 refine b4 (bN (λ_=>GD py rfl) (cK ?_))
 show cN _ _ (updateSeq S (λ_=> #[])>>=λ_=>letGo (#[]:Array aG).toList.reverse>>=λ_=>NE (.ref S) (.bytes x t) .none) _ _ s
 refine bN (λ_=>wpAny_updateSeq py rfl) ?_
 have aew:=sZ (rA (λ_=>(#[]:Array aG))) py rfl
 have ai3:∀b o,b≠S->s.heap.get? b=J o->(s.heap.update S (rA (λ_=>(#[]:Array aG)))).get? b=J o:=
  λb o hb e=>(uE _ _ (Cm hb)).trans e
 exact bN (λ_=>wpAny_letGo) (aqS (hn:=hn) a6 x t S .none _ aew λav tk lL c' hk Au Av=>tC av tk lL c' (λb o hb e=>hk b o hb (ai3 b o hb e)) Au Av)
theorem abC{Q:aG->cs->Prop}(a6:A.handled=ac)(x:Array UInt8)(t:Tok)
  (jG:∀av tk lL c',(∀b o,s.heap.get? b=J o->av.get? b=J o)->
   av.get? s.heap.objs.size=J {cls:=.type "list",dict:=ac,data:=.seq lL c',slots:= #[]}->ItemsOf (Gd x) lL x.size->Q (.ref s.heap.objs.size) {s with heap:=av,toks:=tk}) (hn:x.size<=mh):
  cN (di prog w) A (call (.type "list") [.bytes x t]) Q E s:=by
 refine callType_codes (Q₁:=λmv en=>mv=.ref s.heap.objs.size/\en= {s with heap:=s.heap.push {cls:=.type "list",data:=.seq #[]}}) F.called_list (F.typeCall_list_1 _) F.entry_list_init
  (code_list_new _ ⟨rfl,rfl⟩) λmv en h₁=>?_
 refine cz h₁ λajs ajt=>?_;obtain rfl:=ajs;obtain rfl:=ajt
 have py:(s.heap.push {cls:=.type "list",data:=.seq #[]}).get? s.heap.objs.size=J {cls:=.type "list",data:=.seq #[]}:=hU _ rfl;refine⟨⟨_,py,rfl⟩,F.args_list_init_2 _ _,aqT (A:=A.in1) (hn:=hn) a6 x t _ py λav tk lL c' hk Au Av=>?_⟩
 exact⟨rfl,jG av tk lL c' (λb o e=>hk b o (mf (gE e)) (k6 _ e)) Au Av⟩
end
section
variable {a:L}{aB:aG}
theorem All2.of_get{ay bF:Type}{R:ay->bF->Prop}:∀ {l:List ay} {m:List bF},l.length=m.length->(∀(i:Nat) a b,l[i]? =J a->m[i]? =J b->R a b)->All2 R l m:=by
 intro l;induction l with
 |nil=>
  intro m e k;rcases m with _|⟨b,m⟩
  ·exact .nil
  ·exact Nat.noConfusion e
 |cons a l ih=>
  intro m e k;rcases m with _|⟨b,m⟩
  ·exact Nat.noConfusion e
  ·exact .cons (k 0 a b rfl rfl) (ih (M2 e) λi a b ai ak=>k (i+1) a b ai ak)
theorem aah{n:Int}{t:Tok}(ok:bz Θ.fs (d+4) ah)(x:bD Θ Z ρ m H h)(bu:0<=n)(ai:n<=65536):aa Θ ah Z ρ (PySem.call (.type "bytes") [.int n t]) (dC m (.bytes (f9 n.toNat 0)) H) h:=by
 refine aa.any ok λA s a6 bA bU e1 e2 aP=>?_
 subst e1;refine HG (aao (Q:=λv aS=>d4 Θ Z ρ s.heap (dC m (.bytes (f9 n.toNat 0)) H) v aS.heap/\aS.gens= #[]/\aS.os=Θ.O) bu ai ?_)
 exact⟨.now x ⟨rfl,rfl,s.toks,by simp⟩,e2,aP⟩
theorem aag{l:List UInt8}(ok:bz Θ.fs (d+4) ah)(x:bD Θ Z ρ m H h)(aR:bg ρ (.bytes l) o'):aa Θ ah Z ρ (PySem.call (.type "bytes") [o']) (dC m (.bytes l) H) h:=by
 refine cm aR λt aju=>?_;obtain rfl:=aju
 refine aa.any ok λA s a6 bA bU e1 e2 aP=>?_
 subst e1;refine HG (aan (Q:=λv aS=>d4 Θ Z ρ s.heap (dC m (.bytes l) H) v aS.heap/\aS.gens= #[]/\aS.os=Θ.O) ?_)
 exact⟨.now x ⟨rfl,rfl,t,rfl⟩,e2,aP⟩
theorem aaf{l:List UInt8}(ok:bz Θ.fs (d+4) ah)(x:bD Θ Z ρ m H h)(aR:bg ρ (.new i) o')(hi:H[i]? =J (.ba l))(aq:bH l.length=ae):aa Θ ah Z ρ (PySem.call (.type "bytes") [o']) (dC m (.bytes l) H) h:=by
 obtain⟨p,hp,rfl⟩:=aR;obtain⟨-,-,bj⟩:=x.rel.obj _ _ _ hp hi;refine aa.any ok λA s a6 bA bU e1 e2 aP=>?_
 subst e1;refine HG (aam (Q:=λv aS=>d4 Θ Z ρ s.heap (dC m (.bytes l) H) v aS.heap/\aS.gens= #[]/\aS.os=Θ.O) bj (fE aq) ?_)
 exact⟨.now x ⟨rfl,rfl,s.toks,rfl⟩,e2,aP⟩
theorem aiQ{vs:List aG}(x:All2 (bg ρ) l vs):∀ {bs:List UInt8},bR l=J bs->∃ns,IntsAre vs ns/\(∀n∈ns,0<=n/\n<256)/\(ns.map λn=>n.toNat.toUInt8)=bs:=by
 induction x with
 |nil=>intro bs e;obtain rfl:=ci e;exact⟨[],.nil,(λ_ h=>absurd h jl),rfl⟩
 | @cons v aJ l vs r q ih=>
  intro bs e;have e:(match oK v,bR l with |J c,J r=>J (c::r)|_,_=>ac)=J bs:=e
  split at e
  ·rename_i c fR e1 e2;obtain rfl:=ci e;refine kS (ih e2) λns kL lQ vl=>?_
   induction v using Mine.Internal.L.casesOn with
   |int i=>
    have e1:(if 0<=i/\i<256 then J (hV i.toNat) else ac)=J c:=e1
    split at e1
    ·rename_i hi;obtain rfl:=ci e1;refine cm r λt ajv=>?_;obtain rfl:=ajv
     refine⟨i::ns,.cons i t kL,λn hn=>?_,by(exact G h9 (G vl rfl))⟩
     rcases fw.mp hn with rfl|hn
     ·exact hi
     ·exact lQ n hn
    ·exact br e1
   |_=>exact br e1
  ·exact br e
theorem aai{bs:List UInt8}(ok:bz Θ.fs (d+4) ah)(x:bD Θ Z ρ m H h)(aR:bg ρ (.new i) o')(hi:H[i]? =J (.list l))(aq:bH l.length=ae)(e:bR l=J bs):
  aa Θ ah Z ρ (PySem.call (.type "bytes") [o']) (dC m (.bytes bs) H) h:=by
 refine kA (AY x.rel (.inl hi) aR) λa vs ajw bj r=>?_;obtain rfl:=ajw
 refine kS (aiQ r e) λns kL lQ vl=>aa.anyS ok λA s a6 bA bU e1 e2 aP=>?_
 subst e1;refine call_bytes_ints bj kL lQ (cU r.length (oB aq)) a6 λav t fO k=>⟨λz=>d4.grown x (xg k z) ⟨rfl,rfl,t,?_⟩,e2,aP⟩
 unfold byteArr;(exact G vl rfl)
theorem aha{l:List UInt8}(ok:bz Θ.fs (d+4) ah)(x:bD Θ Z ρ m H h)(aR:bg ρ (.bytes l) o')(aq:bH l.length=ae):aa Θ ah Z ρ (PySem.call (.type "list") [o']) (dC m (.new H.length) (H++[.list (l.map dh)])) h:=by
 refine cm aR λt ajx=>?_;obtain rfl:=ajx
 refine aa.anyS ok λA s a6 bA bU e1 e2 aP=>?_
 subst e1;refine abC a6 l.toArray t (λav tk lL c' k aB it=>⟨λz=>?_,e2,aP⟩) (G iA (oB aq))
 refine d4.added x (xg k z) (p:=(s.heap.objs.size,s.heap.objs.size)) (cW _) (cW _) (o:=.list (l.map dh)) ⟨rfl,lL.toList,c',by simpa using aB,.of_get ?_ λj a b ai ak=>?_⟩ ⟨rfl,rfl,bg.last x.len⟩
 ·have :=it.1;simpa using this.symm
 ·refine mF (it.2 j b (by simpa using ak)) λc u jD iO=>?_
  have jD:l[j]? =J c:=by simpa using jD
  rw [kY,jD] at ai;obtain rfl:=ci ai;exact⟨u,iO⟩
theorem ahb(ok:bz Θ.fs (d+4) ah)(x:bD Θ Z ρ m H h)(aR:bg ρ (.new i) o')(hi:H[i]? =J (.list l))(aq:bH l.length=ae):aa Θ ah Z ρ (PySem.call (.type "list") [o']) (dC m (.new H.length) (H++[.list l])) h:=by
 obtain⟨p,hp,rfl⟩:=aR;obtain⟨-,vs,n,bj,r⟩:=x.rel.obj _ _ _ hp hi;refine aa.anyS ok λA s a6 bA bU e1 e2 aP=>?_
 subst e1;refine call_list_seq p.1 (.inl rfl) bj rfl rfl (λav c' k aB=>⟨λz=>?_,e2,aP⟩) (G iA (cU r.length (oB aq)))
 exact d4.added x (xg k z) (p:=(s.heap.objs.size,s.heap.objs.size)) (cW _) (cW _) (o:=.list l) ⟨rfl,vs,c',aB,r.mono λ_ _ r=>r.sub ⟨_,rfl⟩⟩ ⟨rfl,rfl,bg.last x.len⟩
theorem afQ{vs:List aG}(x:All2 (bg ρ) l vs)(e:l.all isInt=ae):∃ns,IntsAre vs ns/\l=ns.map L.int:=by
 induction x with
 |nil=>exact⟨[],.nil,rfl⟩
 | @cons v aJ l vs r q ih=>
  rw [wk,he] at e;refine bT (ih e.2) λns kL lQ=>?_
  induction v using Mine.Internal.L.casesOn with
  |int i=>
   refine cm r λt ajy=>?_;obtain rfl:=ajy
   exact⟨i::ns,.cons i t kL,G lQ rfl⟩
  |_=>cases e.1
theorem PQ:∀(ns acc:List Int),rV (ns.map L.int) (acc.map L.int)=(ns.foldl step_dedup acc).map L.int
 | [],acc=>rfl
 |n::ns,acc=>by
  refine G h9 ?_;rw [PO];refine G List.foldl_cons (cU (PQ ns (step_dedup acc n)) ?_);congr 1
  unfold step_dedup;have :(acc.map L.int).contains (L.int n)=acc.any (· ==n):=by
   refine fB t6 ?_;simp [List.any_eq_true]
  refine G this ?_;split<;>simp_all
theorem range_getD(ns:List Int):(nn ns.length).map (λi=>ns.getD i 0)=ns:=by
 apply FY
 intro i;refine G kY ?_;by_cases hi:i<ns.length
 ·refine G (B7 hi) ?_;simp [List.getD,iy hi]
 ·exact G (mP (by simp;exact wo hi)) (G (mP (wo hi)) rfl)
theorem aob(ok:bz Θ.fs (d+4) ah)(x:bD Θ Z ρ m H h)(aR:bg ρ (.new i) o')(hi:H[i]? =J (.list l))(aq:l.length<=4000)(ha:l.all isInt=ae):
  aa Θ ah Z ρ (PySem.call (.type "set") [o']) (dC m (.new H.length) (H++[.set (rV l [])])) h:=by
 refine kA (AY x.rel (.inl hi) aR) λa vs ajz bj r=>?_;obtain rfl:=ajz
 refine bT (afQ r ha) λns kL lQ=>?_
 have ei:=r.length;have j0:=kL.length;refine aa.anyS ok λA s a6 bA bU e1 e2 aP=>?_
 subst e1;refine call_set_list a6 bj (ns:=ns) (by simpa using kL) (by simp [scanBound];lia) λav tk py k=>⟨λz=>?_,e2,aP⟩
 refine asd py λo aH ii t aB ex jZ _ _ _ qz adm=>?_
 have kt:∀b o,s.heap.get? b=J o->av.get? b=J o:=λb o e=>k b o (gE e) e
 refine d4.added x (xg kt z) (p:=(s.heap.objs.size,s.heap.objs.size)) (cW _) (cW _) (o:=.set (rV l [])) ⟨rfl,o,aH,ii,t,aB,ex,jZ,qz,?_⟩ ⟨rfl,rfl,bg.last x.len⟩;rw [adm,lQ];have :=PQ ns [];rw [MR] at this;(rewrite [this];rw [d0]);unfold firstMet;(exact G iA (G j0 (G (range_getD ..) rfl)))
theorem ag4(ok:bz Θ.fs (d+4) ah)(x:bD Θ Z ρ m H h)(ra:bg ρ a da)(e:JB a H=J (v,bb)):aa Θ ah Z ρ (PySem.call (.builtin "len") [da]) (dC m v bb) h:=by
 rcases a<;>first |exact br e|skip
 ·exact dR e λaq e=>lX e λaM a7=>by subst aM a7;exact ag6 ok x ra aq
 ·refine gb e λo bX e=>?_
  rcases o<;>first |exact br e|exact dR e λaq e=>lX e λaM a7=>by subst aM a7;first |exact ag7 ok x ra bX aq|exact ag9 ok x ra bX aq|exact ag5 ok x ra bX aq
theorem aal(ok:bz Θ.fs (d+4) ah)(x:bD Θ Z ρ m H h)(ra:bg ρ a da)(e:G7 a H=J (v,bb)):aa Θ ah Z ρ (PySem.call (.type "bytes") [da]) (dC m v bb) h:=by
 rcases a<;>first |exact br e|skip
 ·exact dR e λaD e=>lX e λaM a7=>by
   subst aM a7;refine cm ra λt q=>?_
   subst q;exact aah ok x aD.1 aD.2
 ·exact dR e λaq e=>lX e λaM a7=>by subst aM a7;exact aag ok x ra
 ·refine gb e λo bX e=>?_
  rcases o<;>first |exact br e|skip
  ·refine dR e λaq e=>bT (ry.mp e) λw iO z=>oM z λaM a7=>?_
   subst aM a7;exact aai ok x ra bX aq iO
  ·exact dR e λaq e=>lX e λaM a7=>by subst aM a7;exact aaf ok x ra bX aq
theorem Zf(ok:bz Θ.fs (d+4) ah)(x:bD Θ Z ρ m H h)(ra:bg ρ a da)(e:GX a H=J (v,bb)):aa Θ ah Z ρ (PySem.call (.type "bytearray") [da]) (dC m v bb) h:=by
 induction a using Mine.Internal.L.casesOn with
 |int n=>
  have e:(if 0<=n/\n<=65536 then J (L.new H.length,H++[bt.ba (f9 n.toNat 0)]) else ac)=J (v,bb):=e
  split at e
  ·rename_i aD;refine lX e λajA ajB=>?_;obtain rfl:=ajA;obtain rfl:=ajB
   refine cm ra λt ajC=>?_;obtain rfl:=ajC
   exact GZ (src:=J (.int _ t)) ok x (by simp only [xF];(exact G (aY aD) rfl))
  ·exact br e
 |bytes l=>
  have e:(if bH l.length then J (L.new H.length,H++[bt.ba l]) else ac)=J (v,bb):=e
  split at e
  ·rename_i aD;refine lX e λajD ajE=>?_;obtain rfl:=ajD;obtain rfl:=ajE
   refine cm ra λt ajF=>?_;obtain rfl:=ajF
   have :=fE aD;exact GZ (src:=J (.bytes _ t)) ok x (by simp only [xF];(exact G (aY (by simpa using this)) rfl))
  ·exact br e
 |_=>exact br e
theorem aog(ok:bz Θ.fs (d+4) ah)(x:bD Θ Z ρ m H h)(ra:bg ρ a da)(e:K6 a H=J (v,bb)):aa Θ ah Z ρ (PySem.call (.type "set") [da]) (dC m v bb) h:=by
 induction a using Mine.Internal.L.casesOn with
 |new i=>
  refine gb e λl ei e=>?_
  split at e
  ·rename_i aD;refine lX e λajG ajH=>?_;obtain rfl:=ajG;obtain rfl:=ajH
   simp only [he,decide_eq_true_eq] at aD;exact aob ok x ra (xi ei) aD.1 aD.2
  ·exact br e
 |_=>exact br e
theorem ahc(ok:bz Θ.fs (d+4) ah)(x:bD Θ Z ρ m H h)(ra:bg ρ a da)(e:JD a H=J (v,bb)):aa Θ ah Z ρ (PySem.call (.type "list") [da]) (dC m v bb) h:=by
 induction a using Mine.Internal.L.casesOn with
 |bytes l=>
  have e:(if bH l.length then J (L.new H.length,H++[bt.list (l.map dh)]) else ac)=J (v,bb):=e
  split at e
  ·refine lX e λajI ajJ=>?_;obtain rfl:=ajI;obtain rfl:=ajJ;exact aha ok x ra ‹_›
  ·exact br e
 |new i=>
  refine gb e λl ei e=>?_
  split at e
  ·refine lX e λajK ajL=>?_;obtain rfl:=ajK;obtain rfl:=ajL;exact ahb ok x ra (xi ei) ‹_›
  ·exact br e
 |_=>exact br e
theorem ZV(ok:bz Θ.fs (d+4) ah)(x:bD Θ Z ρ m H h)(ra:bg ρ a da)(e:O3 aB a H=J (v,bb)):aa Θ ah Z ρ (PySem.call aB [da]) (dC m v bb) h:=by
 induction aB using PySem.Value.casesOn with
 |builtin s=>
  have e:(if s="len" then JB a H else if s="abs" then OM a H else ac)=J (v,bb):=e
  split at e
  ·rename_i q;subst q;exact ag4 ok x ra e
  ·split at e
   ·rename_i q;subst q;induction a using Mine.Internal.L.casesOn with
    |int n=>
     cases e;refine cm ra λt ajM=>?_;obtain rfl:=ajM
     exact XT ok x
    |_=>exact br e
   ·exact br e
 |type s=>
  have e:(if s="bytes" then G7 a H else if s="bytearray" then GX a H else if s="set" then K6 a H else if s="list" then JD a H else ac)=J (v,bb):=e
  split at e
  ·rename_i q;subst q;exact aal ok x ra e
  ·split at e
   ·rename_i q;subst q;exact Zf ok x ra e
   ·split at e
    ·rename_i q;subst q;exact aog ok x ra e
    ·split at e
     ·rename_i q;subst q;exact ahc ok x ra e
     ·exact br e
 |_=>exact br e
theorem ZW{b:L}{ck:aG}(ok:bz Θ.fs (d+4) ah)(x:bD Θ Z ρ m H h)(ra:bg ρ a da)(rb:bg ρ b ck)(e:O4 aB a b H=J (v,bb)):aa Θ ah Z ρ (PySem.call aB [da,ck]) (dC m v bb) h:=by
 induction aB using PySem.Value.casesOn with
 |builtin s=>
  induction a using Mine.Internal.L.casesOn with
  |int n=>
   refine cm ra λt ajN=>?_;obtain rfl:=ajN
   by_cases q:s="isinstance"
   ·subst q;have e:(if Je b then J (L.bool ae,H) else ac)=J (v,bb):=e
    split at e
    ·rename_i q;refine lX e λajO ajP=>?_;obtain rfl:=ajO;obtain rfl:=ajP
     induction b using Mine.Internal.L.casesOn with
     |st w=>
      induction w using PySem.Value.casesOn with
      |type s=>
       have q:(s=="int")=ae:=q;rw [beq_iff_eq] at q;subst q;cases rb;exact afW ok x
      |_=>exact b8 q
     |_=>exact b8 q
    ·exact br e
   ·have e:(if s="isinstance" then(if Je b then J (L.bool ae,H) else ac) else RG s n b H)=J (v,bb):=e
    rw [a8 q] at e;induction b using Mine.Internal.L.casesOn with
    |int y=>
     refine cm rb λu ajQ=>?_;obtain rfl:=ajQ
     have e:(if s="min" then J (L.int (if y<n then y else n),H) else if s="max" then J (L.int (if n<y then y else n),H) else ac)=J (v,bb):=e
     split at e
     ·rename_i q;subst q;cases e;exact ahO ok x
     ·split at e
      ·rename_i q;subst q;cases e;exact ahK ok x
      ·exact br e
    |_=>exact br e
  |_=>exact br e
 |_=>exact br e
theorem agQ{vs:List L}{vs':List aG}(ok:bz Θ.fs (d+4) ah)(x:bD Θ Z ρ m H h)(hv:All2 (bg ρ) vs vs')(e:cH aB vs H=J (v,bb)):aa Θ ah Z ρ (PySem.call aB vs') (dC m v bb) h:=by
 induction hv using Mine.Internal.All2.casesOn with
 |nil=>
  induction aB using PySem.Value.casesOn with
  |type s=>
   have e:(if s="bytearray" then J (L.new H.length,H++[bt.ba []]) else ac)=J (v,bb):=e
   split at e
   ·rename_i q;subst q;cases e;exact GZ (src:=ac) ok x rfl
   ·exact br e
  |_=>exact br e
 |cons ra q=>induction q using Mine.Internal.All2.casesOn with
  |nil=>exact ZV ok x ra e
  |cons rb q=>induction q using Mine.Internal.All2.casesOn with
   |nil=>exact ZW ok x ra rb e
   |cons _ _=>exact br e
end
section
variable {c:l8}{f:a1}{n:Str}{o:L}
theorem agO{j:Nat}{a b:List L}(ok:bz Θ.fs (d+4) ah)(x:bD Θ Z ρ m H h)(ha:bg ρ (.new i) da)(hb:bg ρ (.new j) ck)(hi:H[i]? =J (.list a))(cY:H[j]? =J (.list b))(aq:bH (a.length+b.length)=ae):
  aa Θ ah Z ρ (zB .Add da ck) (dC m (.new H.length) (H++[.list (a++b)])) h:=by
 obtain⟨p,hp,rfl⟩:=ha;obtain⟨q,cI,rfl⟩:=hb;obtain⟨-,vs,n,ai,b9⟩:=x.rel.obj _ _ _ hp hi;obtain⟨iE,AL,-,gr,n2,ak,dG⟩:=x.rel.get cY;rw [cI] at AL;obtain rfl:=ci AL;have hs:vs.length+gr.length<=65536:=by
  have :a.length+b.length<=65536:=by simpa [bH] using aq
  exact cU b9.length (cU dG.length this)
 refine aa.any ok λA s a6 bA bU e1 e2 aP=>?_
 subst e1;refine concat_meets ⟨_,ai,rfl⟩ ⟨_,ak,rfl⟩ noFill_list_add seq_list_add PySem.F.slot_list_add PySem.F.entry_list_add (PySem.F.args_list_add_2 _ _) (list_addW p.1 q.1 vs.toArray gr.toArray n n2 ac ac #[] #[] (by simp [k9];lia)) ⟨ai,ak,?_⟩
 refine⟨?_,e2,aP⟩;have sub:Sub ρ (ρ++[(s.heap.objs.size,s.heap.objs.size)]):=⟨_,rfl⟩;have jD:vs.toArray++gr.toArray=(vs++gr).toArray:=by simp
 refine G jD (d4.added x (.push _ _) (o:=.list (a++b)) (p:=(s.heap.objs.size,s.heap.objs.size)) (cW _) (cW _) ⟨rfl,vs++gr,0,hU _ rfl,(b9.append dG).mono λ_ _ r=>r.sub sub⟩ ⟨rfl,rfl,.last x.len⟩)
theorem agW{n:Int}{a:List L}(ok:bz Θ.fs (d+4) ah)(x:bD Θ Z ρ m H h)(ha:bg ρ (.new i) da)(hb:bg ρ (.int n) ck)(hi:H[i]? =J (.list a))(aq:bH (a.length*n.toNat)=ae)(hn:cG n=ae):
  aa Θ ah Z ρ (zB .Mult da ck) (dC m (.new H.length) (H++[.list (f9 n.toNat a).flatten])) h:=by
 obtain⟨p,hp,rfl⟩:=ha;refine cm hb λu akh=>?_;obtain rfl:=akh
 obtain⟨-,vs,k,ai,b9⟩:=x.rel.obj _ _ _ hp hi;have hs:vs.toArray.size*n.toNat<=65536:=by
  have :a.length*n.toNat<=65536:=by simpa [bH] using aq
  exact G iA (cU b9.length this)
 have lm:n.natAbs<2^62:=by simpa [cG] using hn
 have anQ:∀c:Nat,All2 (bg ρ) (f9 c a).flatten (f9 c vs).flatten:=λc=>by
  induction c with
  |zero=>exact .nil
  |succ c ih=>(refine G Cc (G Cc (G MM (G MM ?_))));exact b9.append ih
 refine aa.any ok λA s a6 bA bU e1 e2 aP=>?_
 subst e1;refine wpAny_binaryOp_repeat_ref (T:="list") (U:="int") (by decide) ⟨_,ai,rfl⟩ (λaS=>wH aS n u) noFill_list_mul F.fills_int_mul F.slot_int_rmul repeat_list F.slot_int_index.lookup
  (call_meets F.slot_int_rmul (wH s n u) F.entry_int_rmul (F.args_int_rmul_2 _ _) (lm_int_rmul_list_any n u p.1 vs.toArray k ac #[])
   ⟨ai,rfl,⟨_,ai,rfl⟩,call_meets F.slot_list_mul ⟨_,ai,rfl⟩ F.entry_list_mul (F.args_list_mul_2 _ _)
    (lm_list_mul_any p.1 vs.toArray k ac #[] n u (by simp [VA];exact XB lm) (by lia) (by simp [Builtin.List.listTooLong,mh];simp at hs;lia))
    ⟨ai,?_⟩⟩)
 refine⟨?_,e2,aP⟩;have sub:Sub ρ (ρ++[(s.heap.objs.size,s.heap.objs.size)]):=⟨_,rfl⟩;refine G (listMul_foldl_if ..) (d4.added x (.push _ _) (o:=.list (f9 n.toNat a).flatten) (p:=(s.heap.objs.size,s.heap.objs.size)) (cW _) (cW _) ⟨rfl,(f9 n.toNat vs).flatten,0,hU _ rfl,(anQ _).mono λ_ _ r=>r.sub sub⟩ ⟨rfl,rfl,.last x.len⟩)
theorem agP{bM:og}{a b:L}(ok:bz Θ.fs (d+4) ah)(x:bD Θ Z ρ m H h)(ha:bg ρ a da)(hb:bg ρ b ck)(e:a5 bM a b H=J (v,bb)):
  aa Θ ah Z ρ (zB bM da ck) (dC m v bb) h:=by
 have aiy:∀ {i j:Int},a=.int i->b=.int j->aa Θ ah Z ρ (zB bM da ck) (dC m v bb) h:=λ{i j} aM a7=>by
  subst aM a7;refine cm ha λt aki=>?_;obtain rfl:=aki
  refine cm hb λu akj=>?_;obtain rfl:=akj
  exact(aoB (k:=λkb kB=>kb=v/\kB=bb) ok x e ⟨rfl,rfl⟩).mono λaJ bG dF bI eH=>Mm eH λaM kb a7 q3 iF=>⟨aM,iF,q3▸a7⟩
 induction a using Mine.Internal.L.casesOn with
 |int a=>induction b using Mine.Internal.L.casesOn with
  |int b=>exact aiy rfl rfl
  |_=>exact br e
 |bytes a=>induction b using Mine.Internal.L.casesOn with
  |bytes b=>induction bM using PySem.Operator.casesOn with
   |Add=>
    have e:(if bH (a.length+b.length) then J (L.bytes (a++b),H) else ac)=J (v,bb):=e
    refine dR e λaq e=>?_
    refine lX e λakk akl=>?_;obtain rfl:=akk;obtain rfl:=akl;exact agN ok x ha hb aq
   |_=>exact br e
  |_=>exact br e
 |new i=>induction b using Mine.Internal.L.casesOn with
  |new j=>induction bM using PySem.Operator.casesOn with
   |Add=>
    refine gb e λa hi e=>gb e λb cY e=>dR e λaq e=>?_
    refine lX e λakm akn=>?_;obtain rfl:=akm;obtain rfl:=akn;exact agO ok x ha hb (xi hi) (xi cY) aq
   |_=>exact br e
  |int n=>induction bM using PySem.Operator.casesOn with
   |Mult=>
    refine gb e λa hi e=>dR e λaq e=>?_
    rw [he] at aq;refine lX e λakp akq=>?_;obtain rfl:=akp;obtain rfl:=akq;exact agW ok x ha hb (xi hi) aq.1 aq.2
   |_=>exact br e
  |_=>exact br e
 |_=>exact br e
theorem Rp{bM:og}{a b:Int}(hop:zT bM=ae)(ok:bz Θ.fs (d+4) ah)(x:bD Θ Z ρ m H h)(ha:bg ρ (.int a) da)(hb:bg ρ (.int b) ck)(e:a5 bM (.int a) (.int b) H=J (v,bb)):
  aa Θ ah Z ρ (inplaceOp bM da ck) (dC m v bb) h:=by
 refine cm ha λt akr=>?_;obtain rfl:=akr
 refine cm hb λu aks=>?_;obtain rfl:=aks
 refine aa.any ok λA s a6 bA bU e1 e2 aP=>?_
 subst e1;rcases bM<;>first |(cases hop;done)|skip
 ·cases e;exact P.iadd_int ⟨.now x ⟨rfl,rfl,_,rfl⟩,e2,aP⟩
 ·cases e;exact P.isub_int ⟨.now x ⟨rfl,rfl,_,rfl⟩,e2,aP⟩
def rP:List Str:=[iY,mG,z "inodes",z "log",lA,jc,eO,z "indirect",z "log_start",BM,BL,v7,eB,bS,iZ,z "kind",z "major",z "minor",z "links",dH,eC,hl,fU,hO,z "table",gf,nc,dP,nY,sC,z "hits",z "reads",eX,z "kept",z "latest",pX,pW,z "last",yP,z "is_dead",q7,z "each",e5,t0,mH,sD]
noncomputable def uZ:List a1:=[539,658,754,865,192,281,441]
def z7(P:cB)(c:a1):Bool:=hasDictIn (dk P) c&&plainOver (dk P) c&&nr (dk P) (.ref c) "__getattribute__"==J (J (.builtin "object.__getattribute__"))&&nr (dk P) (.ref c) "__getattr__"==J ac&&
 nr (dk P) (.ref c) "__setattr__"==J (J (.builtin "object.__setattr__"))&&rP.all λn=>nr (dk P) (.ref c) n==J ac
theorem abR(P:cB):uZ.all (z7 P)=ae:=by kernel_rfl
theorem Qm{ρ:cq}{aN:List (Str×L)}{aH:List hT}(x:All2 (zS ρ) aN aH):match cy aN n with |J v=>∃aJ,getL n aH=J (J aJ)/\bg ρ v aJ|ac=>getL n aH=J ac:=by
 induction x with
 |nil=>rfl
 | @cons a e l aH h _ ih=>
  obtain⟨y,v⟩:=a;refine cz h λakt r=>?_;refine cm akt λt hk=>?_
  refine G (show cy ((y,v)::l) n=if y=n then J v else cy l n from rfl) ?_
  unfold getL at ih⊢;refine G List.find?_cons (G zl ?_);have c9:e.refKey=aA:=by simp [NF,hk]
  have hs:e.key.isStr n=(y==n):=G hk rfl;by_cases q:y=n
  ·have :(y==n)=ae:=by simpa using q
   refine G (aY q) (G hs (G this ?_));exact⟨e.val,rfl,r⟩
  ·have :(y==n)=aA:=by simpa using q
   refine G (a8 q) (G hs (G this (G c9 ?_)));exact ih
theorem HR{P:cB}{c:a1}(h:z8 c=ae):z7 P c=ae:=i3.mp (abR P) c (by unfold z8 at h;unfold uZ;simpa using h)
set_option tactic.hygienic true in
theorem Yh{H:an}(e:aV o n H=J v):∃i c aN,o=.new i/\H[i]? =J (.inst c aN)/\cy aN n=J v/\∀r,v≠.st r:=by
 rcases o<;>first |exact br e|skip
 rename_i i;delta aV at e
 dsimp only at e;generalize bX:H[i]? =q at e;rcases q with _|q
 ·exact br e
 ·rcases q<;>first |exact br e|skip
  rename_i c aN;refine⟨i,c,aN,rfl,bX,?_⟩;dsimp only at e;generalize cy aN n=r at e⊢;rcases r with _|r
  ·exact br e
  ·rcases r<;>first |exact br e|exact⟨e,λr z=>by rw [z] at e;exact L.noConfusion (ci e)⟩
set_option tactic.hygienic true in
theorem aod{H bb:an}(e:ft o n v H=J bb):∃i c aN,o=.new i/\H[i]? =J (.inst c aN)/\bH aN.length=ae/\i≠0/\bb=H.set i (.inst c (fA aN n v)):=by
 rcases o<;>first |exact br e|skip
 rename_i i;delta ft at e
 dsimp only at e;generalize bX:H[i]? =q at e;rcases q with _|q
 ·exact br e
 ·rcases q<;>first |exact br e|skip
  exact dR e λaq e=>xf e λh e=>⟨i,_,_,rfl,bX,aq,h,(ci e).symm⟩
theorem Rn(hn:rP.contains n=ae)(ok:bz Θ.fs (d+4) ah)(x:bD Θ Z ρ m H h)(aR:bg ρ o o')(e:aV o n H=J v):aa Θ ah Z ρ (getAttr o' n ae) (dC m v H) h:=by
 refine tZ (Yh e) λi c aN aku bX q c9=>?_;obtain rfl:=aku
 clear e;obtain⟨p,hp,rfl⟩:=aR;obtain⟨aD,gX,ai,aH,k,ak,aZ⟩:=x.rel.obj _ _ _ hp bX;have a9:=HR (P:=Θ.w.params) aD;unfold z7 at a9;simp only [he,beq_iff_eq] at a9;refine cz a9 λakv mq=>?_;refine cz akv λKo jF=>?_;obtain⟨⟨⟨ch,cd⟩,ee⟩,jE⟩:=Ko
 have tw:nr (dk Θ.w.params) (.ref c) n=J ac:=by
  have :=i3.mp mq n (by simpa using hn)
  simpa using this
 have aB:=Qm (n:=n) aZ;rw [q] at aB;refine bT aB λaJ d1 g2=>?_
 have a6:handedIn aJ=ae:=by
  rcases v<;>simp only [bg] at g2
  ·exact G g2 rfl
  ·exact G g2 rfl
  ·refine cm g2 λt akw=>?_;obtain rfl:=akw;rfl
  ·refine cm g2 λt akx=>?_;obtain rfl:=akx;rfl
  ·refine cm g2 λt aky=>?_;obtain rfl:=aky;rfl
  ·obtain⟨t,_,rfl⟩:=g2;rfl
  ·exact absurd rfl (c9 _)
 refine aa.any ok λA s xa bA bU e1 e2 aP=>?_
 subst e1;refine get_value (K:=dk Θ.w.params) (C:=c) (ox:=kj c p.2) (od:=J (qh aH k)) x.rel.base.k ⟨ai,rfl,rfl,ak⟩ ee (findObj_own ch tw rfl (G (lookIn_dict ..) d1)) a6 ⟨.now x ⟨rfl,rfl,g2⟩,e2,aP⟩
theorem ajk{ρ:cq}{hs:Int}{tk:Tok}(r:bg ρ v aJ){aN:List (Str×L)}{aH:List hT}(x:All2 (zS ρ) aN aH):All2 (zS ρ) (fA aN n v) (putL n hs (.str n tk) aJ aH):=by
 induction x with
 |nil=>exact .cons ⟨⟨tk,rfl⟩,r⟩ .nil
 | @cons a e l aH av h ih=>
  obtain⟨y,u⟩:=a;refine cz av λakA lu=>?_;clear av;refine cm akA λt hk=>?_
  have hj:e.key.isStr n=(y==n):=G hk rfl;refine G Kk ?_;unfold putL;by_cases q:y=n
  ·have :(y==n)=ae:=by simpa using q
   refine G (aY q) (G hj (G this ?_));exact .cons ⟨⟨t,cU q hk⟩,r⟩ h
  ·have :(y==n)=aA:=by simpa using q
   refine G (a8 q) (G hj (G this ?_));exact .cons ⟨⟨t,hk⟩,lu⟩ ih
theorem SO{bF:Type}(n:Str)(v:bF):∀l:List (Str×bF),(fA l n v).length<=l.length+1
 | []=>cW _
 |(y,u)::l=>by
  refine G Kk ?_;by_cases q:y=n
  ·exact G (aY q) (uB _)
  ·exact G (a8 q) (sU (SO n v l))
theorem aip{ρ:cq}{aN:List (Str×L)}{aH:List hT}(x:All2 (zS ρ) aN aH):aH.any (·.refKey)=aA:=by
 induction x with
 |nil=>rfl
 |cons h _ ih=>
  refine cz h λakB _=>?_;refine cm akB λt hk=>?_
  refine G zl (G ih ?_);simp [NF,hk]
theorem Rs(hn:rP.contains n=ae)(ok:bz Θ.fs (d+4) ah)(x:bD Θ Z ρ m H h)(aR:bg ρ o o')(hv:bg ρ v aJ)(e:ft o n v H=J bb):aa Θ ah Z ρ (setAttr o' n aJ) (lc m bb) h:=by
 refine ar7 (aod e) λi c aN akC bX aq hi akD=>?_;obtain rfl:=akC;obtain rfl:=akD
 clear e;obtain⟨p,hp,rfl⟩:=aR;obtain⟨aD,gX,ai,aH,k,ak,aZ⟩:=x.rel.obj _ _ _ hp bX;have a9:=HR (P:=Θ.w.params) aD;unfold z7 at a9;simp only [he,beq_iff_eq] at a9;refine cz a9 λakE mq=>?_;refine cz akE λKp jF=>?_;obtain⟨⟨⟨ch,cd⟩,ee⟩,jE⟩:=Kp
 have tw:nr (dk Θ.w.params) (.ref c) n=J ac:=by
  have :=i3.mp mq n (by simpa using hn)
  simpa using this
 have ce:takerIn (dk Θ.w.params) c n=J ac:=by unfold takerIn;exact G tw rfl
 refine bT (any_some ch) λi5 Az pA=>aa.any ok λA s xa bA bU e1 e2 aP=>?_
 subst e1;refine set_plain (K:=dk Θ.w.params) (C:=c) (ox:=kj c p.2) (od:=J (qh aH k)) x.rel.base.k ⟨ai,rfl,rfl,ak⟩ jF (osa_open (s:= {s with toks:=s.toks+1}) (K:=dk Θ.w.params) (ox:=kj c p.2) (od:=J (qh aH k)) x.rel.base.k ⟨ai,rfl,rfl,ak⟩ cd ce λb=>bN (λ_=>cK) (b4 (b4 (NX ai (b4 (Looks.here (s:= {s with toks:=s.toks+1}) (looks_clsIn x.rel.base.k Az) ?_))))))
 refine G pA (cK (a:=J p.2) (bN (λ_=>cK) (b4 ?_)))
 refine b4 (b4 (wpAny_askSetting (cK (b4 (wpAny_mkText (b4 (NX ak ?_)))))));have ais:(!aH.toArray.any (·.key.isStr n)&&aH.toArray.any (·.refKey))=aA:=by
  have :=aip aZ;simp [this]
 dsimp only;refine G (aRefKeyMayBeTheName_at ..) (G (ais ..) ?_);refine wpAny_updatePart ak ?_;have QP:=ajk (n:=n) (hs:=wA Θ.w.params n) (tk:=s.toks+1) hv aZ;have g2:(s.heap.update p.2 (zA n (wA Θ.w.params n) (.str n (s.toks+1)) aJ)).get? p.2=J (qh (putL n (wA Θ.w.params n) (.str n (s.toks+1)) aJ aH) (putN n aH k)):=by
  exact cU (putName_dict ..) (sZ _ ak (by refine G (putName_dict ..) ?_;rfl))
 have qQ:∀b,b≠p.2->(s.heap.update p.2 (zA n (wA Θ.w.params n) (.str n (s.toks+1)) aJ)).get? b=s.heap.get? b:=λb hb=>uE _ _ (λz=>hb z.symm)
 refine b4 (NY g2 (pastItsLine_dict ?_) ?_)
 ·refine G iA (cU QP.length (G k9 ?_));have :=SO n v aN;have :aN.length<=65536:=by simpa [bH] using aq
  lia
 ·refine cK ⟨?_,e2,aP⟩;refine d4.turned x hp hi (λb o ai ak e=>(qQ b ak).trans e) (G (qf ..) (cW _)) (o:=.inst c (fA aN n v)) ⟨aD,gX,(qQ _ gX).trans ai,_,_,g2,QP⟩ ⟨rfl,rfl⟩
theorem Qn:jp (.type "list") "__getitem__"=bK (J (.builtin "list.__getitem__")):=by refine G (iM ..) (G (iL ..) ?_);kernel_rfl
theorem aej:jp (.type "tuple") "__getitem__"=bK (J (.builtin "tuple.__getitem__")):=by refine G (iM ..) (G (iL ..) ?_);kernel_rfl
theorem aei:jp (.type "dict") "__getitem__"=bK (J (.builtin "dict.__getitem__")):=by refine G (iM ..) (G (iL ..) ?_);kernel_rfl
theorem aeg:jp (.type "bytearray") "__getitem__"=bK (J (.builtin "bytearray.__getitem__")):=by refine G (iM ..) (G (iL ..) ?_);kernel_rfl
theorem aeh:jp (.type "bytes") "__getitem__"=bK (J (.builtin "bytes.__getitem__")):=by refine G (iM ..) (G (iL ..) ?_);kernel_rfl
noncomputable def Kd(q:Option bt):Bool:=match q with
 |ac=>aA
 |J a=>match a with
  | .inst _ _=>aA
  | .set _=>aA
  | .list _=>ae
  | .tup _=>ae
  | .dict _=>ae
  | .ba _=>ae
  | .scr _=>ae
theorem af0{ix:nl}{H bb:an}(e:cj o ix H=J (v,bb)):∀i,o=.new i->Kd H[i]? =ae:=by
 refine Q2 (P:=λo ix v bb=>∀i,o=.new i->Kd H[i]? =ae) ?_ ?_ ?_ ?_ ?_ ?_ ?_ e
 ·exact λbX _ _ i q=>by obtain rfl:=L.new.inj q;exact G bX rfl
 ·exact λbX _ _ i q=>by obtain rfl:=L.new.inj q;exact G bX rfl
 ·exact λbX _ _ i q=>by obtain rfl:=L.new.inj q;exact G bX rfl
 ·exact λbX _ _ i q=>by obtain rfl:=L.new.inj q;exact G bX rfl
 ·exact λbX _ _ i q=>by obtain rfl:=L.new.inj q;rcases bX with bX|bX<;>(refine G bX ?_)<;>rfl
 ·exact λbX _ i q=>by obtain rfl:=L.new.inj q;exact G bX rfl
 ·exact λ_ _ i q=>L.noConfusion q
theorem agT(ok:bz Θ.fs (d+4) ah)(x:bD Θ Z ρ m H h)(aR:bg ρ o o'){ix:nl}(e:(cj o ix H).isSome=ae):aa Θ ah Z ρ (getitemInPython o') (Mu m aA H) h:=by
 have go:∀ {T id:String},(∀s:cs,s.heap=h->s.TypeIs o' T)->jp (.type T) "__getitem__"=bK (J (.builtin id))->aa Θ ah Z ρ (getitemInPython o') (Mu m aA H) h:=λ{T id} ce aQ=>by
  refine aa.any ok λA s a6 bA bU e1 e2 aP=>?_
  have gm:=ce s e1;subst e1;exact G (getitemInPython_of_ne gm.not_modules) (bN (λ_=>ie gm aQ) (cK ⟨.now x ⟨rfl,rfl,rfl⟩,e2,aP⟩))
 induction o using Mine.Internal.L.casesOn with
 |bytes l=>refine cm aR λt akF=>?_;obtain rfl:=akF;exact go (λs _=>rfl) aeh
 |new i=>
  obtain⟨p,hp,rfl⟩:=aR;have K:Kd H[i]? =ae:=by refine cm (sV.mp e) λakG e=>?_;obtain⟨v,bb⟩:=akG;exact af0 e i rfl
  cases q:H[i]?with
  |none=>rw [q] at K;exact b8 K
  |some Ya=>
   refine bT (x.rel.get q) λgZ iR r=>?_
   rw [hp] at iR;obtain rfl:=ci iR;induction Ya using Mine.Internal.bt.casesOn with
   |inst c aN=>rw [q] at K;exact b8 K
   |set l=>rw [q] at K;exact b8 K
   |list l=>obtain⟨-,vs,k,bj,-⟩:=r;exact go (λs hs=>⟨_,hs▸bj,rfl⟩) Qn
   |scr l=>obtain⟨-,vs,⟨m6,bj,aD,-⟩,-⟩:=r;exact go (λs hs=>⟨_,hs▸bj,aD⟩) Qn
   |tup l=>obtain⟨-,vs,⟨m6,bj,aD,-⟩,-⟩:=r;exact go (λs hs=>⟨_,hs▸bj,aD⟩) aej
   |dict l=>obtain⟨-,aH,k,bj,-⟩:=r;exact go (λs hs=>⟨_,hs▸bj,rfl⟩) aei
   |ba l=>obtain⟨-,k,bj⟩:=r;exact go (λs hs=>⟨_,hs▸bj,rfl⟩) aeg
 |none=>exact b8 e
 |bool b=>exact b8 e
 |int b=>exact b8 e
 |str b=>exact b8 e
 |st b=>exact b8 e
theorem Rq(ok:bz Θ.fs (d+4) ah)(x:bD Θ Z ρ m H h):aa Θ ah Z ρ (runValue (.builtin "proto.let_go" {})) (lc m H) h:=by
 exact af.runValue λp=>DL rfl entry_let_go (af.ret ⟨.none,rfl,.now x ⟨rfl,rfl⟩⟩)
noncomputable def rT(P:cB)(ρ:cq):l8->aG×List aG->Prop
 | .fn f self,c=>c.1=.ref f/\All2 (bg ρ) self c.2/\wC (dk P) (.ref f)=ae
 | .cls a i,c=>c=(.ref a,[])/\wC (dk P) (.ref a)=ae/\makesIn (dk P) a=ae/\nr (dk P) (.ref a) "__init__"=J (J (.ref i))/\typeIn (dk P) (.ref i)=J (.type "function")/\z8 a=ae
 | .bi aB,c=>c=(aB,[])/\∀a,aB≠.ref a
 | .me o n,c=>∃o' id,bg ρ o o'/\c=(.builtin id,[o'])/\id=(if n=("append":Str) then "list.append" else if n=("remove":Str) then "list.remove" else if n=("get":Str) then "dict.get" else "bytearray.extend")/\(n=("append":Str)\/n=("remove":Str)\/n=("get":Str)\/n=("extend":Str))
theorem ajd:PlainAttrs "bytearray":=
 ⟨⟨"bytearray.__getattribute__",by refine G (iM ..) (G (iL ..) ?_);kernel_rfl,by decide+kernel⟩,by refine G (iM ..) (G (iL ..) ?_);kernel_rfl⟩
theorem apm:typeOf (.builtin "bytearray.extend")=bK (.type "method_descriptor"):=by show builtinType _=_;refine G builtinType_eq_fast ?_;kernel_rfl
def ahL(P:cB)(c:a1):Bool:=(qu c).all λp=>nr (dk P) (.ref c) p.1==J (J (.ref p.2))&&typeIn (dk P) (.ref p.2)==J (.type "function")&&wC (dk P) (.ref p.2)
theorem ahM(P:cB):uZ.all (ahL P)=ae:=by kernel_rfl
set_option tactic.hygienic true in
theorem abH{H:an}(e:bx o n H=J c):∃i,o=.new i/\((∃cl aN f,H[i]? =J (.inst cl aN)/\cy aN n=ac/\cy (qu cl) n=J f/\c=.fn f [.new i])\/
  (∃l,H[i]? =J (.list l)/\(n="append"\/n="remove")/\c=.me (.new i) n)\/(∃l,H[i]? =J (.dict l)/\n="get"/\c=.me (.new i) n)\/ ∃l,H[i]? =J (.ba l)/\n="extend"/\c=.me (.new i) n):=by
 rcases o<;>first |exact br e|skip
 rename_i i;refine⟨i,rfl,?_⟩;delta bx at e
 dsimp only at e;generalize bX:H[i]? =q at e;rcases q with _|q
 ·exact br e
 ·rcases q<;>first |exact br e|skip
  ·rename_i cl aN;dsimp only at e;generalize ei:cy aN n=r at e;rcases r with _|r
   ·exact bT (ry.mp e) λf lk ig=>.inl ⟨cl,aN,f,rfl,ei,lk,ig.symm⟩
   ·exact br e
  ·exact dR e λhn e=>.inr (.inl ⟨_,rfl,hn,(ci e).symm⟩)
  ·exact dR e λhn e=>.inr (.inr (.inl ⟨_,rfl,hn,(ci e).symm⟩))
  ·exact dR e λhn e=>.inr (.inr (.inr ⟨_,rfl,hn,(ci e).symm⟩))
theorem Ro{pl:Sem Bool}(ok:bz Θ.fs (d+4) ah)(x:bD Θ Z ρ m H h)(aR:bg ρ o o')(e:bx o n H=J c):aa Θ ah Z ρ (getMethod o' n pl) (λc' cb bV bb=>bV=m/\bb=H/\rT Θ.w.params cb c c') h:=by
 refine bT (abH e) λi akH w=>?_;obtain rfl:=akH
 clear e;obtain⟨p,hp,rfl⟩:=aR;rcases w with⟨cl,aN,f,bX,aQ,lk,rfl⟩|⟨l,bX,hn,rfl⟩|⟨l,bX,hn,rfl⟩|⟨l,bX,hn,rfl⟩
 ·obtain⟨aD,gX,ai,aH,k,ak,aZ⟩:=x.rel.obj _ _ _ hp bX;have a9:=HR (P:=Θ.w.params) aD;unfold z7 at a9;simp only [he,beq_iff_eq] at a9;refine cz a9 λakI mq=>?_;refine cz akI λKq jF=>?_;obtain⟨⟨⟨ch,cd⟩,ee⟩,jE⟩:=Kq
  have M:=i3.mp (ahM Θ.w.params) cl (by unfold z8 at aD;unfold uZ;simpa using aD)
  have M:=i3.mp M _ (RA lk);simp only [he,beq_iff_eq] at M;have aB:=Qm (n:=n) aZ;rw [aQ] at aB;refine aa.any ok λA s xa bA bU e1 e2 aP=>?_
  subst e1;exact method_fn (K:=dk Θ.w.params) (C:=cl) (ox:=kj cl p.2) (od:=J (qh aH k)) x.rel.base.k ⟨ai,rfl,rfl,ak⟩ ee jE M.1.1 M.1.2 (by show(lookIn n (qh aH k)).map _=_;exact G (lookIn_dict ..) (G (aB ..) rfl))
   ⟨.now x ⟨rfl,rfl,rfl,.cons ⟨p,hp,rfl⟩ .nil,M.2⟩,e2,aP⟩
 ·obtain⟨-,vs,k,bj,-⟩:=x.rel.obj _ _ _ hp bX;refine aa.any ok λA s xa bA bU e1 e2 aP=>?_
  subst e1;rcases hn with rfl|rfl
  ·exact Gu (T:="list") ⟨_,bj,rfl⟩ PySem.F.plainAttrs_list PySem.F.slot_list_append PySem.F.type_list_append (λa q=>by obtain rfl:=PySem.Value.ref.inj q;exact⟨_,bj,rfl⟩) ⟨.now x ⟨rfl,rfl,_,_,⟨p,hp,rfl⟩,rfl,by(exact G (aY rfl) rfl),.inl rfl⟩,e2,aP⟩
  ·exact Gu (T:="list") ⟨_,bj,rfl⟩ PySem.F.plainAttrs_list PySem.F.slot_list_remove PySem.F.type_list_remove (λa q=>by obtain rfl:=PySem.Value.ref.inj q;exact⟨_,bj,rfl⟩) ⟨.now x ⟨rfl,rfl,_,_,⟨p,hp,rfl⟩,rfl,by(exact G (a8 (by decide)) (G (aY rfl) rfl)),.inr (.inl rfl)⟩,e2,aP⟩
 ·obtain⟨-,aH,k,bj,-⟩:=x.rel.obj _ _ _ hp bX;refine aa.any ok λA s xa bA bU e1 e2 aP=>?_
  subst e1;subst hn;exact Gu (T:="dict") ⟨_,bj,rfl⟩ PySem.F.plainAttrs_dict PySem.F.slot_dict_get PySem.F.type_dict_get (λa q=>by obtain rfl:=PySem.Value.ref.inj q;exact⟨_,bj,rfl⟩) ⟨.now x ⟨rfl,rfl,_,_,⟨p,hp,rfl⟩,rfl,by(exact G (a8 (by decide)) (G (a8 (by decide)) (G (aY rfl) rfl))),.inr (.inr (.inl rfl))⟩,e2,aP⟩
 ·obtain⟨-,k,bj⟩:=x.rel.obj _ _ _ hp bX;refine aa.any ok λA s xa bA bU e1 e2 aP=>?_
  subst e1;subst hn;exact Gu (T:="bytearray") ⟨_,bj,rfl⟩ ajd Tg apm (λa q=>by obtain rfl:=PySem.Value.ref.inj q;exact⟨_,bj,rfl⟩) ⟨.now x ⟨rfl,rfl,_,_,⟨p,hp,rfl⟩,rfl,by(exact G (a8 (by decide)) (G (a8 (by decide)) (G (a8 (by decide)) rfl))),.inr (.inr (.inr rfl))⟩,e2,aP⟩
noncomputable def PB(P:cB)(c:a1):Bool:=wC (dk P) (.ref c)&&makesIn (dk P) c&&match cy (qu c) "__init__" with
 |J i=>nr (dk P) (.ref c) "__init__"==J (J (.ref i))&&typeIn (dk P) (.ref i)==J (.type "function")
 |ac=>aA
theorem abQ(P:cB):uZ.all (PB P)=ae:=by kernel_rfl
noncomputable def Ih:List a1:=[36,104,111,118,125,132,147,154,161,168,175,182,189,210,222,229,250,257,264,271,299,306,320,335,363,370,377,384,398,419,426,433,459,466,473,501,508,557,564,571,578,585,592,599,606,613,620,627,634,676,683,690,697,704,718,763,778,785,792,799,806,813,820,827,834,841,848,874,881,886,891,898,903,910,917,922,927]
theorem Qf(P:cB):Ih.all (λf=>wC (dk P) (.ref f))=ae:=by kernel_rfl
theorem As{bF:Type}{x:bF}:∀ {l:List (a1×bF)},l.lookup f=J x->(f,x)∈l:=by
 intro l;induction l with
 |nil=>exact λe=>br e
 |cons p l ih=>
  intro e;obtain⟨aB,y⟩:=p;rw [sO] at e;cases h:f==aB
  ·rw [h] at e;exact f8 _ (ih e)
  ·rw [h] at e;obtain rfl:=ci e;exact G (beq_iff_eq.mp h) fK
theorem adX:Ar.all (λp=>Ih.contains p.1)=ae:=by kernel_rfl
theorem adY{x}(e:r1 f=J x):Ih.contains f=ae:=i3.mp adX _ (As e)
theorem ab5:HV.all (λp=>uZ.contains p.1)=ae:=by kernel_rfl
theorem ab6{c:a1}(e:cy (qu c) n=J f):uZ.contains c=ae:=by
 unfold qu at e;rcases aB:HV.lookup c with _|x
 ·rw [aB] at e;exact br e
 ·exact i3.mp ab5 _ (As aB)
theorem aoK{f:L}{v:aG}(e:Tv f=J v):f=.st v:=by
 rcases f<;>first |exact br e|exact congrArg L.st (ci e)
theorem anN{v:aG}{a:a1}(e:refOf v=J a):v=.ref a:=by
 rcases v<;>first |exact br e|exact congrArg lK (ci e)
theorem abF{P:cB}{f:L}{f':aG}(aq:bg ρ f f')(e:HH f=J c):rT P ρ c (f',[]):=by
 refine gb e λv e1 e2=>?_
 have e1:=aoK e1;subst e1;have aq:f'=v:=aq;subst aq;rcases ao:refOf f' with _|a
 ·rw [ao] at e2;obtain rfl:=ci e2;exact⟨rfl,λa z=>br (ao.symm.trans (congrArg refOf z))⟩
 ·rw [ao] at e2;have ao:=anN ao;subst ao;have e2:(n9 (motive:=λ_=>Option l8) (cy (qu a) "__init__") (if a=917 then J (.fn a []) else(r1 a).bind λ_=>J (.fn a [])) λi=>J (.cls a i))=J c:=e2
  rcases dw:cy (qu a) "__init__" with _|i
  ·have e:(if a=917 then J (l8.fn a []) else(r1 a).bind λ_=>J (.fn a []))=J c:=by
    rw [dw] at e2;exact e2
   by_cases q:a=917
   ·rw [aY q] at e;obtain rfl:=ci e;subst q;exact⟨rfl,.nil,i3.mp (Qf P) 917 (by decide)⟩
   ·rw [a8 q] at e;refine gb e λx ex e=>?_
    obtain rfl:=ci e;have bc:=adY ex;have a9:=i3.mp (Qf P) a (by simpa using bc)
    exact⟨rfl,.nil,a9⟩
  ·have e:J (l8.cls a i)=J c:=by
    rw [dw] at e2;exact e2
   obtain rfl:=ci e;have bc:=ab6 dw;have a9:=i3.mp (abQ P) a (by simpa using bc)
   unfold PB at a9;rw [dw] at a9;simp only [he,beq_iff_eq] at a9;exact⟨rfl,a9.1.1,a9.1.2,a9.2.1,a9.2.2,bc⟩
theorem arF{H bb:an}{o:bt}(e:wr H i o=J bb):i≠0/\H.set i o=bb:=xf e λh e=>⟨h,ci e⟩
set_option tactic.hygienic true in
theorem ahN{H:an}{P:L->Str->List L->L->an->Prop}
  (k1:∀ {i l v},H[i]? =J (.list l)->i≠0->bH l.length=ae->P (.new i) "append" [v] .none (H.set i (.list (l++[v]))))
  (k2:∀ {i l j k},H[i]? =J (.list l)->i≠0->bH l.length=ae->l.all (oD H)=ae->ty (.new j) l=J k->P (.new i) "remove" [.new j] .none (H.set i (.list (l.eraseIdx k))))
  (k3:∀ {i l k},H[i]? =J (.dict l)->fX k=ae->P (.new i) "get" [k] ((dV l k).getD .none) H)
  (oH:∀ {i l k d},H[i]? =J (.dict l)->fX k=ae->P (.new i) "get" [k,d] ((dV l k).getD d) H)
  (k5:∀ {i l x},H[i]? =J (.ba l)->i≠0->bH (l.length+x.length)=ae->P (.new i) "extend" [.bytes x] .none (H.set i (.ba (l++x)))):
  ∀ {o n vs v bb},lT o n vs H=J (v,bb)->P o n vs v bb:=λ{o n vs v bb} e=>by
 have ku:∀ {i:Nat} {x:bt} {Q:L->an->Prop},(wr H i x).map (L.none,·)=J (v,bb)->(i≠0->Q .none (H.set i x))->Q v bb:=λ{i x Q} e k=>by
  refine bT (ry.mp e) λw e1 e2=>?_
  refine oM e2 λakJ akL=>?_;obtain rfl:=akJ;obtain rfl:=akL
  refine cz (arF e1) λh akM=>?_;obtain rfl:=akM
  exact k h
 have RJ:∀ {x:L} {Q:L->an->Prop},J (x,H)=J (v,bb)->Q x H->Q v bb:=λ{x Q} e k=>by
  refine lX e λakN akO=>?_;obtain rfl:=akN;obtain rfl:=akO
  exact k
 rcases o<;>first |exact br e|skip
 rename_i i;delta lT at e
 dsimp only at e;generalize bX:H[i]? =q at e;rcases q with _|q
 ·exact br e
 ·rcases q<;>first |exact br e|skip
  ·dsimp only at e;rcases Decidable.em (n="append") with rfl|hn
   ·rw [aY rfl] at e;rcases vs with _|⟨v,_|⟨u,r⟩⟩
    ·exact br e
    ·exact dR e λaq e=>ku (Q:=P _ _ _) e λh=>k1 bX h aq
    ·exact br e
   ·rw [a8 hn] at e;refine dR e λhn cT=>?_
    clear e;subst hn;rcases vs with _|⟨v,_|⟨u,r⟩⟩
    ·exact br cT
    ·rcases v<;>first |exact br cT|skip
     exact dR cT λaq e=>by
      exact gb e λk rW e=>ku (Q:=P _ _ _) e λh=>k2 bX h (eZ aq) (eJ aq) rW
    ·rcases v<;>exact br cT
  ·refine dR e λhn cT=>?_
   clear e;subst hn;rcases vs with _|⟨v,_|⟨u,_|⟨w,r⟩⟩⟩
   ·exact br cT
   ·exact dR cT λaq e=>RJ (Q:=P _ _ _) e (k3 bX aq)
   ·exact dR cT λaq e=>RJ (Q:=P _ _ _) e (oH bX aq)
   ·exact br cT
  ·refine dR e λhn cT=>?_
   clear e;subst hn;rcases vs with _|⟨v,_|⟨u,r⟩⟩
   ·exact br cT
   ·rcases v<;>first |exact br cT|skip
    exact dR cT λaq e=>ku (Q:=P _ _ _) e λh=>k5 bX h aq
   ·rcases v<;>exact br cT
theorem agV{vs:List L}{vs':List aG}{c:aG×List aG}(ok:bz Θ.fs (d+4) ah)(x:bD Θ Z ρ m H h)(hv:All2 (bg ρ) vs vs')(aD:rT Θ.w.params ρ (.me o n) c)
  (e:lT o n vs H=J (v,bb)):aa Θ ah Z ρ (PySem.call c.1 (c.2++vs')) (dC m v bb) h:=by
 refine tY aD λo' id aR akP lO hn=>?_;obtain rfl:=akP
 show aa Θ ah Z ρ (PySem.call (.builtin id) (o'::vs')) (dC m v bb) h
 clear hn;refine ahN (P:=λo n vs v bb=>∀o' vs',id=(if n=("append":Str) then "list.append" else if n=("remove":Str) then "list.remove" else if n=("get":Str) then "dict.get" else "bytearray.extend")->bg ρ o o'->All2 (bg ρ) vs vs'->aa Θ ah Z ρ (PySem.call (.builtin id) (o'::vs')) (dC m v bb) h) ?_ ?_ ?_ ?_ ?_ e o' vs' lO aR hv
 ·intro i l v bX bu aq o' vs' lO aR hv;rw [aY rfl] at lO;subst lO;cases hv with |cons ra q=>cases q with |nil=>exact list_append ok x aR ra bX bu aq
 ·intro i l j k bX bu aq hb rW o' vs' lO aR hv;rw [a8 (by decide),aY rfl] at lO
  subst lO;cases hv with |cons ra q=>cases q with |nil=>exact ahf ok x aR ra bX bu aq hb rW
 ·intro i l k bX hk o' vs' lO aR hv;rw [a8 (by decide),a8 (by decide),aY rfl] at lO
  subst lO;cases hv with |cons ra q=>cases q with |nil=>exact acp ok x aR bX hk ra
 ·intro i l k d bX hk o' vs' lO aR hv;rw [a8 (by decide),a8 (by decide),aY rfl] at lO
  subst lO;cases hv with |cons ra q=>cases q with |cons rb q=>cases q with |nil=>exact acq ok x aR bX hk ra rb
 ·intro i l EZ bX bu aq o' vs' lO aR hv;rw [a8 (by decide),a8 (by decide),a8 (by decide)] at lO
  subst lO;cases hv with |cons ra q=>cases q with |nil=>exact Zh ok x aR ra bX bu aq
theorem Jy{j:Nat}{l:List L}(ok:bz Θ.fs (d+4) ah)(x:bD Θ Z ρ m H h)(hv:bg ρ (.new j) aJ)(e:H[j]? =J (.tup l)):aa Θ ah Z ρ (CF aJ l.length ac) (λitems cb bV bb=>bV=m/\bb=H/\All2 (bg cb) l items) h:=by
 obtain⟨p,hp,rfl⟩:=hv;obtain⟨-,vs,ce,r⟩:=x.rel.obj _ _ _ hp e;have ei:l.length=vs.toArray.size:=by refine G r.length ?_;simp
 refine G ei (aa.any ok λA s a6 bA bU e1 e2 aP=>?_)
 subst e1;exact unpack_tuple a6 ce λav k hs=>⟨d4.grown x ⟨k,hs⟩ ⟨rfl,rfl,r⟩,e2,aP⟩
theorem ag1{a:a1}{u v:aG}(ok:bz Θ.fs (d+4) ah)(x:h.IsTuple a #[u,v]):af Θ.w Θ.O ah (CF (.ref a) 2 ac) (λitems av=>items=[u,v]/\gM h av) h:=by
 obtain⟨A,cS,a6,-,-⟩:=ok.room;refine af.any cS λs e1 e2 aP=>?_
 subst e1;exact unpack_tuple (items:= #[u,v]) a6 x λav k hs=>⟨⟨rfl,k,hs⟩,e2,aP⟩
end
variable {c:l8}
section
variable {a b:aG}{o:aU}
noncomputable def ET:L->aG->Bool
 | .int i,.int j _=>i==j
 | .st c,v=>c==v
 |_,_=>aA
theorem TV{ρ:cq}{aJ:aG}(h:ET v aJ=ae):bg ρ v aJ:=by
 induction v using Mine.Internal.L.casesOn with
 |int i=>induction aJ using PySem.Value.casesOn with
  |int j t=>
   have h:(i==j)=ae:=h;rw [beq_iff_eq] at h;exact⟨t,by(exact G h rfl)⟩
  |_=>exact b8 h
 |st c=>
  have h:(c==aJ)=ae:=h;rw [beq_iff_eq] at h;exact h.symm
 |_=>exact b8 h
noncomputable def Ir(P:cB)(p:Str×L):Bool:=match nsIn (dk P) k8 p.1 with
 |J (J aJ)=>ET p.2 aJ
 |J ac=>p.1 !=("__name__":Str)&&(zC p.1).any (ET p.2)
 |ac=>aA
theorem aek(P:cB):Iu.all (Ir P)=ae:=by kernel_rfl
theorem ael{P:cB}{x:Str}(e:cy Iu x=J v):Ir P (x,v)=ae:=i3.mp (aek P) _ (RA e)
def BS(Θ:fa)(d:Nat)(f:a1)(vs:List L)(H:an)(k:L->an->Prop):Prop:=∀ah ρ h vs',bz Θ.fs d ah->fW Θ ρ H h->All2 (bg ρ) vs vs'->
 af Θ.w Θ.O ah (PySem.call (.ref f) vs') (λaJ av=>∃cb bb v,fW Θ cb bb av/\d3 [] ρ h cb av/\bg cb v aJ/\k v bb) h
abbrev mL:=a1->List L->an->(L->an->Prop)->Prop
def nZ(Θ:fa)(d:Nat)(C:mL):Prop:=∀f vs H k,C f vs H k->BS Θ d f vs H k
section
variable {C:mL}
def cE(Θ:fa)(C:mL)(d:Nat)(e:aU):Prop:=∀ {ah Z ρ m H h} {k:L->an->Prop},bz Θ.fs (d+4) ah->bD Θ Z ρ m H h->bO False C e Z.scope.names m H k->aa Θ ah Z ρ (eval e Z) (mT m k) h
def kl(Θ:fa)(C:mL)(d:Nat)(aH:List aU):Prop:=∀ {ah Z ρ m H h} {k:List L->an->Prop} {pos:Pos},bz Θ.fs (d+4) ah->bD Θ Z ρ m H h->ju False C aH Z.scope.names m H k->
 aa Θ ah Z ρ (spliced (jB pos (ic aH Z))) (λvs' cb bV bb=>bV=m/\∃vs,All2 (bg cb) vs vs'/\k vs bb) h
def ST(Θ:fa)(C:mL)(d:Nat)(e:aU):Prop:=∀ {ah Z ρ m H h} {k:Bool->an->Prop},bz Θ.fs (d+4) ah->bD Θ Z ρ m H h->ge False C e (λH k=>bO False C e Z.scope.names m H k) Z.scope.names m H k->
 aa Θ ah Z ρ (isTrue e Z (eval e Z)) (λb _ bV bb=>bV=m/\k b bb) h
set_option tactic.hygienic true in
theorem Bm{x:Str}(ok:bz Θ.fs d ah)(a:bD Θ Z ρ m H h)(e:oJ Z.scope.names m x=J v):aa Θ ah Z ρ (loadName Z x) (dC m v H) h:=by
 have hk:=a.fr.kind;have j5:Z.kindOf x=cy Z.scope.names x:=(pF x _).symm;unfold oJ at e;refine aa.any ok λA s a6 bA bU e1 e2 aP=>?_
 subst e1;cases q:cy Z.scope.names x with
 |none=>rw [q] at e;exact br e
 |some r6=>
  rw [q] at e j5;induction r6 using PySem.NameKind.casesOn with
  |«local»=>
   exact bT a.fr.ns λnm hn r=>bT (r x v j5 e) λaJ p1 p2=>wpAny_loadName_local hk j5 hn p1 ⟨.now a ⟨rfl,rfl,p2⟩,e2,aP⟩
  |cell=>
   refine cm (sV.mp (a.fr.has x (.inl j5))) λc aD=>bT (a.fr.cell x c aD) λkb Dy r=>?_
   refine bT (r v (by refine G j5 ?_;simp) e) λaJ p1 p2=>?_
   subst p1;exact wpAny_loadName_cell hk j5 aD Dy ⟨.now a ⟨rfl,rfl,p2⟩,e2,aP⟩
  |free=>exact br e
  |globalExplicit=>exact br e
  |globalImplicit=>
   have aB:=ael (P:=Θ.w.params) e;have B:=a.rel.base;unfold Ir at aB;unfold loadName;simp only [Gm,hk,j5,NJ,E5,ng,if_false];unfold loadGlobal;refine G a.fr.glob ?_;split at aB
   ·rename_i aJ iE;refine b4 ((Go B.k iE).here (cK ?_));exact⟨.now a ⟨rfl,rfl,TV aB⟩,e2,aP⟩
   ·rename_i iE;rw [he] at aB;obtain⟨aJ,d1,g2⟩:∃aJ,zC x=J aJ/\ET v aJ=ae:=by
     cases z:zC x with
     |none=>rw [z] at aB;exact absurd aB.2 (by simp)
     |some aJ=>rw [z] at aB;exact⟨aJ,rfl,by simpa using aB.2⟩
    refine b4 ((Go B.k iE).here ?_);refine bT B.b λxj hb bc=>G a.fr.blt (bN (λ_=>wpAny_nsGet hb) (G (bc x (by simpa using aB.1)) (G d1 ?_)))
    exact cK ⟨.now a ⟨rfl,rfl,TV g2⟩,e2,aP⟩
   ·exact b8 aB
theorem To{c:Const}(a:bD Θ Z ρ m H h)(e:HS c=J v):aa Θ ah Z ρ (constValue Z c) (dC m v H) h:=by
 rcases c<;>cases e<;>unfold constValue
 ·exact .pure a ⟨rfl,rfl,rfl⟩
 ·exact .pure a ⟨rfl,rfl,rfl⟩
 ·exact af.mkInt λt=>.now a ⟨rfl,rfl,t,rfl⟩
 ·exact af.mkText λt=>.now a ⟨rfl,rfl,t,rfl⟩
 ·exact af.mkTextBytes λt=>.now a ⟨rfl,rfl,t,rfl⟩
theorem cE.const{c k pos}:cE Θ C d (.Constant c k pos):=λok a w=>by
 rw [aq5] at w;set_option smartUnfolding false in refine jM w λv e w=>?_
 exact(To a e).toV w
theorem cE.name{x pos}(aO:(x==("__debug__":Str))=aA):cE Θ C d (.Name x pos):=λok a w=>by
 rw [aq8] at w;refine G (eval_Name _ _ _ aO) ?_;set_option smartUnfolding false in refine jM w λv e w=>?_
 exact .stand ((Bm ok a e).toV w)
theorem cE.bin{l bM r pos}(aQ:cE Θ C d l)(c9:cE Θ C d r):cE Θ C d (.BinOp l bM r pos):=λok a w=>by
 rw [aq2] at w;refine G (eval_BinOp ..) (.bindV (aQ ok a w) λda gK bG bI ai bL cP b9 bE=>.bindV (.holding (c9 ok bL bE)) λck oV du cM ak cX d6 dG ea=>.stand (.operate ?_))
 try dsimp only at ea
 set_option smartUnfolding false in refine Ke ea λv cg e ea=>?_
 exact(agP ok cX (b9.sub d6) dG e).toV ea
noncomputable def TI:aU:=.Tuple [] 0 jQ
theorem ao5:uJ o a b=bK ()\/uJ o a b=uJ TI a b:=by
 rcases o<;>first |exact .inl (rfl:_=bK ())|exact .inr (by kernel_rfl)
theorem ao6:uJ o a b=bK ()\/uJ o a b=(do let _ <-gO [b] (runValue (.builtin "proto.let_go" {}))):=by
 rcases ao5 (o:=o) (a:=a) (b:=b) with e|e
 ·exact .inl e
 ·refine G e ?_;rcases a<;>first |exact .inl (rfl:_=bK ())|exact .inr rfl
theorem Tr(ok:bz Θ.fs (d+4) ah)(aN:bD Θ Z ρ m H h):aa Θ ah Z ρ (uJ o a b) (lc m H) h:=by
 rcases ao6 (o:=o) (a:=a) (b:=b) with e|e<;>(refine G e ?_)
 ·exact .pure aN ⟨rfl,rfl⟩
 ·exact .bind (.holding (Rq ok aN)) λ_ kf A2 cg aZ fx hN q=>.pure fx q
theorem cE.attr{o n pos}(aR:cE Θ C d o)(hn:rP.contains n=ae)(hb:∀Z g0,Cw o n Z g0=g0):cE Θ C d (.Attribute o n pos):=λok a w=>by
 rw [aq1] at w;have dg:∀Z,eval (.Attribute o n pos) Z=(do
  let o' <-Cw o n Z (eval o Z)
  gw pos.atName
  let r <-gO [o'] (getAttr o' n ae)
  uJ o o' r
  bK r):=λ_=>rfl
 (refine G (dg ..) ?_;rw [hb])
 refine .bindV (aR ok a w) λda gK bG bI ai bL cP b9 bE=>.stand ?_
 try dsimp only at bE
 set_option smartUnfolding false in refine jM bE λv e bE=>?_
 exact .bindR (.holding (Rn hn ok bL b9 e)) λaJ du ak cX d6 q3=>.bindU (Tr ok cX) λ_ kf aZ fx hN=>.pure fx ⟨rfl,v,q3.sub hN,bE⟩
theorem cE.ifexp{t a b pos}(ce:ST Θ C d t)(ha:cE Θ C d a)(hb:cE Θ C d b):cE Θ C d (.IfExp t a b pos):=λok gk w=>by
 rw [aq6] at w;have dg:∀Z,eval (.IfExp t a b pos) Z=(do if <-isTrue t Z (eval t Z) then eval a Z else eval b Z):=λ_=>rfl
 refine G (dg ..) (.bindB (ce ok gk w) λc bG bI ai bL cP bE=>?_)
 induction c using t5 with
 |true=>exact ha ok bL bE
 |false=>exact hb ok bL bE
theorem kl.nil:kl Θ C d []:=λok a w=>by
 rw [T9] at w;exact aa.pure a ⟨rfl,[],.nil,w⟩
theorem kl.cons{e aH}(bl:cE Θ C d e)(hs:kl Θ C d aH)(QR:∀Z,ic (e::aH) Z=(aA,eval e Z)::ic aH Z):kl Θ C d (e::aH):=λ{ah Z ρ m H h k pos} ok a w=>by
 rw [arc] at w;have dg:spliced (jB pos (ic (e::aH) Z))=(eval e Z>>=λv=>bK [v]>>=λQz=>gO Qz (spliced (jB pos (ic aH Z)))>>=λr=>bK (Qz++r)):=
  G (QR ..) rfl
 refine G dg (.bindV (bl ok a w) λaJ v bG bI ai bL cP b9 bE=>.bind (.pure bL (Q:=λx cb bV bb=>x=[aJ]/\cb=bG/\bV=m/\bb=bI) ⟨rfl,rfl,rfl,rfl⟩) λ_ du m cM ak cX d6 cV=>?_)
 refine v5 cV λaM a7 q3 iF=>?_
 subst aM a7 q3 iF;exact .bindV (.holding (hs ok cX bE)) λvs' vs kf cg aZ fx hN dG ea=>.pure fx ⟨rfl,v::vs,.cons (b9.sub hN) dG,ea⟩
end
end
variable {C:mL}
theorem aa.bindF{t:Sem ay}{f:ay->Sem bF}{Q1:ay->cq->Loc->an->Prop}{Q:bF->cq->Loc->an->Prop}(x:aa Θ ah Z ρ t Q1 h)
  (k:∀a bG dF bI ai,bD Θ Z bG dF bI ai->d3 (own Z) ρ h bG ai->Q1 a bG dF bI->aa Θ ah Z bG (f a) Q ai):aa Θ ah Z ρ (t>>=f) Q h:=
 af.bind (af.mono x λa ai ⟨bG,dF,bI,y,z,q⟩=>af.mono (k a bG dF bI ai y z q) λb ak r=>r.go (f:=z))
theorem aa.grow{t:Sem ay}{f:ay->Sem bF}{R:ay->bq->Prop}{Q:bF->cq->Loc->an->Prop}(x:af Θ.w Θ.O ah t (λa ai=>gM h ai/\R a ai) h)
  (k:∀a ai,gM h ai->R a ai->aa Θ ah Z ρ (f a) Q ai):aa Θ ah Z ρ (t>>=f) Q h:=
 af.bind (af.mono x λa ai eH=>cz eH λe r=>af.mono (k a ai e r) λb ak r=>r.go (f:=.ext e))
theorem agX{l:List L}(ok:bz Θ.fs (d+4) ah)(x:bD Θ Z ρ m H h)(hv:All2 (bg ρ) l vs)(aq:bH l.length=ae):aa Θ ah Z ρ (newList vs) (dC m (.new H.length) (H++[.list l])) h:=by
 refine aa.any ok λA s a6 bA bU e1 e2 aP=>?_
 subst e1;refine wpAny_newList ⟨?_,e2,aP⟩ (cU hv.length (oB aq));have sub:Sub ρ (ρ++[(s.heap.objs.size,s.heap.objs.size)]):=⟨_,rfl⟩;refine d4.added x (.push _ _) (o:=.list l) (p:=(s.heap.objs.size,s.heap.objs.size)) (cW _) (cW _) ⟨rfl,vs,0,hU _ rfl,hv.mono λ_ _ r=>r.sub sub⟩ ⟨rfl,rfl,.last x.len⟩
theorem agY{l:List L}(ok:bz Θ.fs (d+4) ah)(x:bD Θ Z ρ m H h)(hv:All2 (bg ρ) l vs)(aq:bH l.length=ae):aa Θ ah Z ρ (newTuple vs) (dC m (.new H.length) (H++[.tup l])) h:=by
 refine aa.any ok λA s a6 bA bU e1 e2 aP=>?_
 subst e1;refine wpAny_newTuple ⟨?_,e2,aP⟩ (cU hv.length (oB aq));have sub:Sub ρ (ρ++[(s.heap.objs.size,s.heap.objs.size)]):=⟨_,rfl⟩;refine d4.added x (.push _ _) (o:=.tup l) (p:=(s.heap.objs.size,s.heap.objs.size)) (cW _) (cW _) ⟨rfl,vs,⟨_,hU _ rfl,rfl,_,rfl⟩,hv.mono λ_ _ r=>r.sub sub⟩ ⟨rfl,rfl,.last x.len⟩
theorem cE.list{aH pos}(bl:kl Θ C d aH):cE Θ C d (.List aH pos):=λ{ah Z ρ m H h k} ok a w=>by
 rw [aq7] at w;have dg:eval (.List aH pos) Z=(do gw pos;newList (<-spliced (jB pos (ic aH Z)))):=rfl
 refine G dg (.stand (.bindV (bl ok a w) λvs' vs bG bI ai bL cP b9 bE=>?_))
 exact qH bE λaq bE=>(agX ok bL b9 aq).toV bE
theorem cE.tuple{aH n pos}(bl:kl Θ C d aH):cE Θ C d (.Tuple aH n pos):=λ{ah Z ρ m H h k} ok a w=>by
 rw [ara] at w;have dg:eval (.Tuple aH n pos) Z=(do gw pos;newTuple (<-spliced (jB pos (ic aH Z)))):=rfl
 refine G dg (.stand (.bindV (bl ok a w) λvs' vs bG bI ai bL cP b9 bE=>?_))
 exact qH bE λaq bE=>(agY ok bL b9 aq).toV bE
theorem oE.frm{ρ cb:cq}{h av:bq}{ix:nl}{v:aG}(x:oE (Z:=Z) ρ h ix v)(f:d3 (own Z) ρ h cb av):oE (Z:=Z) cb av ix v:=by
 induction ix using Mine.Internal.nl.casesOn with
 |at_ u=>exact bg.sub f.sub x
 |sl a b=>
  refine BK x λs ajR u w bU j7 ef ja b9 dG hs fh xm=>?_;obtain rfl:=ajR
  refine⟨s,rfl,u,w,bU,j7,ef,ja,b9.sub f.sub,dG.sub f.sub,(f.keep _ _ hs (λz=>fh (tx z)) xm).exact (by simp),λeH=>mF eH λi p e z=>?_,xm⟩
  by_cases aQ:ρ.length<=i
  ·have q:=f.new i p e aQ;have ck:h.objs.size>s:=gE hs;rcases z with z|z<;>rw [z] at ck<;>lia
  ·obtain⟨q,cI⟩:∃q,ρ[i]? =J q:=⟨_,iy (wq aQ)⟩;have :=f.sub.get cI;rw [e] at this;obtain rfl:=ci this;exact fh ⟨i,p,cI,z⟩
def om(Θ:fa)(C:mL)(d:Nat)(e:aU):Prop:=∀ {ah Z ρ m H h} {k:nl->an->Prop} {bF:Type} {f:aG->Sem bF} {Q:bF->cq->Loc->an->Prop},bz Θ.fs (d+4) ah->bD Θ Z ρ m H h->
 v0 False C e (λH k=>bO False C e Z.scope.names m H k) Z.scope.names m H k->
 (∀ix aJ bG bI ai,bD Θ Z bG m bI ai->Sub ρ bG->oE (Z:=Z) bG ai ix aJ->k ix bI->aa Θ ah Z bG (f aJ) Q ai)->aa Θ ah Z ρ (eval e Z>>=f) Q h
theorem arf{e:aU}{W:an->(L->an->Prop)->Prop}{ax:ds}{m:Loc}{H:an}{k:nl->an->Prop}:A8 e=ae->v0 False C e W ax m H k=W H λv H=>k (.at_ v) H:=by
 rcases e<;>first |exact λ_=>(rfl:_=(W H λv H=>k (.at_ v) H))|exact λh=>b8 h
theorem om.plain{e:aU}(bl:cE Θ C d e)(hn:A8 e=ae):om Θ C d e:=λ{ah Z ρ m H h k bF f Q} ok a w aB=>by
 exact .bindV (bl ok a ((arf hn).mp w)) λaJ v bG bI ai bL cP b9 bE=>aB (.at_ v) _ _ _ _ bL cP b9 bE
def rK(Θ:fa)(C:mL)(d:Nat)(e:Option aU):Prop:=∀ {ah Z ρ m H h} {k:L->an->Prop},bz Θ.fs (d+4) ah->bD Θ Z ρ m H h->v1 False C e Z.scope.names m H k->aa Θ ah Z ρ (valueOrNone (evalOpt e Z)) (mT m k) h
theorem rK.none:rK Θ C d ac:=λok a w=>by rw [arj] at w;exact aa.pure a ⟨rfl,.none,rfl,w⟩
theorem rK.some{e}(bl:cE Θ C d e):rK Θ C d (J e):=λok a w=>by rw [ark] at w;exact bl ok a w
set_option tactic.hygienic true in
theorem om.slice{a b pos}(ha:rK Θ C d a)(hb:rK Θ C d b):om Θ C d (.Slice a b ac pos):=λ{ah Z ρ m H h k bF f Q} ok gk w aB=>by
 rw [are] at w;have dg:eval (.Slice a b ac pos) Z=(do
  let l <-valueOrNone (evalOpt a Z)
  let u <-gO [l] (valueOrNone (evalOpt b Z))
  let s <-gO [l,u] (bK .none)
  newFields "slice" [l,u,s]):=rfl
 refine G dg ?_;simp only [uv];refine .bindV (ha ok gk w) λef u bG bI ai bL cP b9 bE=>.bindV (.holding (hb ok bL bE)) λaJ v du cM ak cX d6 dG ea=>?_
 try dsimp only at ea
 split at ea
 ·rename_i hu fy e1 e2;refine .bind (.holding (.pure cX (Q:=λx cb bV bb=>x=.none/\cb=du/\bV=m/\bb=cM) ⟨rfl,rfl,rfl,rfl⟩)) λx kf m cg aZ fx hN cV=>?_
  refine v5 cV λaM a7 q3 iF=>?_
  subst aM a7 q3 iF;obtain⟨A,cS,-,-⟩:=ok.room;refine .grow (R:=λx ai=>x=.ref aZ.objs.size/\ai.get? aZ.objs.size=J {cls:=.type "slice",data:=.fields #[ef,aJ,.none]}) ?_ λx cC jD eH=>cz eH λaM a7=>?_
  ·refine af.any cS λs e1 e2 aP=>?_
   subst e1;exact qo (data:=.fields #[ef,aJ,.none]) ⟨⟨.push _ _,rfl,hU _ rfl⟩,e2,aP⟩ (by show 3<=mh+2;exact G k9 (F7 3 16777215))
  ·subst aM;have lt:∀ {b:a1},aZ.objs.size>b->aZ.objs.size≠b:=λz q=>by rw [<-q] at z;exact jn _ z
   refine aB (.sl hu fy) _ _ _ _ (fx.ext jD) (cP.trans (d6.trans hN)) ⟨_,rfl,u,v,e1,e2,ef,aJ,b9.sub (d6.trans hN),dG.sub hN,a7,λeH=>mF eH λi p e z=>?_,λz=>lt (fx.out _ z).2.2 rfl⟩ ea
   have :=fx.rel.lt e;rcases z with z|z
   ·exact lt this.1 z
   ·exact lt this.2 z
 ·exact ea.elim
theorem af.holdBind{w:eS}{bp:gv}{t:Sem ay}{f:ay->Sem bF}{Q:bF->bq->Prop}(x:af w bp ah (t>>=f) Q h):af w bp ah (PySem.holding vs t>>=f) Q h:=λs p e1 e2 aP=>by
 have :=x s p e1 e2 aP;rw [wB] at this⊢;exact G (Sem.wp_holding ..) this
theorem aoT{i:aU}(h:∀a b c p,i=.Slice a b c p->c=ac)(o' eL:aG):∃vs,subscripted i aA o' eL=operate vs (oi o' eL):=by
 revert h
 rcases i with _|_|_|_|_|_|_|_|_|_|_|_|_|_|_|_|_|_|_|_|_|_|_|_|_|_|⟨a,b,c,p⟩<;>first |exact λ_=>⟨[o',eL],rfl⟩|skip
 intro h;obtain rfl:=h _ _ _ _ rfl;exact⟨[eL,o'],rfl⟩
set_option tactic.hygienic true in
theorem cE.subscript{o i pos}(aR:cE Θ C d o)(hi:om Θ C d i)(afj:∀a b c p,i=.Slice a b c p->c=ac):cE Θ C d (.Subscript o i pos):=λ{ah Z ρ m H h k} ok a w=>by
 rw [aq9] at w;refine G (eval_Subscript ..) (.bindV (aR ok a w) λo' gK bG bI ai bL cP b9 bE=>af.holdBind (hi ok bL bE λix eL du cM ak cX d6 dG ea=>.stand ?_))
 split at ea
 ·rename_i v cg e;refine .bindF (agT ok cX (b9.sub d6) (ix:=ix) (G e rfl)) λb kf m eD aZ fx ee cV=>?_
  refine dS cV λaM a7 q3=>?_
  subst aM a7 q3;have cp:aa Θ ah Z kf (oi o' eL>>=λr=>uJ o o' r>>=λ_=>bK r) (mT m k) aZ:=by
   exact .bindR (agU ok fx (b9.sub (d6.trans ee.sub)) (dG.frm ee) e) λr q9 cC ko xB q3=>.bindU (Tr ok ko) λ_ pY gl pj Tc=>.pure pj ⟨rfl,v,q3.sub Tc,ea⟩
  have aiY:∀ {vs:List aG} {f:aG->Sem aG} {Q:aG->bq->Prop},af Θ.w Θ.O ah (oi o' eL>>=f) Q aZ->af Θ.w Θ.O ah (operate vs (oi o' eL)>>=f) Q aZ:=λx s p e1 e2 aP=>by
   have :=x s p e1 e2 aP;rw [wB] at this⊢;exact G (Sem.wp_operate ..) this
  exact cm (aoT afj o' eL) λvs e=>G e (aiY cp)
 ·exact ea.elim
section
variable {e:aU}
theorem Pr{pos:Pos}:∀ {rs:List aU},(∀e∈rs,cE Θ C d e)->∀ {dX:List CmpOp} {a:L} {da:aG} {ah Z ρ m H h} {k:Bool->an->Prop},dX.length=rs.length->bz Θ.fs (d+4) ah->bD Θ Z ρ m H h->bg ρ a da->
  su False C rs dX a Z.scope.names m H k->aa Θ ah Z ρ (testChain pos da dX (ql rs Z)) (λb _ bV bb=>bV=m/\k b bb) h/\
   aa Θ ah Z ρ (compareChain pos da dX (ql rs Z)) (λck _ bV bb=>bV=m/\∃b,ck=.bool b/\k b bb) h:=by
 intro rs;induction rs with
 |nil=>exact @λ_ dX a da ah Z ρ m H h k aQ ok gk ra w=>(aqZ.mp w).elim
 |cons r rs ih=>
  intro c9 dX a da ah Z ρ m H h k aQ ok gk ra w;rcases dX with _|⟨bM,dX⟩
  ·rw [T7] at w;exact w.elim
  rw [T7] at w;try dsimp only at w
  have step:=(c9 r fK) ok gk w;induction rs using mO with
  |nil=>
   induction dX using mO with
   |nil=>
    constructor
    ·show aa Θ ah Z ρ (gO [da] (eval r Z)>>=λf0=>gw pos>>=λ_=>operate [da,f0] (s6 bM da f0)>>=λc=>gO [c] (truthy c)) _ h
     refine .bindV (.holding step) λck b bG bI ai bL cP b9 bE=>.stand ?_
     try dsimp only at bE
     set_option smartUnfolding false in refine jM bE λc e bE=>?_
     refine .bindR (.operate (DQ ok bL (ra.sub cP) b9 e)) λc' du ak cX d6 q3=>?_
     cases q3;exact .holding (.pure cX ⟨rfl,bE⟩)
    ·show aa Θ ah Z ρ (gO [da] (eval r Z)>>=λf0=>gw pos>>=λ_=>operate [da,f0] (s6 bM da f0)) _ h
     refine .bindV (.holding step) λck b bG bI ai bL cP b9 bE=>.stand ?_
     try dsimp only at bE
     set_option smartUnfolding false in refine jM bE λc e bE=>?_
     exact(aa.operate (DQ ok bL (ra.sub cP) b9 e)).mono λc' du m cM eH=>dS eH λaM a7 q3=>⟨aM,c,q3,a7▸bE⟩
   |cons el dX=>simp at aQ
  |cons dG rs=>
   induction dX using mO with
   |nil=>simp at aQ
   |cons el dX=>
    have xc:(el::dX).length=(dG::rs).length:=by simpa using aQ
    constructor
    ·show aa Θ ah Z ρ (gO [da] (eval r Z)>>=λf0=>gw pos>>=λ_=>gO [da,f0] (s6 bM da f0)>>=λc=>zF [da,f0] [c]>>=λ_=>gO [c,f0] (truthy c)>>=λt=>if t=ae then testChain pos f0 (el::dX) (ql (dG::rs) Z) else bK aA) _ h
     refine .bindV (.holding step) λck b bG bI ai bL cP b9 bE=>.stand ?_
     try dsimp only at bE
     set_option smartUnfolding false in refine jM bE λc e bE=>?_
     refine .bindR (.holding (DQ ok bL (ra.sub cP) b9 e)) λc' du ak cX d6 q3=>?_
     cases q3;refine .release (.bindB (.holding (.pure cX (Q:=λt _ bV bb=>bV=m/\(t=c/\bb=bI)) ⟨rfl,rfl,rfl⟩)) λt kf cg aZ fx hN q=>?_)
     refine cz q λajS ajT=>?_;obtain rfl:=ajS;obtain rfl:=ajT
     induction t using t5 with
     |true=>exact(ih (λe bl=>c9 e (f8 _ bl)) xc ok fx (b9.sub (d6.trans hN)) bE).1
     |false=>exact .pure fx ⟨rfl,bE⟩
    ·show aa Θ ah Z ρ (gO [da] (eval r Z)>>=λf0=>gw pos>>=λ_=>gO [da,f0] (s6 bM da f0)>>=λc=>zF [da,f0] [c]>>=λ_=>gO [c,f0] (truthy c)>>=λt=>if t=ae then compareChain pos f0 (el::dX) (ql (dG::rs) Z) else bK c) _ h
     refine .bindV (.holding step) λck b bG bI ai bL cP b9 bE=>.stand ?_
     try dsimp only at bE
     set_option smartUnfolding false in refine jM bE λc e bE=>?_
     refine .bindR (.holding (DQ ok bL (ra.sub cP) b9 e)) λc' du ak cX d6 q3=>?_
     cases q3;refine .release (.bindB (.holding (.pure cX (Q:=λt _ bV bb=>bV=m/\(t=c/\bb=bI)) ⟨rfl,rfl,rfl⟩)) λt kf cg aZ fx hN q=>?_)
     refine cz q λajU ajV=>?_;obtain rfl:=ajU;obtain rfl:=ajV
     induction t using t5 with
     |true=>exact(ih (λe bl=>c9 e (f8 _ bl)) xc ok fx (b9.sub (d6.trans hN)) bE).2
     |false=>exact .pure fx ⟨rfl,aA,rfl,bE⟩
theorem cE.compare{l dX rs pos}(aQ:cE Θ C d l)(c9:∀e∈rs,cE Θ C d e)(bc:lastMarks dX rs=aA):cE Θ C d (.Compare l dX rs pos):=λ{ah Z ρ m H h k} ok a w=>by
 rw [aq4] at w;refine qH w λmZ w=>?_
 have dg:eval (.Compare l dX rs pos) Z=(eval l Z>>=λx=>compareChain pos x dX (markedEach dX rs (ql rs Z))):=rfl
 refine G dg (G (markedEach_of_false _ _ _ bc) ?_);exact .bindV (aQ ok a w) λda v bG bI ai bL cP b9 bE=>(Pr c9 mZ ok bL b9 bE).2.mono λck du m cM eH=>Ml eH λaM b a7 q3=>⟨aM,.bool b,a7,q3⟩
theorem ST.compare{l dX rs pos}(aQ:cE Θ C d l)(c9:∀e∈rs,cE Θ C d e)(bc:lastMarks dX rs=aA):ST Θ C d (.Compare l dX rs pos):=λ{ah Z ρ m H h k} ok a w=>by
 rw [arA] at w;refine qH w λmZ w=>?_
 have dg:isTrue (.Compare l dX rs pos) Z (eval (.Compare l dX rs pos) Z)=(eval l Z>>=λx=>testChain pos x dX (markedEach dX rs (ql rs Z))):=rfl
 refine G dg (G (markedEach_of_false _ _ _ bc) ?_);exact .bindV (aQ ok a w) λda v bG bI ai bL cP b9 bE=>(Pr c9 mZ ok bL b9 bE).1
theorem TO{v:L}{aJ:aG}{b:Bool}(r:bg ρ v aJ)(e:ky v=J b):aJ=.bool b:=by
 rcases v<;>cases e;exact r
theorem arC{W:an->(L->an->Prop)->Prop}{ax:ds}{m:Loc}{H:an}{k:Bool->an->Prop}:xs e=ae->ge False C e W ax m H k=W H (qY False k):=by
 rcases e<;>first |exact λ_=>(rfl:_=W H (qY False k))|exact λh=>b8 h
noncomputable def TK(p:Pos)(v:aG):Sem Bool:=gw p>>=λ_=>gO [v] (truthy v)
theorem isTrue_plain{Z:Env}{x:Sem aG}:xs e=ae->isTrue e Z x=(x>>=TK e.pos):=by
 rcases e<;>first |exact λ_=>(rfl:_=(x>>=TK _))|exact λh=>b8 h
theorem ST.plain(bl:cE Θ C d e)(hp:xs e=ae):ST Θ C d e:=λ{ah Z ρ m H h k} ok a w=>by
 rw [arC hp] at w;refine G (isTrue_plain hp) (.bindV (bl ok a w) λaJ v bG bI ai bL cP b9 bE=>.stand (.holding ?_))
 unfold qY at bE;set_option smartUnfolding false in refine jM bE λb e bE=>?_
 cases TO b9 e;exact .pure bL ⟨rfl,bE⟩
theorem ST.not{x pos}(aO:ST Θ C d x):ST Θ C d (.UnaryOp .Not x pos):=λ{ah Z ρ m H h k} ok a w=>by
 rw [arB] at w;show aa Θ ah Z ρ (isTrue x Z (eval x Z)>>=λb=>bK (!b)) _ h
 exact .bindB (aO ok a w) λb bG bI ai bL cP bE=>.pure bL ⟨rfl,bE⟩
theorem OQ{bM:ww}:∀ {aH:List aU},(∀e∈aH,ST Θ C d e)->∀ {ah Z ρ m H h} {k:Bool->an->Prop},bz Θ.fs (d+4) ah->bD Θ Z ρ m H h->vW False C aH bM Z.scope.names m H k->
  aa Θ ah Z ρ (allTrue bM aH Z) (λb _ bV bb=>bV=m/\k b bb) h
 | []=> @λ_ ah Z ρ m H h k ok a w=>by
  exact aa.pure a ⟨rfl,aqQ.mp w⟩
 |e::aH=> @λbl ah Z ρ m H h k ok a w=>by
  rw [aqP] at w;have dg:allTrue bM (e::aH) Z=(isTrue e Z (eval e Z)>>=λb=>match bM,b with
   | .And,aA=>bK aA
   | .Or,ae=>bK ae
   |_,_=>allTrue bM aH Z):=rfl
  refine G dg (.bindB (bl e fK ok a w) λb bG bI ai bL cP bE=>?_)
  rcases bM<;>rcases b<;>first |exact .pure bL ⟨rfl,bE⟩|exact OQ (λe h=>bl e (f8 _ h)) ok bL bE
theorem ST.bool{bM vs pos}(hv:∀e∈vs,ST Θ C d e):ST Θ C d (.BoolOp bM vs pos):=λ{ah Z ρ m H h k} ok a w=>by
 rw [arz] at w;exact OQ hv ok a w
theorem aab{bM:ww}{pos:Pos}:∀ {aH:List aU},(∀e∈aH,cE Θ C d e)->∀ {ah Z ρ m H h} {k:L->an->Prop},bz Θ.fs (d+4) ah->bD Θ Z ρ m H h->vZ False C aH bM Z.scope.names m H k->
  aa Θ ah Z ρ (boolOp pos bM (ql aH Z)) (mT m k) h:=by
 intro aH;induction aH with
 |nil=>exact @λ_ ah Z ρ m H h k ok a w=>(aqY.mp w).elim
 |cons e aH ih=>
  intro bl ah Z ρ m H h k ok a w;rcases aH with _|⟨e2,aH⟩
  ·exact bl e fK ok a (T6.mp w)
  rw [T6] at w;have dg:boolOp pos bM (ql (e::e2::aH) Z)=(eval e Z>>=λv=>gw pos>>=λ_=>gO [v] (truthy v)>>=λt=>match bM,t with
   | .And,aA| .Or,ae=>bK v
   |_,_=>boolOp pos bM (ql (e2::aH) Z)):=rfl
  refine G dg (.bindV (bl e fK ok a w) λaJ v bG bI ai bL cP b9 bE=>.stand ?_)
  cases q:ky v with
  |none=>rw [q] at bE;rcases bM<;>exact bE.elim
  |some b=>
   rw [q] at bE;cases TO b9 q;refine .bind (.holding (.pure bL (Q:=λt cb bV bb=>t=b/\bV=m/\bb=bI/\cb=bG) ⟨rfl,rfl,rfl,rfl⟩)) λt kf m cg aZ fx hN cV=>?_
   refine v5 cV λaM a7 q3 iF=>?_
   subst aM a7 q3 iF;rcases bM<;>rcases t<;>first |exact .pure fx ⟨rfl,v,b9,bE⟩|exact ih (λe h=>bl e (f8 _ h)) ok fx bE
theorem cE.bool{bM vs pos}(hv:∀e∈vs,cE Θ C d e):cE Θ C d (.BoolOp bM vs pos):=λ{ah Z ρ m H h k} ok a w=>by
 rw [aq3] at w;exact aab hv ok a w
end
variable {e:aU}
section
variable {c':aG×List aG}{aH:List aU}{f:aU}{k:L->an->Prop}
theorem Le{e:aU}(hn:gA (e::aH)=ae)(Z:Env):ic (e::aH) Z=(aA,eval e Z)::ic aH Z:=by
 have hn:=(eZ hn);revert hn
 rcases e<;>first |exact λ_=>(rfl:_=((aA,eval _ Z)::ic aH Z))|exact λh=>b8 h
theorem Ei{pos:Pos}:∀ {aH:List aU} (_:gA aH=ae) (Z:Env),(jB pos (ic aH Z)).any (·.1)=aA/\(jB pos (ic aH Z)).all (!·.1)=ae/\(jB pos (ic aH Z)).length=aH.length
 | [],_,Z=>⟨rfl,rfl,rfl⟩
 |e::aH,hn,Z=>by
  have lm:gA aH=ae:=by unfold gA at hn⊢;rw [wk,he] at hn;exact hn.2
  refine dS (Ei (pos:=pos) lm Z) λa b c=>G (Le hn ..) ?_
  exact⟨by show(aA||(jB pos (ic aH Z)).any (·.1))=aA;exact G (a ..) rfl,by show(ae&&(jB pos (ic aH Z)).all (!·.1))=ae;exact G b rfl,by show(jB pos (ic aH Z)).length+1=_;exact G c rfl⟩
theorem Ee{f':aG}{pos:Pos}(hs:kl Θ C d aH)(hn:gA aH=ae){k:List L->an->Prop}(ok:bz Θ.fs (d+4) ah)(a:bD Θ Z ρ m H h)(w:ju False C aH Z.scope.names m H k):
  aa Θ ah Z ρ (evalArgs f' ae (jB pos (ic aH Z)) []) (λa cb bV bb=>bV=m/\a.kw=[]/\∃vs,All2 (bg cb) vs a.pos/\k vs bb) h:=by
 have a6:=hs (pos:=pos) ok a w;have cp:∀ {vs':List aG} {bG dF bI ai},bD Θ Z bG dF bI ai->dF=m->(∃vs,All2 (bg bG) vs vs'/\k vs bI)->aa Θ ah Z bG (gO (vs'++(ac:Option aG).toList) (evalAll []>>=λff=>(bK vs':Sem (List aG))>>=λl=>(bK ⟨l,List.zip [] ff⟩:Sem Args))) (λa cb bV bb=>bV=m/\a.kw=[]/\∃vs,All2 (bg cb) vs a.pos/\k vs bb) ai:=
  λbL aM eH=>bT eH λvs b9 bE=>.holding (.pure bL ⟨aM,rfl,vs,b9,bE⟩)
 induction aH using mO with
 |nil=>
  refine af.bind (af.mono a6 λvs' ai ⟨bG,dF,bI,bL,ch,aM,a7⟩=>af.bind (af.pure ?_))
  exact af.mono (cp (vs':=vs') bL aM a7) λ_ _ r=>r.go (f:=ch)
 |cons e aH=>
  rw [Le hn] at a6⊢;refine af.bind (af.mono a6 λvs' ai ⟨bG,dF,bI,bL,ch,aM,a7⟩=>af.bind (af.pure ?_))
  exact af.mono (cp (vs':=vs') bL aM a7) λ_ _ r=>r.go (f:=ch)
theorem aoD{f:a1}{vs:List L}{vs':List aG}(ok:bz Θ.fs d ah)(a:bD Θ Z ρ m H h)(hv:All2 (bg ρ) vs vs')(w:BS Θ d f vs H k):
  aa Θ ah Z ρ (PySem.call (.ref f) vs') (mT m k) h:=
 af.mono (w ah ρ h vs' ok a.rel hv) λaJ ai eH=>tZ eH λbG bI v b9 ch aM a7=>⟨bG,m,bI,a.call b9 ch,ch.wide,rfl,v,aM,a7⟩
theorem aoC{vs:List L}{vs':List aG}(dD:nZ Θ d C)(ok:bz Θ.fs (d+4) ah)(a:bD Θ Z ρ m H h)(aD:rT Θ.w.params ρ c c')(hv:All2 (bg ρ) vs vs')
  (w:bB False C c vs H k):aa Θ ah Z ρ (PySem.call c'.1 (c'.2++vs')) (mT m k) h:=by
 obtain⟨f',An⟩:=c';induction c using Mine.Internal.l8.casesOn with
 |fn f self=>
  refine dS aD λajW hs _=>?_;obtain rfl:=ajW
  exact aoD (ok.mono (kZ d 4)) a (hs.append hv) (dD _ _ _ _ w)
 |cls c i=>
  refine Uc aD λe _ bc hi aq ll=>?_
  refine oM e λajX ajY=>?_;obtain rfl:=ajX;obtain rfl:=ajY
  obtain⟨A,cS,-,-⟩:=ok.room;have ext:gM h ((h.push rB).push (kj c h.objs.size)):=(gM.push _ _).trans (.push _ _);have d1:((h.push rB).push (kj c h.objs.size)).get? (h.objs.size+1)=J (kj c h.objs.size):=by
   have :=hU (h.push rB) (o:=kj c h.objs.size) rfl;rwa [ib] at this
  have g2:((h.push rB).push (kj c h.objs.size)).get? h.objs.size=J (qh [] 0):=k6 _ (hU _ rfl);have bL:d4 Θ Z ρ h (λ(_:Unit) cb bV bb=>cb=ρ++[(h.objs.size+1,h.objs.size)]/\bV=m/\bb=H++[.inst c []]) () ((h.push rB).push (kj c h.objs.size)):=
   .added a ext (p:=(h.objs.size+1,h.objs.size)) (o:=.inst c []) (uB _) (cW _) ⟨ll,Nat.succ_ne_self _,d1,[],0,g2,.nil⟩ ⟨rfl,rfl,rfl⟩
  obtain⟨bG,m,bI,bL,ch,aM,a7,q3⟩:=bL;subst aM a7 q3;refine af6 (n:=d) (ok.mono (uB (d+3))) a.rel.base.k bc hi aq λgU hM=>?_
  have aQ:bg (ρ++[(h.objs.size+1,h.objs.size)]) (.new H.length) (.ref (h.objs.size+1)):=.last (p:=(h.objs.size+1,h.objs.size)) a.len;refine af.mono (dD _ _ _ _ w gU _ _ _ (hM.mono (kZ d 1)) bL.rel (.cons aQ (hv.mono λ_ _ r=>r.sub ⟨_,rfl⟩))) λaJ ai cV=>?_
  refine tZ cV λdu cM v dG cd aM a7=>?_
  rcases v<;>first |exact a7.elim|skip
  exact⟨aM,du,_,cM,bL.call dG cd,ch.trans cd.wide,rfl,_,aQ.sub cd.sub,a7⟩
 |bi aB=>
  refine cz aD λe _=>?_
  refine oM e λajZ aj0=>?_;obtain rfl:=ajZ;obtain rfl:=aj0
  set_option smartUnfolding false in exact Ke w λv bI e w=>(agQ ok a hv e).toV w
 |me o n=>
  set_option smartUnfolding false in exact Ke w λv bI e w=>(agV (c:=(f',An)) ok a hv aD e).toV w
theorem rT.sub{P:cB}{ρ cb:cq}(s:Sub ρ cb):∀ {c:l8} {c':aG×List aG},rT P ρ c c'->rT P cb c c':=λ{c c'}=>by
 rcases c with⟨f,self⟩|⟨c,i⟩|aB|⟨o,n⟩
 ·exact λx=>dS x λa b q=>⟨a,b.mono λ_ _ r=>r.sub s,q⟩
 ·exact λx=>x
 ·exact λx=>x
 ·exact λx=>kA x λo' id a b q=>⟨o',id,a.sub s,b,q⟩
set_option tactic.hygienic true in
theorem Tp(ok:bz Θ.fs (d+4) ah)(a:bD Θ Z ρ m H h)(aD:rT Θ.w.params ρ c c'):
  aa Θ ah Z ρ (CD c'.1) (λk cb bV bb=>bV=m/\bb=H/\(k=.frame\/k=.machine)) h:=by
 have TT:wC (dk Θ.w.params) c'.1=ae->aa Θ ah Z ρ (CD c'.1) (λk cb bV bb=>bV=m/\bb=H/\(k=.frame\/k=.machine)) h:=λhk=>by
  exact bT (looks_keep (M:=di prog Θ.w) hk a.rel.base.k) λk ai ak=>af.looks ok ak (.now a ⟨rfl,rfl,ai⟩)
 have TU:(∀a,c'.1≠.ref a)->aa Θ ah Z ρ (CD c'.1) (λk cb bV bb=>bV=m/\bb=H/\(k=.frame\/k=.machine)) h:=λhk=>by
  have :CD c'.1=bK .machine:=by
   unfold CD;split
   ·rename_i x q;exact absurd q (hk _)
   ·rfl
  exact G this (.pure a ⟨rfl,rfl,.inr rfl⟩)
 obtain⟨f',An⟩:=c';induction c using Mine.Internal.l8.casesOn with
 |fn f self=>refine dS aD λaj1 _ hk=>?_;obtain rfl:=aj1;exact TT hk
 |cls c i=>refine dS aD λe hk _=>?_;refine oM e λaj3 aj4=>?_;obtain rfl:=aj3;obtain rfl:=aj4;exact TT hk
 |bi aB=>refine cz aD λe hk=>?_;refine oM e λaj5 aj6=>?_;obtain rfl:=aj5;obtain rfl:=aj6;exact TU hk
 |me o n=>refine kA aD λo' id _ e _=>?_;refine oM e λaj7 aj8=>?_;obtain rfl:=aj7;obtain rfl:=aj8;exact TU λa q=>by cases q
theorem af.ite_{w:eS}{bp:gv}{c:Prop}{_:Decidable c}{a b:Sem ay}{Q:ay->bq->Prop}(k1:af w bp ah a Q h)(k2:af w bp ah b Q h):af w bp ah (if c then a else b) Q h:=af.ite (λ_=>k1) λ_=>k2
theorem Tm{pos:Pos}(dD:nZ Θ d C)(hs:kl Θ C d aH)(hn:gA aH=ae)(aQ:aH.length<30)(ok:bz Θ.fs (d+4) ah)(a:bD Θ Z ρ m H h)
  (aD:rT Θ.w.params ρ c c') (w:ju False C aH Z.scope.names m H λvs H=>bB False C c vs H k):aa Θ ah Z ρ (Cy pos c'.1 c'.2 (jB pos (ic aH Z)) []) (mT m k) h:=by
 refine dS (Ei (pos:=pos) hn Z) λn1 n2 A4=>.bind (.holding (Ee hs hn ok a w)) λzR bG m bI ai bL cP cV=>.stand ?_
 refine tX cV λaM a7 vs b9 bE=>?_
 subst aM;obtain⟨vs',iT⟩:=zR;dsimp only at a7 b9;subst a7;refine G n1 (.bindR (Tp ok bL (aD.sub cP)) λqN du ak cX d6 q3=>?_)
 have vN:∀ {t:Sem aG},aa Θ ah Z du t (mT m k) ak->aa Θ ah Z du (t>>=λr=>gO [r] point>>=λ_=>bK r) (mT m k) ak:=λce=>
  .bind ce λr kf m cg aZ fx hN q=>af.bind (af.holding (af.point (aa.pure fx q)))
 have vw:=aoC dD ok cX (aD.sub (cP.trans d6)) (b9.mono λ_ _ r=>r.sub d6) bE
 rcases q3 with rfl|rfl
 ·exact af.ite_ (vN vw) (vN (af.keep vw))
 ·exact vN vw
noncomputable def Pn{cr:Type}(aK:cr)(C:a1->List L->an->(L->an->cr)->cr)(aH:List aU)(ax:ds)(m:Loc)(k:L->an->cr)(ad0:L)(H:an):cr:=match HH ad0 with
 |J c=>ju aK C aH ax m H λvs H=>bB aK C c vs H k
 |ac=>aK
theorem arb{pos:Pos}{ax:ds}{m:Loc}{H:an}:A7 f=ae->bO False C (.Call f aH [] pos) ax m H k=bO False C f ax m H (Pn False C aH ax m k):=by
 rcases f<;>first |exact λ_=>(rfl:_=bO False C _ ax m H (Pn False C aH ax m k))|exact λh=>b8 h
noncomputable def Po(aH:List aU)(pos:Pos)(Z:Env)(f:aG):Sem aG:=Cy pos f [] (jB pos (ic aH Z)) []
theorem adk{pos:Pos}{Z:Env}:A7 f=ae->eval (.Call f aH [] pos) Z=(eval f Z>>=Po aH pos Z):=by
 rcases f<;>first |exact λ_=>(rfl:_=(eval _ Z>>=Po aH pos Z))|exact λh=>b8 h
theorem cE.call{pos:Pos}(dD:nZ Θ d C)(aq:cE Θ C d f)(hs:kl Θ C d aH)(hn:gA aH=ae)(aQ:aH.length<30)(QJ:A7 f=ae):cE Θ C d (.Call f aH [] pos):=λ{ah Z ρ m H h k} ok a w=>by
 rw [arb QJ] at w;refine G (adk QJ) (.bindV (aq ok a w) λf' v bG bI ai bL cP b9 bE=>?_)
 set_option smartUnfolding false in exact jM bE λc e bE=>Tm (c':=(f',[])) dD hs hn aQ ok bL (abF b9 e) bE
set_option tactic.hygienic true in
theorem cE.meth{o:aU}{n:Str}{uP pos:Pos}(dD:nZ Θ d C)(aR:cE Θ C d o)(hs:kl Θ C d aH)(hn:gA aH=ae)(aQ:aH.length<30)(hb:∀Z g0,Cw o n Z g0=g0)
  (hp:(uP.endLine==pos.line)=ae):cE Θ C d (.Call (.Attribute o n uP) aH [] pos):=λ{ah Z ρ m H h k} ok a w=>by
 have ja:bO False C o Z.scope.names m H λeM H=>match bx eM n H with
  |J c=>ju False C aH Z.scope.names m H λvs H=>bB False C c vs H k
  |ac=>False:=w
 have dg:eval (.Call (.Attribute o n uP) aH [] pos) Z=(Cw o n Z (eval o Z)>>=λeM=>gw uP.atName>>=λ_=>Gw o n uP pos Z eM (aH.length+0) (jB pos (ic aH Z)) []):=rfl
 refine G dg (G (hb ..) ?_);refine .bindV (aR ok a ja) λo' v bG bI ai bL cP b9 bE=>.stand ?_
 split at bE
 ·rename_i c e;unfold Gw;have Ib:NQ (aH.length+0) (jB pos (ic aH Z)) []=ae:=by
   unfold NQ;refine G ((Ei (pos:=pos) hn Z).2.1) ?_;simp;exact Nat.lt_of_succ_le aQ
  refine G Ib (.bindR (.holding (Ro ok bL b9 e)) λc' du ak cX d6 q3=>?_)
  unfold methodCallPos;exact G hp (Tm dD hs hn aQ ok cX q3 bE)
 ·exact bE.elim
end
section
variable {c:lH}{x:Str}
section
variable {bp:gv}
def kh(w:eS)(bp:gv)(ah:Ctx)(R:nq->bq->Prop)(h:bq):Prop:=
 ∀s p,s.heap=h->s.gens= #[]->s.os=bp->wpCode (di prog w) ah (λr aS=>∃f,r=.ok f/\R f aS.heap/\aS.gens= #[]/\aS.os=bp) p s
theorem kh.tree{R:nq->bq->Prop}(aD:ah.code=c)(x:af w bp ah ((di prog w).den c) (λcp av=>match cp with | .done f=>R f av| .again c'=>c'.quiet=ae/\kh w bp (ah.goto c') R av) h):kh w bp ah R h:=λs p e1 e2 aP=>by
 (refine fB (N0 ..) ?_;rw [aD])
 refine lJ _ _ _ (λcp gZ aS y=>?_) (λ_ _ _ y=>y.elim) _ _ (x s p e1 e2 aP)
 refine dS y λcA dc fi=>?_
 induction cp using PySem.Fin.casesOn with
 |done f=>exact⟨f,rfl,cA,dc,fi⟩
 |again c'=>exact⟨cA.1,cA.2 aS gZ rfl dc fi⟩
theorem af.run{Q:nq->bq->Prop}(x:∀p,kh w bp (ah.enter c ac p) Q h):af w bp ah (PySem.run c ac) Q h:=λs p e1 e2 aP=>by
 refine G (Sem.wp_run ..) (GI (λr aS y=>?_) (x p s p e1 e2 aP))
 refine kS y λf aj9 a b=>?_;obtain rfl:=aj9
 exact⟨a,b⟩
theorem af.runOwn{Z:Env}{Q:nq->bq->Prop}(x:∀p,kh w bp (ah.enter c ac p) Q h):af w bp ah (PySem.runOwn c Z ac) Q h:=
 af.onRaise (af.run x)
end
theorem TZ{M:qg}{A:k4}{E:aG->cs->Prop}{s:cs}{a:a1}{m}{name:Str}{v:aG}{Q:Unit->cs->Prop}(hn:s.heap.Ns a m)
  (q:∀av,av.Ns a (λx=>if x=name then J v else m x)->zz a s.heap av->(∀o,s.heap.get? a=J o->∃o',av.get? a=J o'/\o'.cls=o.cls)->Q () {s with heap:=av,toks:=s.toks+1}):
  cN M A (nsSet a name v) Q E s:=by
 refine tZ (id hn) λo aH ii aR bA hk bc=>?_
 have key:∀oj:Unit->cs->Prop,∀ah p,ah.In A->(gN M ah (nsSet a name v) (λu _ aS=>oj u aS) (λe _ aS=>E e aS) p s↔oj () {s with heap:=s.heap.update a (zA name (if name.cps.isEmpty then 0 else reduceHash (M.w.params.strHash name.cps)) (.str name s.toks) v),toks:=s.toks+1}):=λoj ah p _=>by
  simp only [nsSet,strHash,wB,Sem.wp_cmd_ask,Sem.wp_pure',Sem.wp_cmd_mkText];refine G (Sem.wp_loadPart_of M ah _ p {s with toks:=s.toks+1} (o:=o) _ aR ..) ?_
  have aeC:aH.any (·.refKey)=aA:=by
   refine fB Array.any_eq_false' ?_;intro e bl;refine oX (hk e bl) λn t h=>?_;simp [NF,h]
  simp only [bA,aRefKeyMayBeTheName_eq,aRefKeyMayBeTheNameByArray,aeC,Bool.and_false,ng,if_false,Sem.wp_cmd_updatePart];exact⟨λz=>z.2,λz=>⟨G aR rfl,z⟩⟩
 intro ah p I6;refine fB (key Q ah p I6) ?_;have k2:=(key (λ_ aS=>aS.heap.Ns a (λx=>if x=name then J v else m x)/\zz a s.heap aS.heap) ah p I6).mp (wpAny_nsSet hn (λav x y=>⟨x,y⟩) ah p I6)
 refine q _ k2.1 k2.2 λo' e=>?_
 rw [aR] at e;obtain rfl:=ci e;obtain⟨c,d,dt,sl⟩:=o;subst bA;have kt:∀(z:Int) (y:aG),(zA name z y v ⟨c,d,.dict aH ii,sl⟩).isFreed=aA/\(zA name z y v ⟨c,d,.dict aH ii,sl⟩).cls=c:=λz y=>by
  unfold zA;dsimp only;split<;>exact⟨rfl,rfl⟩
 exact⟨_,sZ _ aR (kt _ _).1,(kt _ _).2⟩
theorem fW.apart(x:fW Θ ρ H h){X:List a1}(f4:∀b∈X,¬gQ ρ b/\Θ.h₀.get? b=ac)(k:∀b o,b∉X->h.get? b=J o->av.get? b=J o)
  (Jp:∀b o aH n,b∈X->h.get? b=J o->o.data=.dict aH n->∃o' aH n,av.get? b=J o'/\o'.cls=o.cls/\o'.data=.dict aH n):fW Θ ρ H av:=by
 refine⟨x.len,λb o e=>k b o (λz=>?_) (x.old b o e),x.low,x.sep,λi p o e1 e2=>(x.obj i p o e1 e2).keeps (λo e=>k _ o (λz=>(f4 _ z).1 ⟨i,p,e1,.inl rfl⟩) e) λo e=>k _ o (λz=>(f4 _ z).1 ⟨i,p,e1,.inr rfl⟩) e,λb hb=>?_⟩
 ·have :=(f4 b z).2;rw [e] at this;exact br this.symm
 ·refine dS (x.frm b hb) λch aka cd=>?_;obtain⟨o,e,c,aH,n,dd⟩:=aka
  refine⟨ch,?_,cd⟩;by_cases bc:b∈X
  ·exact E1 (Jp b o aH n bc e dd) λo' adg JK cT c' ace=>⟨o',cT,c'.trans c,adg,JK,ace⟩
  ·exact⟨o,k b o bc e,c,aH,n,dd⟩
theorem afS(e:hZ Z.scope.names x=ae):Z.kindOf x=J .local \/Z.kindOf x=J .cell:=by
 have j5:Z.kindOf x=cy Z.scope.names x:=(pF x _).symm;exact G j5 (((t8 _ _).mp e).imp eq_of_beq eq_of_beq)
theorem aoE{v:L}{aJ:aG}(ok:bz Θ.fs d ah)(a:bD Θ Z ρ m H h)(aO:hZ Z.scope.names x=ae)(r:bg ρ v aJ):
  aa Θ ah Z ρ (storeName Z x aJ) (λ_ cb bV bb=>cb=ρ/\bV=fA m x v/\bb=H) h:=by
 refine aa.any ok λA s a6 bA bU e1 e2 aP=>?_
 subst e1;have cp:∀ {av:bq},(∀b o,b∉own Z->s.heap.get? b=J o->av.get? b=J o)->(∀b o aH n,b∈own Z->s.heap.get? b=J o->o.data=.dict aH n->∃o' aH n,av.get? b=J o'/\o'.cls=o.cls/\o'.data=.dict aH n)->s.heap.objs.size=av.objs.size->zj Z ρ (fA m x v) av->
   d4 Θ Z ρ s.heap (λ(_:Unit) cb bV bb=>cb=ρ/\bV=fA m x v/\bb=H) () av:=λk Jp hs f=>
  ⟨ρ,_,H,⟨a.rel.apart (λb hb=>⟨(a.out b hb).1,(a.out b hb).2.1⟩) k Jp,f,λb hb=>⟨(a.out b hb).1,(a.out b hb).2.1,hs▸(a.out b hb).2.2⟩⟩,
   ⟨.refl _,λi p e hi=>absurd e (by refine G (mP hi) ?_;simp),λb o e _ hb=>.of (k b o hb e),iB hs⟩,rfl,rfl,rfl⟩
 rcases afS aO with hk|hk
 ·refine bT a.fr.ns λnm hn lu=>?_
  refine G (storeName_local hk (by rw [a.fr.kind];rfl) ..) ?_
  refine TZ hn (λav lm hj jH=>⟨cp (λb o hb e=>(hj.2 b λz=>hb (z▸fK)).trans e) (λb o aH n hb e dd=>?_) hj.1.symm ⟨a.fr.kind,a.fr.glob,a.fr.blt,⟨_,lm,λy u hy bU=>?_⟩,λy c aD=>?_,a.fr.has,a.fr.apart,a.fr.napart⟩,e2,aP⟩)
  ·by_cases z:b=Z.locals
   ·subst z;refine bT (jH o e) λo' d1 g2=>E1 (id lm) λel adh ac8 hx u9 _=>?_
    rw [d1] at hx;obtain rfl:=ci hx;exact⟨o',adh,ac8,d1,g2,u9⟩
   ·exact⟨o,aH,n,(hj.2 b z).trans e,rfl,dd⟩
  ·rw [qO] at bU;by_cases q:y=x
   ·rw [aY q] at bU⊢;obtain rfl:=ci bU;exact⟨_,rfl,r⟩
   ·rw [a8 q] at bU⊢;exact lu y u hy bU
  ·refine bT (a.fr.cell y c aD) λkb hv sg=>⟨kb,hv.sameBut hj (a.fr.napart _ (mem_of_lookup aD)),λu xb bU=>?_⟩
   rw [qO] at bU;by_cases q:y=x
   ·rw [q] at xb;exact absurd hk xb
   ·rw [a8 q] at bU;exact sg u xb bU
 ·refine cm (sV.mp (a.fr.has x (.inl hk))) λc aD=>bT (a.fr.cell x c aD) λkb Dy lu=>?_
  have bc:=mem_of_lookup aD;refine wpAny_storeName_cell a.fr.kind hk aD Dy λav jH hj=>⟨cp (λb o hb e=>(hj.2 b λz=>hb (z▸f8 _ (rr (f:=(·.2)) bc))).trans e) (λb o aH n hb e dd=>⟨o,aH,n,(hj.2 b λz=>?_).trans e,rfl,dd⟩) hj.1.symm ⟨a.fr.kind,a.fr.glob,a.fr.blt,?_,λy c' hy=>?_,a.fr.has,a.fr.apart,a.fr.napart⟩,e2,aP⟩
  ·refine bT Dy λel d1 g2=>?_
   subst z;rw [e] at d1;obtain rfl:=ci d1;rw [dd] at g2;cases g2
  ·refine bT a.fr.ns λnm hn b9=>⟨nm,hn.sameBut hj (λz=>a.fr.napart _ bc z.symm),λy u hy bU=>b9 y u hy ?_⟩
   rw [qO] at bU;by_cases q:y=x
   ·rw [q,hk] at hy;cases hy
   ·rwa [a8 q] at bU
  ·by_cases q:y=x
   ·subst q;rw [aD] at hy;obtain rfl:=ci hy;refine⟨_,jH,λu xb bU=>?_⟩
    rw [qO,aY rfl] at bU;obtain rfl:=ci bU;exact⟨_,rfl,r⟩
   ·refine bT (a.fr.cell y c' hy) λgK afq b9=>⟨gK,afq.sameBut hj (λz=>q (Gx a.fr.apart (mem_of_lookup hy) (z▸bc))),λu xb bU=>?_⟩
    rw [qO,a8 q] at bU;exact b9 u xb bU
theorem vJ{v:L}{aJ:aG}(ok:bz Θ.fs d ah)(a:bD Θ Z ρ m H h)(aO:hZ Z.scope.names x=ae)(r:bg ρ v aJ):
  aa Θ ah Z ρ (wD Z x aJ) (λ_ cb bV bb=>cb=ρ/\bV=fA m x v/\bb=H) h:=
 af.bind (af.holding (af.point (af.bind (af.mono (aoE ok a aO r) λ_ ai q=>af.point q))))
def iN(Θ:fa)(C:mL)(d:Nat)(t:aU):Prop:=∀ {ah Z ρ m H h} {v:L} {aJ:aG} {k:Loc->an->Prop},bz Θ.fs (d+4) ah->bD Θ Z ρ m H h->bg ρ v aJ->sr False C t v Z.scope.names m H k->aa Θ ah Z ρ (assign t Z aJ) (λ_ _ bV bb=>k bV bb) h
theorem iN.name{x pos}:iN Θ C d (.Name x pos):=λ{ah Z ρ m H h v aJ k} ok a r w=>by
 rw [LZ] at w;exact qH w λaO w=>G (PySem.assign_Name ..) (.stand ((vJ ok a aO r).mono λ_ bG dF bI eH=>dS eH λaM a7 q3=>a7▸q3▸w))
theorem iN.attr{o n pos}(aR:cE Θ C d o)(hn:rP.contains n=ae):iN Θ C d (.Attribute o n pos):=λ{ah Z ρ m H h v aJ k} ok a r w=>by
 rw [aqW] at w;have dg:assign (.Attribute o n pos) Z aJ=(gO [aJ] (eval o Z)>>=λeM=>gw pos.atName>>=λ_=>gO [aJ,eM] (setAttr eM n aJ)>>=λ_=>zF [aJ,eM] []):=rfl
 refine G dg (.bindV (.holding (aR ok a w)) λo' eM bG bI ai bL cP b9 bE=>.stand ?_)
 set_option smartUnfolding false in refine jM bE λcM e bE=>?_
 exact .bindU (.holding (Rs hn ok bL b9 (r.sub cP) e)) λ_ du ak cX d6=>af.release (.now cX bE)
theorem iN.subscript{o i pos}(aR:cE Θ C d o)(hi:om Θ C d i):iN Θ C d (.Subscript o i pos):=λ{ah Z ρ m H h v aJ k} ok a r w=>by
 rw [aqX] at w;refine G (PySem.assign_Subscript ..) (.bindV (.holding (aR ok a w)) λo' eM bG bI ai bL cP b9 bE=>af.holdBind (hi ok bL bE λix eL du cM ak cX d6 dG ea=>.stand ?_))
 set_option smartUnfolding false in refine jM ea λcg e ea=>?_
 exact .bindU (.holding (ag0 ok cX (b9.sub d6) dG (r.sub (cP.trans d6)) e)) λ_ kf aZ fx hN=>af.release (.now fx ea)
theorem OV:∀ {aH:List aU},(∀e∈aH,iN Θ C d e)->gA aH=ae->∀ {ah Z ρ m H h} {vs:List L} {vs':List aG} {k:Loc->an->Prop},bz Θ.fs (d+4) ah->bD Θ Z ρ m H h->All2 (bg ρ) vs vs'->
  vY False C aH vs Z.scope.names m H k->vs.length=aH.length->aa Θ ah Z ρ (uH ((qj aH Z).map (·.2)) vs') (λ_ _ bV bb=>k bV bb) h
 | []=> @λ_ _ ah Z ρ m H h vs vs' k ok a r w aQ=>by
  rw [T5] at w;induction r using Mine.Internal.All2.casesOn with
  |nil=>exact aa.pure a w
  |cons _ _=>simp at aQ
 |e::aH=> @λbl hn ah Z ρ m H h vs vs' k ok a r w aQ=>by
  rw [L0] at w;induction r using Mine.Internal.All2.casesOn with
  |nil=>exact w.elim
  | @cons v aJ vs vs' lu r=>
   have lm:gA aH=ae:=by unfold gA at hn⊢;rw [wk,he] at hn;exact hn.2
   have dg:uH ((qj (e::aH) Z).map (·.2)) (aJ::vs')=(gO vs' (assign e Z aJ)>>=λ_=>uH ((qj aH Z).map (·.2)) vs'):=by
    rcases e<;>first |rfl|(unfold gA at hn;rw [wk,he] at hn;cases hn.1)
   exact G dg (.bind (.holding (bl e fK ok a lu w)) λ_ bG dF bI ai bL cP bE=>OV (λe h=>bl e (f8 _ h)) lm ok bL (r.mono λ_ _ r=>r.sub cP) bE (by simpa using aQ))
theorem H2:∀ {aH:List aU} {Z:Env},gA aH=ae->(qj aH Z).length=aH.length/\(qj aH Z).findIdx? (·.1)=ac
 | [],_,_=>⟨rfl,rfl⟩
 |e::aH,Z,hn=>by
  have lm:gA aH=ae:=by unfold gA at hn⊢;rw [wk,he] at hn;exact hn.2
  refine cz (H2 (Z:=Z) lm) λa b=>?_
  have dg:qj (e::aH) Z=(aA,assign e Z)::qj aH Z:=by
   rcases e<;>first |rfl|(unfold gA at hn;rw [wk,he] at hn;cases hn.1)
  refine G dg (⟨by(exact G sN (G a (G sN rfl))),G List.findIdx?_cons (G b rfl)⟩)
set_option tactic.hygienic true in
theorem iN.tuple{aH n pos}(bl:∀e∈aH,iN Θ C d e)(hn:gA aH=ae):iN Θ C d (.Tuple aH n pos):=λ{ah Z ρ m H h v aJ k} ok a r w=>by
 rw [T4] at w;split at w
 ·rename_i v j;split at w
  ·rename_i l e;split at w
   ·rename_i aQ;show aa Θ ah Z ρ (gw pos>>=λ_=>unpack aJ (qj aH Z)) _ h
    unfold unpack;refine G ((H2 hn).1) (G ((H2 hn).2) (cU aQ ?_));refine .stand (.bindR (.holding (Jy ok a r e)) λitems bG ai bL cP q3=>?_)
    exact OV bl hn ok bL q3 w aQ
   ·exact w.elim
  ·exact w.elim
 ·exact w.elim
end
variable {x:Str}
theorem bD.congr{bV:Loc}(a:bD Θ Z ρ m H h)(e:∀x,cy bV x=cy m x):bD Θ Z ρ bV H h:=by
 refine⟨a.rel,⟨a.fr.kind,a.fr.glob,a.fr.blt,?_,λx c aD=>?_,a.fr.has,a.fr.apart,a.fr.napart⟩,a.out⟩
 ·exact bT a.fr.ns λnm hn r=>⟨nm,hn,λx v hk aQ=>r x v hk (e x▸aQ)⟩
 ·exact bT (a.fr.cell x c aD) λkb hv r=>⟨kb,hv,λv hk aQ=>r v hk (e x▸aQ)⟩
noncomputable def adH(ρ:cq):jw->nq->Prop
 | .next,f=>f=.next
 | .brk,f=>f=.brk
 | .cont,f=>f=.cont
 | .ret v,f=>∃aJ,f=.ret aJ/\bg ρ v aJ
abbrev BU(k:jw->Loc->an->Prop):nq->cq->Loc->an->Prop:=λf' cb bV bb=>∃f,adH cb f f'/\k f bV bb
def ec(Θ:fa)(C:mL)(d:Nat)(s:cD):Prop:=∀ {ah Z ρ m H h} {k:jw->Loc->an->Prop},bz Θ.fs (d+4) ah->bD Θ Z ρ m H h->wpS False C s Z.scope.names m H k->aa Θ ah Z ρ (exec s Z) (BU k) h
def km(Θ:fa)(C:mL)(d:Nat)(ss:List cD):Prop:=∀ {ah Z ρ m H h} {k:jw->Loc->an->Prop},bz Θ.fs (d+4) ah->bD Θ Z ρ m H h->b1 False C ss Z.scope.names m H k->aa Θ ah Z ρ (execs ss Z) (BU k) h
theorem km.nil:km Θ C d []:=λok a w=>by rw [ary] at w;exact aa.pure a ⟨.next,rfl,w⟩
theorem km.cons{s ss}(hs:ec Θ C d s)(c9:km Θ C d ss):km Θ C d (s::ss):=λ{ah Z ρ m H h k} ok a w=>by
 rw [Ub] at w;refine G (CB ..) (.bind (hs ok a w) λf' bG dF bI ai bL cP cV=>?_)
 refine bT cV λf r bE=>?_
 induction f using Mine.Internal.jw.casesOn with
 |next=>cases r;exact c9 ok bL bE
 |brk=>cases r;exact .pure bL ⟨.brk,rfl,bE⟩
 |cont=>cases r;exact .pure bL ⟨.cont,rfl,bE⟩
 |ret v=>obtain⟨aJ,e,r⟩:=r;cases e;exact .pure bL ⟨.ret v,⟨aJ,rfl,r⟩,bE⟩
theorem ec.pass{pos}:ec Θ C d (.Pass pos):=λ{ah Z ρ m H h k} ok a w=>by
 rw [aru] at w;exact aa.stand (f:=λ_=>(bK sY:Sem nq)) (.pure a ⟨.next,rfl,w⟩)
theorem ec.brk{pos}:ec Θ C d (.Break pos):=λ{ah Z ρ m H h k} ok a w=>by
 rw [arp] at w;exact aa.stand (f:=λ_=>(bK Flow.brk:Sem nq)) (.pure a ⟨.brk,rfl,w⟩)
theorem ec.ret0{pos}:ec Θ C d (.Return ac pos):=λ{ah Z ρ m H h k} ok a w=>by
 rw [arv] at w;exact aa.stand (f:=λ_=>(bK (Flow.ret .none):Sem nq)) (.pure a ⟨.ret .none,⟨.none,rfl,rfl⟩,w⟩)
theorem ec.ret{e pos}(bl:cE Θ C d e):ec Θ C d (.Return (J e) pos):=λ{ah Z ρ m H h k} ok a w=>by
 rw [arw] at w;refine G (exec_Return_some ..) (.stand (.bindV (bl ok a w) λaJ v bG bI ai bL cP b9 bE=>?_))
 exact .pure bL ⟨.ret v,⟨aJ,rfl,b9⟩,bE⟩
theorem RS(a:bD Θ Z ρ m H h):interactive Z=aA:=by unfold interactive;exact G a.fr.kind rfl
noncomputable def C8(pos:Pos):Sem nq:=do gw pos;let _ <-runValue (.builtin "proto.let_go" {});bK .next
theorem acz{e:aU}{pos:Pos}{v:aG}:Cz e pos v=bK .next\/Cz e pos v=Cz TI pos v:=by
 rcases e<;>first |exact .inl (rfl:_=bK sY)|exact .inr (by kernel_rfl)
theorem acA{e:aU}{pos:Pos}{v:aG}:Cz e pos v=bK .next\/Cz e pos v=C8 pos:=by
 rcases acz (e:=e) (pos:=pos) (v:=v) with e|e
 ·exact .inl e
 ·refine G e ?_;rcases v<;>first |exact .inl (rfl:_=bK sY)|exact .inr rfl
theorem ec.expr{e pos}(bl:cE Θ C d e)(I1:∀Z,s7 e ac pos.line Z=bK aA):ec Θ C d (.Expr e pos):=λ{ah Z ρ m H h k} ok a w=>by
 rw [arr] at w;refine G (PySem.exec_Expr Z e pos (RS a) (I1 Z)) (.stand (.bindV (bl ok a w) λaJ v bG bI ai bL cP b9 bE=>?_))
 rcases acA (e:=e) (pos:=pos) (v:=aJ) with e|e<;>(refine G e ?_)
 ·exact .pure bL ⟨.next,rfl,bE⟩
 ·refine .stand (.bindU (Rq ok bL) λ_ du ak cX d6=>?_)
  exact .pure cX ⟨.next,rfl,bE⟩
theorem ec.ite{t a b pos}(ce:ST Θ C d t)(ha:km Θ C d a)(hb:km Θ C d b):ec Θ C d (.If t a b pos):=λ{ah Z ρ m H h k} ok gk w=>by
 rw [art] at w;refine G (exec_If ..) (.stand (.bindB (ce ok gk w) λc bG bI ai bL cP bE=>?_))
 induction c using t5 with
 |true=>exact ha ok bL bE
 |false=>exact hb ok bL bE
theorem ec.tri{a hs pos}(ha:km Θ C d a):ec Θ C d (.Try a hs [] [] pos):=λ{ah Z ρ m H h k} ok gk w=>by
 rw [arx] at w;show aa Θ ah Z ρ (gw pos>>=λ_=>tryStmt aA (execs a Z) hs (execs [] Z) [] Z) _ h
 refine .stand (af.bind (af.attempt (af.mono (ha ok gk w) λf' ai cV=>?_)))
 obtain⟨bG,dF,bI,bL,ch,f,r,bE⟩:=cV;induction f using Mine.Internal.jw.casesOn with
 |next=>cases r;exact af.pure ⟨bG,dF,bI,bL,ch,.next,rfl,bE⟩
 |brk=>cases r;exact af.pure ⟨bG,dF,bI,bL,ch,.brk,rfl,bE⟩
 |cont=>cases r;exact af.pure ⟨bG,dF,bI,bL,ch,.cont,rfl,bE⟩
 |ret v=>obtain⟨aJ,e,r⟩:=r;cases e;exact af.pure ⟨bG,dF,bI,bL,ch,.ret v,⟨aJ,rfl,r⟩,bE⟩
theorem acS{t:aU}{Z:Env}:gA [t]=ae->qj [t] Z=[(aA,PySem.assign t Z)]:=by
 rcases t<;>first |exact λ_=>(rfl:_=[(aA,PySem.assign _ Z)])|exact λh=>b8 h
theorem ec.assign{t e pos}(bl:cE Θ C d e)(ce:iN Θ C d t)(hn:gA [t]=ae)(I1:∀Z,s7 e (J t) pos.line Z=bK aA)(afl:∀Z,wG [t] e Z=bK ac):ec Θ C d (.Assign [t] e pos):=λ{ah Z ρ m H h k} ok a w=>by
 rw [L3] at w;have dg:exec (.Assign [t] e pos) Z=(gw pos>>=λ_=>s7 e (J t) pos.line Z>>=λb=>if b then(evalThenUse e Z λv=>assignAll v ((qj [t] Z).map (·.2)))>>=λ_=>bK .next else
  eval e Z>>=λv=>wG [t] e Z>>=λvL=>Gp Z v vL ((qj [t] Z).map (·.2))):=rfl
 refine G (dg ..) (G (I1 ..) (G (afl ..) (G (acS hn) ?_)));simp only [zk,ng,if_false];refine .stand (.bindV (bl ok a w) λaJ v bG bI ai bL cP b9 bE=>?_)
 show aa Θ ah Z bG (PySem.assign t Z aJ>>=λ_=>bK sY) _ ai
 exact .bind (ce ok bL b9 bE) λ_ du m cM ak cX d6 ea=>.pure cX ⟨.next,rfl,ea⟩
theorem ec.del{o i pos SM}(aR:cE Θ C d o)(hi:cE Θ C d i):ec Θ C d (.Delete [.Subscript o i SM] pos):=λ{ah Z ρ m H h k} ok a w=>by
 rw [arq,aq0] at w;show aa Θ ah Z ρ (gw pos>>=λ_=>((eval o Z>>=λeM=>gO [eM] (eval i Z)>>=λtM=>gw SM>>=λ_=>gO [eM,tM] (zD eM tM)>>=λ_=>zF [eM,tM] [])>>=λ_=>bK ())>>=λ_=>bK sY) _ h
 simp only [uv];refine .stand (.bindV (aR ok a w) λo' eM bG bI ai bL cP b9 bE=>?_)
 refine .bindV (.holding (hi ok bL bE)) λeL tM du cM ak cX d6 dG ea=>.stand ?_
 set_option smartUnfolding false in refine jM ea λcg e ea=>?_
 exact .bindU (.holding (agR ok cX (b9.sub d6) dG e)) λ_ kf aZ fx hN=>.release (.pure fx ⟨.next,rfl,ea⟩)
theorem SB{ay bF:Type}{o:Option (ay×bF)}{P:ay×bF->Prop}{aa:Prop}(w:n9 (motive:=λ_=>Prop) o False P)(k:∀a b,o=J (a,b)->P (a,b)->aa):aa:=jM w λc e w=>k c.1 c.2 e w
theorem ec.augName{x air bM e pos}(bl:cE Θ C d e):ec Θ C d (.AugAssign (.Name x air) bM e pos):=λ{ah Z ρ m H h k} ok a w=>by
 rw [arn] at w;refine G (exec_AugAssign_Name ..) ?_;set_option smartUnfolding false in refine jM w λaqq mV w=>?_
 refine .stand (.bindR (Bm ok a mV) λda bG ai bL cP q3=>?_)
 refine .bindV (.holding (bl ok bL w)) λck aqr du cM ak cX d6 dG ea=>.stand ?_
 set_option smartUnfolding false in refine SB ea λv cg fc ea=>?_
 refine qH ea λhi pR=>cz (fm hi) λvf vg=>DC vf λafG Mp=>DC vg λafH Mq=>?_
 subst Mp Mq
 ·refine qH pR λaO ea=>cz (fm aO) λhop aO=>.bindR (.operate (Rp hop ok cX (q3.sub d6) dG fc)) λaJ kf aZ fx hN iF=>.stand (.bind (vJ ok fx aO iF) λ_ q9 m eP cC ko xB cV=>?_)
  refine dS cV λaM a7 vC=>?_
  subst aM a7 vC;exact .pure ko ⟨.next,rfl,ea⟩
theorem ec.augAttr{o n El bM e pos}(aR:cE Θ C d o)(hn:rP.contains n=ae)(bl:cE Θ C d e):ec Θ C d (.AugAssign (.Attribute o n El) bM e pos):=λ{ah Z ρ m H h k} ok a w=>by
 rw [aro] at w;have dg:exec (.AugAssign (.Attribute o n El) bM e pos) Z=(gw pos>>=λ_=>eval o Z>>=λeM=>gO [eM] (gw El.atName>>=λ_=>getAttr eM n ae>>=λnI=>gO [nI] (eval e Z)>>=λv=>gw pos>>=λ_=>operate [nI,v] (inplaceOp bM nI v))>>=λnew=>
  gw El.atName>>=λ_=>gO [new,eM] (setAttr eM n new)>>=λ_=>zF [new,eM] []>>=λ_=>bK .next):=rfl
 refine G dg (.stand (.bindV (aR ok a w) λo' eM bG bI ai bL cP b9 bE=>af.holdBind ?_))
 simp only [uv];refine aa.stand ?_;set_option smartUnfolding false in refine jM bE λaqq mV bE=>?_
 refine aa.bindR (Rn hn ok bL b9 mV) λda du ak cX d6 q3=>.bindV (.holding (bl ok cX bE)) λck aqr kf cg aZ fx hN gJ js=>.stand ?_
 set_option smartUnfolding false in refine SB js λv eD fc js=>?_
 refine qH js λhi pR=>cz (fm hi) λvf vg=>DC vf λafG Mp=>DC vg λafH Mq=>?_
 subst Mp Mq
 ·refine qH pR λhop js=>?_
  set_option smartUnfolding false in refine jM js λeP aH js=>?_
  refine .bindR (.operate (Rp hop ok fx (q3.sub hN) gJ fc)) λaJ q9 cC ko xB iF=>.stand (.bind (.holding (Rs hn ok ko (b9.sub (d6.trans (hN.trans xB))) iF aH)) λ_ pY m dr gl pj Tc cV=>?_)
  refine cz cV λaM a7=>?_
  subst aM a7;exact .release (.pure pj ⟨.next,rfl,js⟩)
section
variable {hi lo:Nat}{t:aU}
theorem bz.zero{a9:List a1}(ok:bz a9 n ah)(c c':lH)(p:Pos)(aD:qP c'=ae)(j7:c'.weight=0)(bU:c'.cUnits=0)(aq:c'.isFrame=aA:=by rfl):bz a9 n ((ah.enter c ac p).goto c'):=by
 obtain⟨⟨A,a,q,b,k⟩,d,e,aB⟩:=ok;refine⟨⟨(A.mark ac).under c',((a.enter c ac p (by intro x;exact br x)).goto c').in,?_,?_,?_⟩,aD,λx aO=>?_,λZ aO=>?_⟩
 ·exact q
 ·show A.depth+c'.weight+2*n<990;exact lt_of_eq_of_lt (congrFun (congrArg FR (congrArg (FR A.depth) j7)) (2*n)) b
 ·show A.units+c'.cUnits+40*n<9800;exact lt_of_eq_of_lt (congrFun (congrArg FR (congrArg (FR A.units) bU)) (40*n)) k
 ·rcases fw.mp aO with rfl|aO
  ·exact d
  ·exact e x aO
 ·rcases md.mp aO with aO|aO
  ·have aO:Z∈c'.envs:=aO;unfold Code.envs at aO;rw [aq] at aO;rcases aO
  ·exact aB Z (by(rw [<-envsOf_cons]);exact aO)
theorem kh.mono{w:eS}{bp:gv}{R N1:nq->bq->Prop}(x:kh w bp ah R h)(k:∀f av,R f av->N1 f av):kh w bp ah N1 h:=λs p e1 e2 aP=>
 GI (λr aS eH=>kS eH λf a b c=>⟨f,a,k _ _ b,c⟩) (x s p e1 e2 aP)
theorem aqN{a:List cD}{c0:lH}{p0:Pos}(ce:ST Θ C d t)(ha:km Θ C d a)(ok:bz Θ.fs (d+4) ah){k:jw->Loc->an->Prop}(n:Nat):∀ {ρ m H h},bD Θ Z ρ m H h->
  l3 False (λm H q=>ge False C t (λH k=>bO False C t Z.scope.names m H k) Z.scope.names m H q) (λm H q=>b1 False C a Z.scope.names m H q) n m H k->
  kh Θ.w Θ.O ((ah.enter c0 ac p0).goto (.whileLoop t a [] Z)) (d4 Θ Z ρ h (BU k)) h:=by
 induction n with
 |zero=>
  intro ρ m H h a0 w;exact MC w
 |succ n ih=>
  intro ρ m H h a0 w;have hM:bz Θ.fs (d+4) ((ah.enter c0 ac p0).goto (.whileLoop t a [] Z)):=ok.zero _ _ _ rfl rfl rfl;refine kh.tree rfl (af.onRaise (af.bind (af.mono (ce hM a0 w) λb ai cV=>?_)))
  obtain⟨bG,dF,bI,bL,ch,aM,bE⟩:=cV;subst aM;induction b using t5 with
  |false=>exact af.bv (λ_=>af.pure) (af.pure ⟨bG,dF,bI,bL,ch,.next,rfl,bE⟩)
  |true=>
   refine af.bind (af.mono (ha hM bL bE) λf' ak cV=>?_)
   obtain⟨du,jK,cM,cX,cd,f,r,ea⟩:=cV;induction f using Mine.Internal.jw.casesOn with
   |next=>cases r;exact af.again ⟨rfl,(ih cX ea).mono λ_ _ x=>x.go (f:=ch.trans cd)⟩
   |cont=>cases r;exact af.again ⟨rfl,(ih cX ea).mono λ_ _ x=>x.go (f:=ch.trans cd)⟩
   |brk=>cases r;exact af.pure ⟨du,jK,cM,cX,ch.trans cd,.next,rfl,ea⟩
   |ret v=>obtain⟨aJ,e,r⟩:=r;cases e;exact af.pure ⟨du,jK,cM,cX,ch.trans cd,.ret v,⟨aJ,rfl,r⟩,ea⟩
theorem ec.loop{t a pos}(ce:ST Θ C d t)(ha:km Θ C d a):ec Θ C d (.While t a [] pos):=λ{ah Z ρ m H h k} ok a0 w=>by
 rw [Ua] at w;exact G (exec_While ..) (.stand (af.runOwn λp=>aqN (c0:=.whileLoop t a [] Z) ce ha ok _ a0 w))
def qp(Θ:fa)(Z:Env)(ρ:cq)(lo hi:Nat)(h av:bq):Prop:=(∀b o,(b<lo\/hi<=b\/gQ ρ b\/b∈own Z\/(Θ.h₀.get? b).isSome=ae\/b∈Θ.fs)->h.get? b=J o->av.get? b=J o)/\h.objs.size<=av.objs.size
theorem bD.steps(a:bD Θ Z ρ m H h)(s:qp Θ Z ρ lo hi h av):bD Θ Z ρ m H av:=by
 refine⟨⟨a.rel.len,λb o e=>s.1 b o (.inr (.inr (.inr (.inr (.inl (G e rfl)))))) (a.rel.old b o e),a.rel.low,a.rel.sep,λi p o e1 e2=>(a.rel.obj i p o e1 e2).keeps (λo e=>s.1 _ o (.inr (.inr (.inl ⟨i,p,e1,.inl rfl⟩))) e) λo e=>s.1 _ o (.inr (.inr (.inl ⟨i,p,e1,.inr rfl⟩))) e,λb hb=>?_⟩,
  a.fr.move (.refl _) λb hb o e=>.of (s.1 b o (.inr (.inr (.inr (.inl hb)))) e),λb hb=>⟨(a.out b hb).1,(a.out b hb).2.1,eE (a.out b hb).2.2 s.2⟩⟩
 refine dS (a.rel.frm b hb) λch akb cd=>?_;refine bT akb λo e c=>?_
 exact⟨ch,⟨o,s.1 b o (.inr (.inr (.inr (.inr (.inr hb))))) e,c⟩,cd⟩
theorem d3.steps{X:List a1}{iu:cq}{bu:bq}(f:d3 X iu bu ρ h)(s:qp Θ Z ρ lo hi h av)(j6:bu.objs.size<=lo):d3 X iu bu ρ av:=
 ⟨f.sub,f.new,λb o e ai ak=>(f.keep b o e ai ak).trans λo' cT=>.of (s.1 b o' (.inl (eE (gE e) j6)) cT),cQ f.size s.2⟩
noncomputable def itR(ρ:cq)(h:bq):n3->aG->Prop
 | .one v,aJ=>bg ρ v aJ
 | .pair u v,aJ=>∃a ef ja,aJ=.ref a/\h.IsTuple a #[ef,ja]/\bg ρ u ef/\bg ρ v ja
structure wj(Θ:fa)(d:Nat)(Z:Env)(s:kI)(it:aG)(lo hi:Nat)(am:Nat->cq->bq->Prop)(U:Nat->aG->cq->bq->Prop):Prop where
 stable:∀ {k ρ m H h cb av X},bD Θ Z ρ m H h->am k ρ h->d3 X ρ h cb av->(∀b∈X,b∈own Z\/hi<=b)->am k cb av
 self:∀ {ah k ρ m H h},bz Θ.fs (d+4) ah->bD Θ Z ρ m H h->am k ρ h->af Θ.w Θ.O ah (pyIter it) (λDF av=>DF=it/\av=h) h
 step:∀ {ah k ρ m H h r},bz Θ.fs (d+4) ah->bD Θ Z ρ m H h->am k ρ h->itemAt s k H=J r->
  af Θ.w Θ.O ah (pyNext it) (λx av=>qp Θ Z ρ lo hi h av/\match r with |ac=>x=ac|J jI=>∃aJ,x=J aJ/\U (k+1) aJ ρ av/\itR ρ av jI aJ) h
 letgo:∀ {ah k ρ m H h jI aJ t ax bV},bz Θ.fs (d+4) ah->bD Θ Z ρ m H h->U (k+1) aJ ρ h->itemAt s k H=J (J jI)->itR ρ h jI aJ->eu ax t jI m H=J bV->
  af Θ.w Θ.O ah (NP t it aJ) (λ_ av=>qp Θ Z ρ lo hi h av/\am (k+1) ρ av/\itR ρ av jI aJ) h
theorem Ts{x y:Str}{ls xt:Pos}{u v:L}{ef aJ:aG}(ok:bz Θ.fs (d+4) ah)(a:bD Θ Z ρ m H h)(aO:hZ Z.scope.names x=ae)(hy:hZ Z.scope.names y=ae)(jO:bg ρ u ef)(f0:bg ρ v aJ):
  aa Θ ah Z ρ (uH [PySem.assign (.Name x ls) Z,PySem.assign (.Name y xt) Z] [ef,aJ]) (λ_ _ dF bI=>dF=fA (fA m x u) y v/\bI=H) h:=by
 have dg:uH [PySem.assign (.Name x ls) Z,PySem.assign (.Name y xt) Z] [ef,aJ]=(gO [aJ] (PySem.assign (.Name x ls) Z ef)>>=λ_=>gO [] (PySem.assign (.Name y xt) Z aJ)>>=λ_=>bK ()):=rfl
 refine G dg (G (PySem.assign_Name ..) (G (PySem.assign_Name ..) ?_));refine aa.bind (aa.holding (aa.stand (vJ ok a aO jO))) λ_ du jK cM ak cX d6 q=>?_
 refine dS q λaM a7 q3=>?_
 subst aM a7 q3;refine aa.bind (aa.holding (aa.stand (vJ ok cX hy f0))) λ_ kf A2 cg aZ fx hN q=>?_
 refine dS q λaM a7 q3=>?_
 subst aM a7 q3;exact aa.pure fx ⟨rfl,rfl⟩
set_option tactic.hygienic true in
theorem RQ{x:Str}:D0 t=J x->∃p,t=.Name x p:=by
 refine @mW (λt=>D0 t=J x->∃p,t=.Name x p) ?_ ?_ ?_ ?_ ?_ ?_ ?_ ?_ ?_ ?_ ?_ ?_ ?_ ?_ ?_ ?_ t<;>first |(intros;rename_i h;exact br h)|skip
 ·intro y p e;obtain rfl:=ci e;exact⟨p,rfl⟩
 ·exact λ_ q h=>br (q.symm.trans h)
theorem aih{l:List aU}{n:Str×Str}(e:JO l=J n):∃p q,l=[.Name n.1 p,.Name n.2 q]:=by
 rcases l with - |⟨a,- |⟨b,- |⟨c,l⟩⟩⟩
 ·exact br e
 ·exact br e
 ·refine gb e λx e1 e=>bT (ry.mp e) λy e2 e=>?_
  refine cm (RQ e1) λp akc=>?_;obtain rfl:=akc
  refine cm (RQ e2) λq ake=>?_;obtain rfl:=ake
  obtain rfl:=ci e;exact⟨p,q,rfl⟩
 ·exact br e
theorem aqu{l:List L}{w:L×L}(e:LQ l=J w):l=[w.1,w.2]:=by
 rcases l with - |⟨a,- |⟨b,- |⟨c,l⟩⟩⟩
 ·exact br e
 ·exact br e
 ·obtain rfl:=ci e;rfl
 ·exact br e
theorem afY{it:n3}{w:L×L}(e:DG it H=J w):it=.pair w.1 w.2\/ ∃j,it=.one (.new j)/\H[j]? =J (.tup [w.1,w.2]):=by
 induction it using Mine.Internal.n3.casesOn with
 |pair u v=>obtain rfl:=ci e;exact .inl rfl
 |one v=>
  refine gb e λj e1 e=>?_
  induction v using Mine.Internal.L.casesOn with
  |new i=>
   cases e1;refine .inr ⟨j,rfl,?_⟩;have e:Lj H[j]? =J w:=e;generalize H[j]? =o at e⊢;induction o using n9 with
   |none=>exact br e
   |some o=>induction o using Mine.Internal.bt.casesOn with
    |tup l=>(exact G (aqu (show LQ l=J w from e)) rfl)
    |_=>exact br e
  |_=>exact br e1
set_option tactic.hygienic true in
theorem G1{ax:ds}{it:n3}{bV:Loc}:eu ax t it m H=J bV->((∃x p v,t=.Name x p/\it=.one v/\hZ ax x=ae/\bV=fA m x v)\/ ∃(n:Str×Str) (p q:Pos) (m4:Nat) (sa:Pos) (w:L×L),t=.Tuple [.Name n.1 p,.Name n.2 q] m4 sa/\DG it H=J w/\(hZ ax n.1=ae/\hZ ax n.2=ae)/\bV=fA (fA m n.1 w.1) n.2 w.2):=by
 refine @mW (λt=>eu ax t it m H=J bV->((∃x p v,t=.Name x p/\it=.one v/\hZ ax x=ae/\bV=fA m x v)\/ ∃(n:Str×Str) (p q:Pos) (m4:Nat) (sa:Pos) (w:L×L),t=.Tuple [.Name n.1 p,.Name n.2 q] m4 sa/\DG it H=J w/\(hZ ax n.1=ae/\hZ ax n.2=ae)/\bV=fA (fA m n.1 w.1) n.2 w.2)) ?_ ?_ ?_ ?_ ?_ ?_ ?_ ?_ ?_ ?_ ?_ ?_ ?_ ?_ ?_ ?_ t<;>first |(intros;rename_i h;exact br h)|skip
 ·intro x p e;refine gb e λv e1 e=>?_
  rcases it with aJ|⟨_,_⟩
  ·obtain rfl:=ci e1;have e:(if hZ ax x then J (fA m x aJ) else ac)=J bV:=e
   exact dR e λaez e=>.inl ⟨x,p,aJ,rfl,rfl,aez,(ci e).symm⟩
  ·exact br e1
 ·intro l m4 sa e;refine gb e λn e1 aP=>gb aP λw e2 jD=>?_
  refine oX (aih e1) λp q akf=>?_;obtain rfl:=akf
  have e:(if hZ ax n.1&&hZ ax n.2 then J (fA (fA m n.1 w.1) n.2 w.2) else ac)=J bV:=jD
  exact dR e λaO e=>.inr ⟨n,p,q,m4,sa,w,rfl,e2,fm aO,(ci e).symm⟩
 ·exact λ_ q h=>br (q.symm.trans h)
theorem Tl{jI:n3}{aJ:aG}{bV:Loc}(ok:bz Θ.fs (d+4) ah)(a:bD Θ Z ρ m H h)(r:itR ρ h jI aJ)(e:eu Z.scope.names t jI m H=J bV):
  aa Θ ah Z ρ (PySem.assign t Z aJ) (λ_ _ dF bI=>dF=bV/\bI=H) h:=by
 rcases G1 e with⟨x,p,v,rfl,rfl,aO,rfl⟩|⟨n,ls,xt,m4,sa,w,rfl,e2,aO,rfl⟩
 ·exact G (PySem.assign_Name ..) (aa.stand ((vJ ok a aO r).mono λ_ bG dF bI eH=>dS eH λaM a7 q3=>⟨a7,q3⟩))
 ·have dg:PySem.assign (.Tuple [.Name n.1 ls,.Name n.2 xt] m4 sa) Z aJ=(gw sa>>=λ_=>gO [aJ] (CF aJ 2 ac)>>=λitems=>uH [PySem.assign (.Name n.1 ls) Z,PySem.assign (.Name n.2 xt) Z] items):=rfl
  refine G (dg ..) ?_;rcases afY e2 with rfl|⟨j,rfl,ej⟩
  ·refine tZ r λb ef ja akg ce jO nN=>?_;obtain rfl:=akg
   refine aa.stand (af.holdBind (aa.grow (R:=λitems _=>items=[ef,ja]) (af.mono (ag1 ok ce) λitems ai q=>⟨q.2,q.1⟩) λitems ai ex e1=>?_))
   subst e1;exact Ts ok (a.ext ex) aO.1 aO.2 jO nN
  ·have a2:=Jy (d:=d) (Z:=Z) (m:=m) ok a (show bg ρ (.new j) aJ from r) ej
   have ei:[w.1,w.2].length=2:=rfl;rw [ei] at a2;refine aa.stand (aa.bind (aa.holding a2) λitems bG dF bI ai bL cP q=>?_)
   refine dS q λaM a7 q3=>?_
   subst aM a7;refine kA q3.two λef ja iF jO nN=>?_
   subst iF;exact Ts ok bL aO.1 aO.2 jO nN
theorem adM{it:aG}{a:List cD}{c0:lH}{p0:Pos}{s:kI}{am:Nat->cq->bq->Prop}{U:Nat->aG->cq->bq->Prop}(X:wj Θ d Z s it lo hi am U)(ha:km Θ C d a)(ok:bz Θ.fs (d+4) ah){k:jw->Loc->an->Prop}:∀(n i:Nat) {ρ m H h} {iu:cq} {bu:bq},bD Θ Z ρ m H h->am i ρ h->
   d3 (own Z) iu bu ρ h->bu.objs.size<=lo->gR False Z.scope.names t (λm H q=>b1 False C a Z.scope.names m H q) s n i m H k->
   kh Θ.w Θ.O ((ah.enter c0 ac p0).goto (.forLoop t it a [] Z)) (d4 Θ Z iu bu (BU k)) h:=by
 intro n;induction n with
 |zero=>
  exact @λi ρ m H h iu bu a0 hi bY j6 w=>by
   exact MC w
 |succ n ih=>
  exact @λi ρ m H h iu bu a0 hi bY j6 w=>by
   rw [adL] at w;have hM:bz Θ.fs (d+4) ((ah.enter c0 ac p0).goto (.forLoop t it a [] Z)):=ok.zero _ _ _ rfl rfl rfl;refine kh.tree rfl (af.onRaise ?_);unfold forTurn;refine af.bv (λ_=>af.standAt) (af.bind (af.onRaise ?_))
   split at w
   ·exact w.elim
   ·rename_i e;refine af.mono (X.step hM a0 hi e) λx ai cV=>?_
    refine cz cV λst q=>?_
    subst q;refine af.again ⟨rfl,?_⟩;have Sy:bz Θ.fs (d+4) ((ah.enter c0 ac p0).goto (.block [] Z)):=ok.zero _ _ _ rfl rfl rfl;exact kh.tree rfl (af.bind (af.onRaise (af.pure (af.pure ⟨ρ,m,H,a0.steps st,bY.steps st j6,.next,rfl,w⟩))))
   ·rename_i jI e;refine af.mono (X.step hM a0 hi e) λx ai cV=>?_
    refine Mm cV λst aJ q vf sf=>?_
    subst q;have bL:=a0.steps st;have ch:=bY.steps st j6;set_option smartUnfolding false in refine jM w λbV fc w=>?_
    refine af.bind (af.mono (X.letgo hM bL vf e sf fc) λ_ ak cV=>?_)
    refine dS cV λEh vg KZ=>?_
    have cX:=bL.steps Eh;have cd:=ch.steps Eh j6;refine af.bind (af.mono (Tl hM cX KZ fc) λ_ aZ cV=>?_)
    obtain⟨kf,A2,cg,fx,ee,aM,a7⟩:=cV;subst aM a7;refine af.bind (af.mono (ha hM fx w) λf' cC cV=>?_)
    obtain⟨q9,A3,eD,ko,jE,f,r,pR⟩:=cV;have jF:=ee.trans jE;have Tu:=X.stable cX vg jF (λb hb=>.inl hb)
    induction f using Mine.Internal.jw.casesOn with
    |next=>cases r;exact af.again ⟨rfl,ih (i+1) ko Tu (cd.trans jF) j6 pR⟩
    |cont=>cases r;exact af.again ⟨rfl,ih (i+1) ko Tu (cd.trans jF) j6 pR⟩
    |brk=>cases r;exact af.pure ⟨q9,A3,eD,ko,cd.trans jF,.next,rfl,pR⟩
    |ret v=>obtain⟨aJ,e,r⟩:=r;cases e;exact af.pure ⟨q9,A3,eD,ko,cd.trans jF,.ret v,⟨aJ,rfl,r⟩,pR⟩
end
variable {hi lo:Nat}
section
variable {b c:Int}
def JG(Θ:fa)(Z:Env)(ρ:cq)(lo:Nat)(a:a1):Prop:=lo<=a/\ ¬gQ ρ a/\a∉own Z/\Θ.h₀.get? a=ac/\a∉Θ.fs
noncomputable def Eg(Θ:fa)(Z:Env)(ρ:cq)(H:an)(h:bq)(lo:Nat):kI->aG->Prop
 | .lst i,x=>bg ρ (.new i) x/\∃l,H[i]? =J (.list l)
 | .items l,x=>∃(a b c:Int) (t u v:Tok) (r:a1),x=.ref r/\l=qT a b c/\0<c/\cG a=ae/\cG b=ae/\c<1000000/\bH (b - a).toNat=ae/\JG Θ Z ρ lo r/\IsRange h r a b c t u v
 | .enum i,x=>∃r it p,x=.ref r/\JG Θ Z ρ lo r/\JG Θ Z ρ lo it/\r≠it/\(∃l,H[i]? =J (.list l))/\ρ[i]? =J p/\IsEnum h r it 0 .none/\h.IsListIter it p.1 0
theorem Qg{X:List a1}{cb:cq}{b:a1}{o:Obj}(f:d3 X ρ h cb av)(e:h.get? b=J o)(fh:¬gQ ρ b):¬gQ cb b:=λeH=>mF eH λi p cT z=>by
 have lt:h.objs.size>b:=gE e;by_cases aQ:ρ.length<=i
 ·have q:=f.new i p cT aQ;rcases z with z|z<;>rw [z] at lt<;>lia
 ·obtain⟨q,cI⟩:∃q,ρ[i]? =J q:=⟨_,iy (wq aQ)⟩;have :=f.sub.get cI;rw [cT] at this;obtain rfl:=ci this;exact fh ⟨i,p,cI,z⟩
theorem bD.fresh(a:bD Θ Z ρ m H h){b:a1}(hb:h.objs.size<=b):¬gQ ρ b/\b∉own Z/\Θ.h₀.get? b=ac/\b∉Θ.fs:=by
 refine⟨λeH=>mF eH λi p e z=>?_,λz=>?_,?_,λz=>?_⟩
 ·have :=a.rel.lt e;rcases z with z|z<;>rw [z] at hb<;>lia
 ·have :=(a.out b z).2.2;lia
 ·cases z:Θ.h₀.get? b with
  |none=>rfl
  |some o=>
   have hu:h.objs.size>b:=gE (a.rel.old _ _ z);lia
 ·refine dS (a.rel.frm b z) λ_ akQ _=>?_;refine bT akQ λo e _=>?_
  have hu:h.objs.size>b:=gE e;lia
theorem anJ{a:Int}(aD:0<c):((b - a+c - 1).fdiv c).toNat=(oe a b c).toNat:=by
 refine G (MH _ (zf aD)) ?_;unfold oe;refine G (aY aD) ?_;have e:b - a+c - 1=(b - a - 1)+c*1:=by lia
 refine G e (G (Int.add_mul_ediv_left _ _ (Cm (Int.ne_of_lt aD))) ?_);split
 ·rfl
 ·have :(b - a - 1)/c<0:=Int.ediv_neg_of_neg_of_pos (by lia) aD
  exact XN this
theorem anI{a:Int}(aD:0<c){k:Nat}:(qT a b c)[k]? =if(k:Int)<oe a b c then J (.int (a+c*k)) else ac:=by
 unfold qT;refine G (anJ aD) (G kY ?_);by_cases h:(k:Int)<oe a b c
 ·exact G (aY h) (G (B7 (Int.lt_toNat.mpr h)) rfl)
 ·exact G (a8 h) (G (mP (by simp;exact B5.mp h)) rfl)
theorem anL{a:Int}(aD:0<c)(jH:c<1000000)(ha:cG a=ae)(hb:cG b=ae):VC a b c=ae:=by
 have Qu:a.natAbs<2^62:=by simpa [cG] using ha
 have tD:b.natAbs<2^62:=by simpa [cG] using hb
 have hs:0<=oe a b c/\oe a b c<2^63:=by
  unfold oe;refine G (aY aD) ?_;split
  ·have ai:0<=(b - a - 1)/c:=Int.ediv_nonneg (by lia) (by lia)
   have ak:(b - a - 1)/c<=b - a - 1:=Int.ediv_le_self _ (by lia)
   exact XH Qu tD ai ak
  ·exact by decide
 unfold VC;simp only [Builtin.Range.rangeFitsLong,he,t8,decide_eq_true_eq,beq_iff_eq];refine G (aY aD) ?_;simp only [he,decide_eq_true_eq];refine⟨⟨⟨⟨?_,?_⟩,?_⟩,?_⟩,.inr ?_⟩<;>first |exact CM Qu|exact CM tD|exact⟨zg (by decide) hs.1,hs.2⟩|exact XK aD jH tD|lia
section iters
variable {de:Env}
structure oa(Θ:fa)(de:Env)(lo hi:Nat)(a:a1):Prop where
 lo:lo<=a
 hi:a<hi
 out:a∉own de
 old:Θ.h₀.get? a=ac/\a∉Θ.fs
theorem oa.ne(x:oa Θ de lo hi a)(fh:¬gQ ρ a){b:a1}(z:b<lo\/hi<=b\/gQ ρ b\/b∈own de\/(Θ.h₀.get? b).isSome=ae\/b∈Θ.fs):b≠a:=by
 rintro rfl
 rcases z with z|z|z|z|z|z
 ·exact jn _ (eE z x.lo)
 ·exact jn _ (eE x.hi z)
 ·exact fh z
 ·exact x.out z
 ·rw [x.old.1] at z;exact b8 z
 ·exact x.old.2 z
theorem oa.notX(x:oa Θ de lo hi a){X:List a1}(f4:∀b∈X,b∈own de\/hi<=b):a∉X:=λz=>by
 rcases f4 a z with z|z
 ·exact x.out z
 ·exact jn _ (eE x.hi z)
theorem oa.keep(x:oa Θ de lo hi a){X:List a1}(f4:∀b∈X,b∈own de\/hi<=b){cb:cq}(f:d3 X ρ h cb av)(fh:¬gQ ρ a){o:Obj}(e:h.get? a=J o)(aD:o.cls≠.type "frame"):av.get? a=J o/\ ¬gQ cb a:=
 ⟨(f.keep a o e (λz=>fh (tx z)) (x.notX f4)).exact aD,Qg f e fh⟩
theorem oa.ext(x:oa Θ de lo hi a)(fh:¬gQ ρ a)(s:zy a h av)(hz:h.objs.size<=av.objs.size):qp Θ de ρ lo hi h av:=⟨λb o z e=>s b o (x.ne fh z) e,hz⟩
theorem Rx{w:eS}{bp:gv}{t:aU}{v:aG}{o:Obj}{T:String}{vs:Array aG}{Q:Unit->bq->Prop}(e:h.get? a=J o)(aD:o.cls=.type T)(bA:o.data=.fields vs)
  (gm:(["enumerate","zip","dict_itemiterator","dict_reverseitemiterator","odict_iterator","itertools.zip_longest","itertools.pairwise"].contains T)=aA) (q:Q () h):af w bp ah (NP t (.ref a) v) Q h:=by
 rcases t<;>first |exact af.pure q|skip
 all_goals (rcases v<;>first |exact af.pure q|skip)
 all_goals
  refine af.bind (af.load e ?_);refine G aD (G bA ?_);dsimp only;refine G gm (G (E5 ..) (G ((a8 t7) ..) ?_));exact af.pure q
theorem af2(x:oa Θ de lo hi a):wj Θ d de (.lst i) (.ref a) lo hi (λk ρ h=>∃p,ρ[i]? =J p/\ ¬gQ ρ a/\h.IsListIter a p.1 k) (λk _ ρ h=>∃p,ρ[i]? =J p/\ ¬gQ ρ a/\h.IsListIter a p.1 k) where
 stable:=λ{k ρ m H h cb av X} gk lz f f4=>by
  refine Ug lz λp hp fh o aR aD bA=>?_
  refine cz (x.keep f4 f fh aR (by refine G aD ?_;simp)) λk1 k2=>?_
  exact⟨p,f.sub.get hp,k2,o,k1,aD,bA⟩
 self:=λ{ah k ρ m H h} ok gk lz=>by
  refine kS lz λp hp fh hi=>?_
  obtain⟨A,cS,a6,-,-⟩:=ok.room;refine af.any cS λs e1 e2 aP=>?_
  subst e1;exact wpAny_pyIter_listiter hi ⟨⟨rfl,rfl⟩,e2,aP⟩
 step:=λ{ah k ρ m H h r} ok gk lz e=>by
  refine kS lz λp hp fh hi=>?_
  obtain⟨A,cS,a6,-,-⟩:=ok.room;unfold itemAt at e;dsimp only at e;split at e
  ·rename_i l ei;obtain rfl:=ci e;obtain⟨-,vs,n,bj,sg⟩:=gk.rel.obj _ _ _ hp ei;have aQ:h.IsList p.1 vs.toArray:=⟨_,bj,rfl,n,rfl⟩;refine af.any cS λs e1 e2 aP=>?_
   subst e1;cases q:l[k]?with
   |none=>
    refine ah6 a6 hi aQ (by(refine G F1 (fB F0 ?_);rw [<-sg.length]);exact F0.mp q) λav ex hz=>⟨⟨x.ext fh ex hz,rfl⟩,e2,aP⟩
   |some v=>
    refine bT (sg.get q) λaJ cT fR=>wpAny_pyNext_list_item hi aQ (x:=aJ) (G F1 cT) λav tG gc=>⟨⟨x.ext fh gc.extBut (iB gc.1.symm),aJ,rfl,⟨p,hp,fh,tG⟩,fR⟩,e2,aP⟩
  ·exact br e
 letgo:=λ{ah k ρ m H h jI aJ t ax bV} ok gk bU dw sf fc=>by
  exact Ug (id bU) λp hp fh o aR aD bA=>Rx aR aD bA (by decide) ⟨⟨λb o _ e=>e,cW _⟩,bU,sf⟩
theorem af3{a:Int}{ad:a1}(aD:0<c)(x:oa Θ de lo hi ad):wj Θ d de (.items (qT a b c)) (.ref ad) lo hi
  (λk ρ h=>¬gQ ρ ad/\IsRangeIter h ad (a+c*k) (oe a b c - k) c) (λk _ ρ h=>¬gQ ρ ad/\IsRangeIter h ad (a+c*k) (oe a b c - k) c) where
 stable:=λ{k ρ m H h cb av X} gk lz f f4=>by
  refine cz lz λfh aR=>?_
  exact cz (x.keep f4 f fh aR (by simp)) λk1 k2=>⟨k2,k1⟩
 self:=λ{ah k ρ m H h} ok gk lz=>by
  refine cz lz λfh hi=>?_
  obtain⟨A,cS,a6,-,-⟩:=ok.room;refine af.any cS λs e1 e2 aP=>?_
  subst e1;exact wpAny_pyIter_rangeiter hi ⟨⟨rfl,rfl⟩,e2,aP⟩
 step:=λ{ah k ρ m H h r} ok gk lz e=>by
  refine cz lz λfh hi=>?_
  obtain⟨A,cS,a6,-,-⟩:=ok.room;unfold itemAt at e;dsimp only at e;obtain rfl:=ci e;have q:=anI aD (a:=a) (b:=b) (k:=k);by_cases hk:(k:Int)<oe a b c
  ·rw [aY hk] at q;refine G q ?_;dsimp only [Option.map];refine af.any cS λs e1 e2 aP=>?_
   subst e1;have aM:a+c*((k+1:Nat):Int)=a+c*k+c:=by refine G (B3 ..) (G (Int.mul_add ..) ?_);lia
   have a7:oe a b c - ((k+1:Nat):Int)=oe a b c - k - 1:=by lia
   exact wpAny_pyNext_range_item hi (Int.sub_pos_of_lt hk) λav tG gc=>⟨⟨x.ext fh gc.extBut (iB gc.1.symm),_,rfl,⟨fh,G aM (G a7 tG)⟩,⟨_,rfl⟩⟩,e2,aP⟩
  ·rw [a8 hk] at q;refine G q ?_;dsimp only [Option.map];refine af.any cS λs e1 e2 aP=>?_
   subst e1;exact ah7 a6 hi (by lia) λav ex hz=>⟨⟨x.ext fh ex hz,rfl⟩,e2,aP⟩
 letgo:=λ{ah k ρ m H h jI aJ t ax bV} ok gk bU dw sf fc=>by
  exact Rx bU.2 rfl rfl (by decide) ⟨⟨λb o _ e=>e,cW _⟩,bU,sf⟩
theorem af1{e it:a1}(x:oa Θ de lo hi e)(y:oa Θ de lo hi it)(gX:e≠it):wj Θ d de (.enum i) (.ref e) lo hi
  (λk ρ h=>∃p nI,ρ[i]? =J p/\ ¬gQ ρ e/\ ¬gQ ρ it/\IsEnum h e it k nI/\h.IsListIter it p.1 k) (λk v ρ h=>∃p Jh a,v=.ref a/\ρ[i]? =J p/\ ¬gQ ρ e/\ ¬gQ ρ it/\IsEnumOut h e it k Jh a/\h.IsListIter it p.1 k/\a≠e) where
 stable:=λ{k ρ m H h cb av X} gk lz f f4=>by
  obtain⟨p,nI,hp,fh,tP,aR,o,IV,aD,bA⟩:=lz;refine cz (x.keep f4 f fh aR (by simp)) λk1 k2=>?_
  refine cz (y.keep f4 f tP IV (by refine G aD ?_;simp)) λk3 oH=>?_
  exact⟨p,nI,f.sub.get hp,k2,oH,k1,o,k3,aD,bA⟩
 self:=λ{ah k ρ m H h} ok gk lz=>by
  obtain⟨p,nI,hp,fh,tP,aR,hi⟩:=lz;obtain⟨A,cS,a6,-,-⟩:=ok.room;refine af.any cS λs e1 e2 aP=>?_
  subst e1;exact wpAny_pyIter_enum aR ⟨⟨rfl,rfl⟩,e2,aP⟩
 step:=λ{ah k ρ m H h r} ok gk lz dw=>by
  obtain⟨p,nI,hp,fh,tP,aR,hi⟩:=lz;obtain⟨A,cS,a6,-,-⟩:=ok.room;unfold itemAt at dw;dsimp only at dw;split at dw
  ·rename_i l ei;obtain rfl:=ci dw;obtain⟨-,vs,n,bj,sg⟩:=gk.rel.obj _ _ _ hp ei;have aQ:h.IsList p.1 vs.toArray:=⟨_,bj,rfl,n,rfl⟩;refine af.any cS λs e1 e2 aP=>?_
   subst e1;cases q:l[k]?with
   |none=>
    refine ah5 a6 aR hi aQ (by(refine G F1 (fB F0 ?_);rw [<-sg.length]);exact F0.mp q) λav ex hz=>⟨⟨y.ext tP ex hz,rfl⟩,e2,aP⟩
   |some v=>
    refine bT (sg.get q) λaJ cT fR=>?_
    refine wpAny_pyNext_enum_item aR hi aQ (x:=aJ) (by refine G F1 ?_;exact cT) gX λav bl tG ce hz qN=>⟨⟨⟨λb o z fc=>qN b o (x.ne fh z) (y.ne tP z) fc,by show s.heap.objs.size<=av.objs.size;exact zw (id (rd hz))⟩,_,rfl,⟨p,aJ,_,rfl,hp,fh,tP,by refine G (B3 ..) ?_;exact bl,tG,λz=>?_⟩,?_⟩,e2,aP⟩
    ·have :=gE aR;exact Nat.ne_of_gt this z
    ·exact⟨_,_,_,rfl,⟨_,ce,rfl,_,rfl⟩,⟨_,rfl⟩,fR⟩
  ·exact br dw
 letgo:=λ{ah k ρ m H h jI aJ t ax bV} ok gk bU dw sf fc=>by
  refine ar9 bU λp Jh a akR hp fh tP bl hi aeA=>?_;obtain rfl:=akR
  obtain⟨A,cS,a6,-,-⟩:=ok.room;obtain⟨u,v,rfl⟩:∃u v,jI=.pair u v:=by
   unfold itemAt at dw;dsimp only at dw;split at dw
   ·have dw:=ci dw;exact bT (ry.mp dw) λy _ dc=>⟨_,_,dc.symm⟩
   ·exact br dw
  rcases G1 fc with⟨_,_,_,-,z,-⟩|⟨n,_,_,_,_,w,rfl,-,-,-⟩
  ·cases z
  refine af.any cS λs e1 e2 aP=>?_
  subst e1;refine wpAny_letOwnedTupleGo_enum bl λav ve gc=>⟨⟨⟨λb o z e=>gc.extBut b o (x.ne fh z) e,iB gc.1.symm⟩,⟨p,Jh,hp,fh,tP,ve,hi.extBut gc.extBut (Cm gX)⟩,?_⟩,e2,aP⟩
  refine tZ sf λb ef ja q ce b9 dG=>?_
  obtain rfl:=PySem.Value.ref.inj q;exact⟨a,ef,ja,rfl,ce.extBut gc.extBut aeA,b9,dG⟩
end iters
theorem Rr{s:kI}{x:aG}{lo:Nat}(ok:bz Θ.fs (d+4) ah)(a:bD Θ Z ρ m H h)(hs:Eg Θ Z ρ H h lo s x)(j6:lo<=h.objs.size):
  af Θ.w Θ.O ah (pyIter x) (λit ai=>gM h ai/\∃am U,(∀de,(∀b∈own de,b∈own Z\/ai.objs.size<=b)->wj Θ d de s it lo ai.objs.size am U)/\am 0 ρ ai) h:=by
 obtain⟨A,cS,a6,-,-⟩:=ok.room;refine af.any cS λst e1 e2 aP=>?_
 subst e1;refine dS (a.fresh (cW _)) λch cd ee=>?_
 induction s using Mine.Internal.kI.casesOn with
 |lst i=>
  refine Ud hs λakS l ei=>?_;obtain⟨p,hp,rfl⟩:=akS
  obtain⟨-,vs,n,bj,sg⟩:=a.rel.obj _ _ _ hp ei;refine wpAny_pyIter_list (items:=vs.toArray) ⟨_,bj,rfl,n,rfl⟩ ⟨⟨.push _ _,_,_,λde bl=>af2 (d:=d) (a:=st.heap.objs.size) ⟨j6,?_,λz=>?_,ee⟩,p,hp,ch,⟨_,hU _ rfl,rfl,rfl⟩⟩,e2,aP⟩
  ·exact G (ib ..) (F9 _)
  ·rcases bl _ z with z|z
   ·exact cd z
   ·rw [ib] at z;exact jn _ ‹_›
 |items l=>
  obtain⟨az,aT,ca,t,u,v,r,rfl,rfl,aD,ha,hb,jH,aq,asD,c9⟩:=hs;refine wpAny_pyIter_range c9 (anL aD jH ha hb) ⟨⟨.push _ _,_,_,λde bl=>af3 (d:=d) aD (ad:=st.heap.objs.size) ⟨j6,?_,λz=>?_,ee⟩,ch,?_⟩,e2,aP⟩
  ·exact G (ib ..) (F9 _)
  ·rcases bl _ z with z|z
   ·exact cd z
   ·rw [ib] at z;exact jn _ ‹_›
  ·have :=hU st.heap (o:= {cls:=.type "range_iterator",data:=.fields #[rH az,rH (oe az aT ca),rH ca]}) rfl;simpa using this
 |enum i=>
  refine asa hs λr it p akT gn fY gX akU hp bl hi=>?_;obtain rfl:=akT;refine cm akU λl ei=>?_
  have d1:st.heap.objs.size>r:=gE bl;have g2:st.heap.objs.size>it:=by refine bT hi λo aR _=>?_;exact gE aR
  refine wpAny_pyIter_enum bl ⟨⟨.refl _,_,_,λde tB=>af1 (d:=d) ⟨gn.1,d1,λz=>?_,gn.2.2.2⟩ ⟨fY.1,g2,λz=>?_,fY.2.2.2⟩ gX,p,.none,hp,gn.2.1,fY.2.1,bl,hi⟩,e2,aP⟩
  ·rcases tB _ z with z|z
   ·exact gn.2.2.1 z
   ·lia
  ·rcases tB _ z with z|z
   ·exact fY.2.2.1 z
   ·lia
theorem anK{vs:List L}(e:lV vs=J l):(∃b,vs=[.int b]/\(cG b&&bH b.toNat)=ae/\l=qT 0 b 1)\/(∃a b,vs=[.int a,.int b]/\(cG a&&cG b&&bH (b - a).toNat)=ae/\l=qT a b 1)\/
  ∃a b c,vs=[.int a,.int b,.int c]/\(eo (0<c)&&eo (c<1000000)&&cG a&&cG b&&bH (b - a).toNat)=ae/\l=qT a b c:=by
 rcases vs with - |⟨x,- |⟨y,- |⟨z,- |⟨w,r⟩⟩⟩⟩
 ·exact br e
 ·exact gb e λb kL e=>dR e λaq e=>.inl ⟨b,by(exact G (r3 kL) rfl),aq,(ci e).symm⟩
 ·exact gb e λb kL e=>gb e λc lQ e=>dR e λaq e=>.inr (.inl ⟨b,c,by(exact G (r3 kL) (G (r3 lQ) rfl)),aq,(ci e).symm⟩)
 ·exact gb e λb kL e=>gb e λc lQ e=>gb e λd vl e=>dR e λaq e=>.inr (.inr ⟨b,c,d,by(exact G (r3 kL) (G (r3 lQ) (G (r3 vl) rfl))),aq,(ci e).symm⟩)
 ·exact br e
theorem agZ{vs:List L}{vs':List aG}{lo:Nat}(ok:bz Θ.fs (d+4) ah)(a:bD Θ Z ρ m H h)(hv:All2 (bg ρ) vs vs')(e:lV vs=J l)(j6:lo<=h.objs.size):
  af Θ.w Θ.O ah (PySem.call (.type "range") vs') (λx ai=>gM h ai/\Eg Θ Z ρ H ai lo (.items l) x) h:=by
 obtain⟨A,cS,a6,-,-⟩:=ok.room;rcases anK e with⟨b,rfl,aq,rfl⟩|⟨b,c,rfl,aq,rfl⟩|⟨b,c,asg,rfl,aq,rfl⟩
 ·refine ar2 hv.one λyL akW t akX=>?_;obtain rfl:=akW;obtain rfl:=akX
  refine af.any cS λst e1 e2 aP=>?_
  subst e1;refine dS (a.fresh (cW _)) λch cd ee=>call_range_1 ⟨⟨.push _ _,0,b,1,_,_,_,_,rfl,rfl,ht _,by decide,(eZ aq),ht _,by simpa using(eJ aq),⟨j6,ch,cd,ee⟩,hU _ rfl⟩,e2,aP⟩
 ·refine ar4 hv.two λyL bE akY akZ u ak0=>?_;obtain rfl:=akY;refine cm akZ λt amU=>?_;obtain rfl:=amU;obtain rfl:=ak0
  refine af.any cS λst e1 e2 aP=>?_
  subst e1;refine dS (a.fresh (cW _)) λch cd ee=>cz (fm aq) λai ak=>call_range_2 ⟨⟨.push _ _,b,c,1,_,_,_,_,rfl,rfl,ht _,(eZ ai),(eJ ai),ht _,ak,⟨j6,ch,cd,ee⟩,hU _ rfl⟩,e2,aP⟩
 ·refine asb hv.three λyL bE ea ak1 ak2 ak3 v ak4=>?_;obtain rfl:=ak1;refine cm ak2 λt am5=>?_;obtain rfl:=am5;refine cm ak3 λu Km=>?_;obtain rfl:=Km;obtain rfl:=ak4
  simp only [he,decide_eq_true_eq] at aq;refine cz aq λak5 gl=>?_;refine cz ak5 λKn cC=>?_;obtain⟨⟨ai,ak⟩,aZ⟩:=Kn
  refine af.any cS λst e1 e2 aP=>?_
  subst e1;refine dS (a.fresh (cW _)) λch cd ee=>call_range_3 (Cm (Int.ne_of_lt ai)) ⟨⟨.push _ _,b,c,asg,_,_,_,_,rfl,rfl,ai,aZ,cC,ak,gl,⟨j6,ch,cd,ee⟩,hU _ rfl⟩,e2,aP⟩ (.inl (Vs (Xx ai ak)))
theorem agS{aJ:aG}{lo:Nat}(ok:bz Θ.fs (d+4) ah)(a:bD Θ Z ρ m H h)(hv:bg ρ (.new i) aJ)(e:H[i]? =J (.list l))(j6:lo<=h.objs.size):
  af Θ.w Θ.O ah (PySem.call (.type "enumerate") [aJ]) (λx ai=>gM h ai/\Eg Θ Z ρ H ai lo (.enum i) x) h:=by
 obtain⟨A,cS,a6,-,-⟩:=ok.room;refine af.any cS λst e1 e2 aP=>?_
 subst e1;obtain⟨p,hp,rfl⟩:=hv;obtain⟨-,vs,n,bj,sg⟩:=a.rel.obj _ _ _ hp e;refine dS (a.fresh (cW _)) λch cd ee=>dS (a.fresh (uB st.heap.objs.size)) λd1 g2 hx=>?_
 refine call_enumerate_list (items:=vs.toArray) ⟨_,bj,rfl,n,rfl⟩ λav bl hi hz qN=>⟨⟨⟨qN,by show st.heap.objs.size<=av.objs.size;exact zw (id (rd hz))⟩,_,_,p,rfl,⟨uC j6,d1,g2,hx⟩,⟨j6,ch,cd,ee⟩,Nat.succ_ne_self _,⟨l,e⟩,hp,bl,hi⟩,e2,aP⟩
theorem afJ{c d:Prop}{_:Decidable c}{_:Decidable d}{P Q aa:Prop}(w:if c then P else if d then Q else False)(k1:c->P->aa)(k2:d->Q->aa):aa:=by
 by_cases h:c
 ·rw [aY h] at w;exact k1 h w
 ·rw [a8 h] at w;exact qH w k2
theorem Rz{v:L}{H:an}{aa:Prop}(e:listOf v H=J i)(k:∀l,v=.new i->H[i]? =J (.list l)->aa):aa:=
 gb e λj e1 e=>gb e λl e2 aP=>gb e2 λo jD iO=>by
  have aP:=ci aP;subst aP;exact k l (JN e1) (jD.trans (congrArg J (Ry iO)))
def mj(Θ:fa)(C:mL)(d:Nat)(e:aU):Prop:=∀ {ah Z ρ m H h} {k:kI->an->Prop} {bF:Type} {f:aG->Sem bF} {Q:bF->cq->Loc->an->Prop},bz Θ.fs (d+4) ah->bD Θ Z ρ m H h->
 sv False C e (λH k=>bO False C e Z.scope.names m H k) Z.scope.names m H k->
 (∀s x bG bI ai,bD Θ Z bG m bI ai->d3 (own Z) ρ h bG ai->Eg Θ Z bG bI ai h.objs.size s x->k s bI->af Θ.w Θ.O ah (f x) (d4 Θ Z ρ h Q) ai)->aa Θ ah Z ρ (eval e Z>>=f) Q h
set_option tactic.hygienic true in
theorem arm{e:aU}{W:an->(L->an->Prop)->Prop}{ax:ds}{m:Loc}{H:an}{k:kI->an->Prop}:A5 e=aA->sv False C e W ax m H k=W H (lstK False k):=by
 rcases e<;>first |exact λ_=>(rfl:_=W H (lstK False k))|skip
 rename_i f aH iT p;rcases iT with _|⟨_,_⟩
 ·rcases f<;>first |exact λ_=>(rfl:_=W H (lstK False k))|exact λh=>b8 h.symm
 ·exact λ_=>(rfl:_=W H (lstK False k))
theorem mj.plain{e:aU}(bl:cE Θ C d e)(hn:A5 e=aA):mj Θ C d e:=λ{ah Z ρ m H h k bF f Q} ok a w aB=>by
 rw [arm hn] at w;refine af.bind (af.mono (bl ok a w) λaJ ai cV=>?_)
 obtain⟨bG,dF,bI,bL,ch,aM,v,b9,bE⟩:=cV;subst aM;set_option smartUnfolding false in refine jM (o:=listOf v bI) bE λi dw LV=>Rz dw λl Al ei=>?_
 subst Al;exact aB (.lst _) _ _ _ _ bL ch ⟨b9,l,ei⟩ LV
theorem Pp{T:String}{pos:Pos}{aH:List aU}{w:eS}{bp:gv}{Q:aG->bq->Prop}(hn:gA aH=ae)
  (x:af w bp ah (evalArgs (.type T) ae (jB pos (ic aH Z)) []) (λa ai=>a.kw=[]/\af w bp ah (PySem.call (.type T) a.pos) Q ai) h):
  af w bp ah (Cy pos (.type T) [] (jB pos (ic aH Z)) []) Q h:=by
 refine dS (Ei (pos:=pos) hn Z) λn1 n2 A4=>af.bind (af.holding (af.mono x λa ai eH=>cz eH λe y=>af.bind (af.standAt ?_)))
 obtain⟨vs',iT⟩:=a;dsimp only at e y;subst e;exact G n1 (af.bv (λ_=>af.pure (a:=Keeper.machine)) (af.bind (af.mono y λr ak q=>af.bind (af.holding (af.point (af.pure q))))))
theorem mj.call{x:Str}{p q:Pos}{aH:List aU}(aO:(x==("__debug__":Str))=aA)(hs:kl Θ C d aH)(hn:gA aH=ae):mj Θ C d (.Call (.Name x p) aH [] q):=λ{ah Z ρ m H h k bF f Q} ok a w aB=>by
 have dg:eval (.Call (.Name x p) aH [] q) Z=(eval (.Name x p) Z>>=λf'=>Cy q f' [] (jB q (ic aH Z)) []):=rfl
 refine G dg (G (uv ..) (G (eval_Name _ _ _ aO ..) ?_));simp only [uv];rw [arl] at w;refine aa.stand (afJ w (λj0 w=>?_) λj0 w=>?_)
 ·refine af.bind (af.mono (Bm ok a j0) λf' ai cV=>?_)
  obtain⟨bG,dF,bI,bL,ch,aM,a7,q3⟩:=cV;subst aM a7;cases q3;refine af.bind (Pp hn (af.mono (Ee hs hn ok bL w) λzR ak cV=>?_))
  obtain⟨du,jK,cM,cX,cd,aM,a7,vs,r,ea⟩:=cV;refine⟨a7,?_⟩;subst aM;set_option smartUnfolding false in refine jM ea λl ei ea=>?_
  exact af.mono (agZ ok cX r ei (cQ ch.size cd.size)) λy aZ z=>aB _ _ _ _ _ (cX.ext z.1) (ch.trans (cd.trans (.ext z.1))) z.2 ea
 ·refine af.bind (af.mono (Bm ok a j0) λf' ai cV=>?_)
  obtain⟨bG,dF,bI,bL,ch,aM,a7,q3⟩:=cV;subst aM a7;cases q3;refine af.bind (Pp hn (af.mono (Ee hs hn ok bL w) λzR ak cV=>?_))
  obtain⟨du,jK,cM,cX,cd,aM,a7,vs,r,ea⟩:=cV;refine⟨a7,?_⟩;subst aM;set_option smartUnfolding false in refine jM ea λi dw LV=>gb dw λv e1 e2=>Rz e2 λl Al ei=>?_
  have e1:=aiW e1;subst e1 Al
  ··exact bT r.one λaJ ao f0=>G ao (af.mono (agS ok cX f0 ei (cQ ch.size cd.size)) λy aZ z=>aB _ _ _ _ _ (cX.ext z.1) (ch.trans (cd.trans (.ext z.1))) z.2 LV)
theorem ec.for{t it a pos}(c9:mj Θ C d it)(ha:km Θ C d a)(aq:∀Z x,CC it Z x=bK x):ec Θ C d (.For t it a [] pos):=λ{ah Z ρ m H h k} ok a0 w=>by
 rw [ars] at w;refine G (exec_For ..) (.stand (c9 ok a0 w λs x bG bI ai bL ch Ld bE=>?_))
 refine G (aq ..) (af.bv (λ_=>af.pure) (af.bv (λ_=>af.standAt) (af.bind (af.holding (af.mono (Rr ok bL Ld ch.size) λaf4 ak cV=>?_)))))
 refine Ue cV λex am U X I7=>?_
 have cX:=bL.ext ex;exact af.runOwn λp=>adM (c0:=.forLoop t af4 a [] Z) (X Z λb hb=>.inl hb) ha ok _ 0 cX I7 (ch.trans (d3.ext ex)) (cW _) bE
end
variable {de:Env}
section
variable {R:aG->bq->Prop}
theorem O6{kindOf:Str->Option lI}:∀ {ns:List Str} {vs:List aG} {m:Str->Option aG},x∉ns->kk kindOf (ns.zip vs) m x=m x
 | [],_,_,_=>rfl
 |_::_,[],_,_=>rfl
 |n::ns,v::vs,m,aO=>by
  (refine G F6 ?_;rewrite [kk];rw [O6 (λz=>aO (f8 _ z))])
  split
  ·show(if x=n then J v else m x)=m x;(exact G (a8 (λ(z:x=n)=>aO (by rw [z];exact fK))) rfl)
  ·rfl
theorem O5{kindOf:Str->Option lI}:∀ {ns:List Str} {vs:List aG} {m:Str->Option aG},x∉ns->s4 kindOf (ns.zip vs) m x=m x
 | [],_,_,_=>rfl
 |_::_,[],_,_=>rfl
 |n::ns,v::vs,m,aO=>by
  (refine G F6 ?_;rewrite [s4];rw [O5 (λz=>aO (f8 _ z))])
  split
  ·rfl
  ·show(if x=n then J v else m x)=m x;(exact G (a8 (λ(z:x=n)=>aO (by rw [z];exact fK))) rfl)
theorem ZY{kindOf:Str->Option lI}{v:L}(hk:kindOf x=J .local){vs:List L}{vs':List aG}(a:All2 (bg ρ) vs vs'):∀ {ns:List Str} {m:Str->Option aG},ns.Nodup->cy (ns.zip vs) x=J v->
  ∃aJ,kk kindOf (ns.zip vs') m x=J aJ/\bg ρ v aJ:=by
 induction a with
 |nil=>intro ns m hn e;rcases ns<;>exact br e
 | @cons u ef vs vs' r t ih=>
  intro ns m hn e;induction ns using mO with
  |nil=>exact br e
  |cons n ns=>?_
  have e:(if n=x then J u else cy (ns.zip vs) x)=J v:=e
  (rewrite [F6];rw [kk])
  rw [n4] at hn;by_cases q:n=x
  ·subst q;rw [aY rfl] at e;obtain rfl:=ci e;(rewrite [O6 hn.1];rw [aY hk]);exact⟨ef,by simp,r⟩
  ·rw [a8 q] at e;exact ih hn.2 e
theorem ZX{kindOf:Str->Option lI}{v:L}(hk:kindOf x≠J .local){vs:List L}{vs':List aG}(a:All2 (bg ρ) vs vs'):∀ {ns:List Str} {m:Str->Option aG},ns.Nodup->cy (ns.zip vs) x=J v->
  ∃aJ,s4 kindOf (ns.zip vs') m x=J aJ/\bg ρ v aJ:=by
 induction a with
 |nil=>intro ns m hn e;rcases ns<;>exact br e
 | @cons u ef vs vs' r t ih=>
  intro ns m hn e;induction ns using mO with
  |nil=>exact br e
  |cons n ns=>?_
  have e:(if n=x then J u else cy (ns.zip vs) x)=J v:=e
  (rewrite [F6];rw [s4])
  rw [n4] at hn;by_cases q:n=x
  ·subst q;rw [aY rfl] at e;obtain rfl:=ci e;(rewrite [O5 hn.1];rw [a8 hk]);exact⟨ef,by simp,r⟩
  ·rw [a8 q] at e;exact ih hn.2 e
theorem z4:∀(fZ:List (Str×lI)) (n:Nat) (acc:List (Str×a1)),((acc.lookup x).isSome=ae\/(x,NI)∈fZ)->((rC n fZ acc).lookup x).isSome=ae
 | [],n,acc,h=>by rcases h with h|h;exact h;rcases h
 |(y,k)::r,n,acc,h=>by
  unfold rC;split
  ·rename_i hk;refine z4 r _ _ ?_;rcases h with h|h
   ·refine .inl ?_;refine G sO ?_;split
    ·rfl
    ·exact h
   ·rcases fw.mp h with h|h
    ·refine oM h λak6 ak7=>?_;obtain rfl:=ak6;obtain rfl:=ak7;exact .inl (by refine G sO ?_;simp)
    ·exact .inr h
  ·rename_i hk;refine z4 r _ _ ?_;rcases h with h|h
   ·exact .inl h
   ·rcases fw.mp h with h|h
    ·refine oM h λak8 ak9=>?_;obtain rfl:=ak8;obtain rfl:=ak9;simp at hk
    ·exact .inr h
theorem HI:∀(fZ:List (Str×lI)) (n:Nat) (acc:List (Str×a1)),(fZ.map (·.1)).Nodup->(∀p∈acc,p.1∉fZ.map (·.1))->(∀p∈acc,acc.lookup p.1=J p.2)->
  ∀p∈rC n fZ acc,(rC n fZ acc).lookup p.1=J p.2
 | [],n,acc,_,_,h=>h
 |(y,k)::r,n,acc,hn,ha,h=>by
  rw [h9,n4] at hn;unfold rC;split
  ·refine HI r _ _ hn.2 (λp hp=>?_) (λp hp=>?_)
   ·rcases fw.mp hp with rfl|hp
    ·exact hn.1
    ·exact λz=>ha p hp (f8 _ z)
   ·rcases fw.mp hp with rfl|hp
    ·refine G sO ?_;simp
    ·refine G sO ?_;have :(p.1==y)=aA:=by
      simp only [beq_eq_false_iff_ne,ne_eq];exact λz=>ha p hp (G z fK)
     exact G this (h p hp)
  ·exact HI r _ _ hn.2 (λp hp z=>ha p hp (f8 _ z)) h
def uu(h:bq)(a2:a1):Prop:=∃o,h.get? a2=J o/\o.cls=.type "frame"/\∃aH n,o.data=.dict aH n
section
variable {M:qg}{s₀:cs}{m rU:Str->Option aG}
theorem aoN{n:Str}{v:aG}{Q:Unit->cs->Prop}(x:uF s₀ Z.locals m Z.cells rU s)(y:uu s.heap Z.locals)(hk:Z.scope.kind=.function)(aQ:Z.kindOf n=J .local)
  (q:∀aS,uF s₀ Z.locals (λy=>if y=n then J v else m y) Z.cells rU aS->uu aS.heap Z.locals->Q () aS):cN M A (storeName Z n v) Q E s:=by
 refine G (storeName_local aQ (by rw [hk];rfl) ..) ?_
 refine TZ x.toInCall.ns λav lm hj jH=>q _ ⟨⟨?_,lm,λb o e=>?_,x.toInCall.fresh⟩,λk c aD=>?_,x.apart,x.above⟩ ?_
 ·refine oX x.toInCall.same λh₁ tk ala=>?_;obtain rfl:=ala
  exact⟨av,_,rfl⟩
 ·exact hj.extBut b o (mf (eE (gE e) x.toInCall.fresh)) (x.toInCall.keep b o e)
 ·exact(x.cell k c aD).sameBut hj (Nat.ne_of_gt (x.above k c (mem_of_lookup aD)))
 ·refine kS y λo e c _=>?_
  refine bT (jH o e) λo' cT c'=>E1 (id lm) λel aH n e2 dd _=>?_
  rw [cT] at e2;obtain rfl:=ci e2;exact⟨o',cT,c'.trans c,aH,n,dd⟩
theorem aoL{n:Str}{c:a1}{v:aG}{Q:Unit->cs->Prop}(x:uF s₀ Z.locals m Z.cells rU s)(y:uu s.heap Z.locals)(hk:Z.scope.kind=.function)(aQ:Z.kindOf n=J .cell)(aD:Z.cells.lookup n=J c)
  (q:∀aS,uF s₀ Z.locals m Z.cells (λy=>if y=n then J v else rU y) aS->uu aS.heap Z.locals->Q () aS):cN M A (storeName Z n v) Q E s:=by
 have mu:=x.above n c (mem_of_lookup aD);refine wpAny_storeName_cell hk aQ aD (x.cell n c aD) λav jH hj=>q _ ⟨⟨?_,x.toInCall.ns.sameBut hj (mf mu),λb o e=>?_,x.toInCall.fresh⟩,λk c' Dw=>?_,x.apart,x.above⟩ ?_
 ·refine oX x.toInCall.same λh₁ tk alb=>?_;obtain rfl:=alb
  exact⟨av,_,rfl⟩
 ·exact hj.extBut b o (mf (n7 (eE (gE e) x.toInCall.fresh) mu)) (x.toInCall.keep b o e)
 ·by_cases IR:k=n
  ·subst IR;rw [aD] at Dw;obtain rfl:=ci Dw;simpa using jH
  ·exact G (a8 IR) ((x.cell k c' Dw).sameBut hj λe=>IR (Gx x.apart (mem_of_lookup Dw) (e▸mem_of_lookup aD)))
 ·refine bT y λo e r=>?_
  exact⟨o,(hj.2 _ (mf mu)).trans e,r⟩
theorem ZZ(f:Str×aG->PUnit->Sem (ForInStep PUnit))(aq:∀n v u,f (n,v) u=(do storeName Z n v;bK (.yield ⟨⟩)))(hk:Z.scope.kind=.function):
  ∀(binds:List (Str×aG)) (m rU:Str->Option aG) (s:cs) (Q:PUnit->cs->Prop),uF s₀ Z.locals m Z.cells rU s->uu s.heap Z.locals->
   (∀x∈binds,Z.kindOf x.1=J .local \/(Z.kindOf x.1=J .cell/\(Z.cells.lookup x.1).isSome=ae))->
   (∀aS,uF s₀ Z.locals (kk Z.kindOf binds m) Z.cells (s4 Z.kindOf binds rU) aS->uu aS.heap Z.locals->Q ⟨⟩ aS)->cN M A (forIn binds ⟨⟩ f) Q E s:=by
 intro binds;induction binds with
 |nil=>exact λm rU s Q x y _ h=>G List.forIn_nil (cK (h s x y))
 |cons p r ih=>
  intro m rU s Q x y j5 h;obtain⟨n,v⟩:=p;refine G (FZ ..) (G (aq ..) ?_);have c9:=λz hz=>j5 z (f8 _ hz)
  rcases j5 (n,v) fK with aQ|⟨aQ,aD⟩
  ·refine b4 (b4 (aoN x y hk aQ λaS EZ eN=>cK (ih _ _ aS Q EZ eN c9 λd6 aT=>h d6 ?_)))
   unfold kk s4;refine G (aY aQ) (G (aY aQ) ?_);exact aT
  ·refine cm (sV.mp aD) λc aD=>?_
   have QK:¬Z.kindOf n=J .local :=by refine G aQ ?_;decide
   refine b4 (b4 (aoL x y hk aQ aD λaS EZ eN=>cK (ih _ _ aS Q EZ eN c9 λd6 aT=>h d6 ?_)))
   unfold kk s4;refine G (a8 QK) (G (a8 QK) ?_);exact aT
theorem ah3{m8:jA}{globals:a1}{binds:List (Str×aG)}{Ky:Str}{Ip:Option a1}{code:aG}{G5:a1}{Q:Env->cs->Prop}
  (hk:m8.kind=.function)
  (j5:∀x∈binds,m8.names.lookup x.1=J .local \/(m8.names.lookup x.1=J .cell/\((rC (s.heap.objs.size+1) m8.names []).lookup x.1).isSome=ae))
  (jG:∀Z,Z=newEnv m8 s.heap.objs.size globals (rC (s.heap.objs.size+1) m8.names []) Ky Ip code ac G5->
   ∀aS,uF s Z.locals (kk Z.kindOf binds λ_=>ac) Z.cells (s4 Z.kindOf binds λ_=>ac) aS->uu aS.heap Z.locals->Q Z aS):
  cN M A (NR m8 globals [] binds Ky Ip code ac G5) Q E s:=by
 simp only [NR,Option.isSome_none,ng,if_false];refine bN (λ_=>wpAny_alloc) ?_
 refine bN (λ_=>wpAny_layCells _ (λname agf ast=>by cases ae2:agf==NI<;>simp [ae2]) _ _ _ _) ?_
 have ok:=cellsFrom_ok m8.names (s.heap.push {cls:=.type "frame",data:=.dict #[]}) (s.heap.objs.size+1) [] ⟨λ_ _ bc=>(nomatch bc),List.Pairwise.nil⟩ (G (ib ..) (cW _))
 rw [ib] at ok;refine G (show({s with heap:=s.heap.push {cls:=.type "frame",data:=.dict #[]}}:cs).heap.objs.size=s.heap.objs.size+1 from ib ..) ?_
 refine b4 (ZZ (s₀:=s) (Z:=newEnv m8 s.heap.objs.size globals (rC (s.heap.objs.size+1) m8.names []) Ky Ip code ac G5)
  _ (λ_ _ _=>rfl) hk binds (λ_=>ac) (λ_=>ac) _ _
  ⟨⟨⟨_,_,rfl⟩,(Heap.Ns.new s.heap (.type "frame")).keeps (NT _ _),λb o e=>NT _ _ b o (k6 _ e),cW _⟩,
   λn c aD=>(ok.empty n c (mem_of_lookup aD)).1,ok.apart,λn c bc=>(ok.empty n c bc).2⟩
  ⟨_,NT _ _ _ _ (hU _ rfl),rfl,_,_,rfl⟩
  j5 λaS x y=>cK (jG _ rfl aS x y))
end
structure ue(P:cB)(f:a1)(st:cD):Prop where
 fd:∃o fd,(dk P).lookup f=J o/\o.data=.func fd/\fd.body=.stmts (aW st)/\fd.scope=dO st/\fd.globals=k8/\fd.closure=[]/\fd.builtins=s5/\
  codeIn (dk P) fd.code fd.qualname=ae/\(∀(s:cs) (vs:List aG),(dk P).In s.heap->vs.length=(fF st).args.length->BindsTo s fd ⟨vs,[]⟩ (((fF st).args.map (·.arg)).zip vs))
 co:(dO st).isCoroutine=aA
 gen:(dO st).isGenerator=aA
 kind:(dO st).kind=.function
 nodup:((dO st).names.map (·.1)).Nodup
 nofree:∀p∈(dO st).names,p.2≠.free
 params:((fF st).args.map (·.arg)).Nodup
 pk:∀x∈(fF st).args.map (·.arg),(dO st).names.lookup x=J .local \/(dO st).names.lookup x=J .cell
theorem bz.wider{a9 mM:List a1}{n:Nat}{ah:Ctx}(h:bz a9 n ah)(k:∀b∈a9,b∈mM):bz mM n ah:=
 ⟨h.room,h.here,h.below,λZ bl=>Ml (h.fr Z bl) λa b hb e=>⟨a,b,k b hb,e⟩⟩
def dm(w:eS)(bp:gv)(ah:Ctx){ay:Type}(t:Sem ay)(Q:ay->bq->Prop)(X:aG->bq->Prop)(h:bq):Prop:=
 ∀s p,s.heap=h->s.gens= #[]->s.os=bp->gN (di prog w) ah t (λa _ aS=>Q a aS.heap/\aS.gens= #[]/\aS.os=bp) (λe _ aS=>X e aS.heap/\aS.gens= #[]/\aS.os=bp) p s
def sJ(w:eS)(bp:gv)(ah:Ctx)(R:aG->bq->Prop)(X:aG->bq->Prop)(h:bq):Prop:=
 ∀s p,s.heap=h->s.gens= #[]->s.os=bp->wpCode (di prog w) ah (λr aS=>(match r with | .ok f=>∃v,f=.ret v/\R v aS.heap| .error e=>X e aS.heap)/\aS.gens= #[]/\aS.os=bp) p s
section
variable {bp:gv}{X:aG->bq->Prop}
theorem dm.of{t:Sem ay}{Q:ay->bq->Prop}(x:af w bp ah t Q h):dm w bp ah t Q X h:=λs p e1 e2 aP=>
 lJ _ _ _ (λ_ _ _ y=>y) (λ_ _ _ y=>y.elim) _ _ (x s p e1 e2 aP)
theorem dm.mono{t:Sem ay}{Q oj:ay->bq->Prop}{zM:aG->bq->Prop}(x:dm w bp ah t Q X h)(k:∀a av,Q a av->oj a av)(fO:∀e av,X e av->zM e av):dm w bp ah t oj zM h:=λs p e1 e2 aP=>
 lJ _ _ _ (λa _ aS y=>⟨k _ _ y.1,y.2⟩) (λe _ aS y=>⟨fO _ _ y.1,y.2⟩) _ _ (x s p e1 e2 aP)
theorem dm.toJ{t:Sem ay}{Q:ay->bq->Prop}(x:dm w bp ah t Q (λ_ _=>False) h):af w bp ah t Q h:=λs p e1 e2 aP=>
 lJ _ _ _ (λ_ _ _ y=>y) (λ_ _ _ y=>y.1.elim) _ _ (x s p e1 e2 aP)
theorem dm.bind{m:Sem ay}{f:ay->Sem bF}{Q:bF->bq->Prop}(x:dm w bp ah m (λa av=>dm w bp ah (f a) Q X av) X h):dm w bp ah (m>>=f) Q X h:=λs p e1 e2 aP=>by
 exact G (wB ..) (lJ _ _ _ (λa gZ aS y=>y.1 aS gZ rfl y.2.1 y.2.2) (λ_ _ _ y=>y) _ _ (x s p e1 e2 aP))
theorem dm.bindJ{m:Sem ay}{f:ay->Sem bF}{Q:bF->bq->Prop}(x:af w bp ah m (λa av=>dm w bp ah (f a) Q X av) h):dm w bp ah (m>>=f) Q X h:=dm.bind (.of x)
theorem dm.keep{vs:List aG}{m:Sem ay}{Q:ay->bq->Prop}(x:dm w bp ah m Q X h):dm w bp ah (m.keep vs) Q X h:=λs p e1 e2 aP=>by
 exact G (Sem.wp_keep ..) (x s p e1 e2 aP)
theorem dm.onRaise{m:Sem ay}{k:aG->Sem Unit}{Q:ay->bq->Prop}(x:dm w bp ah m Q (λe av=>dm w bp ah (k e) (λ_ ak=>X e ak) X av) h):dm w bp ah (m.onRaise k) Q X h:=λs p e1 e2 aP=>by
 exact G (Sem.wp_onRaise ..) (lJ _ _ _ (λ_ _ _ y=>y) (λe gZ aS y=>y.1 aS gZ rfl y.2.1 y.2.2) _ _ (x s p e1 e2 aP))
theorem dm.attempt{m:Sem ay}{Q:Except aG ay->bq->Prop}(x:dm w bp ah m (λa=>Q (.ok a)) (λe=>Q (.error e)) h):af w bp ah m.attempt Q h:=λs p e1 e2 aP=>by
 exact G (Sem.wp_attempt ..) (x s p e1 e2 aP)
theorem dm.any{t:Sem ay}{Q:ay->bq->Prop}{A:k4}(cS:ah.In A)(x:∀s,s.heap=h->s.gens= #[]->s.os=bp->cN (di prog w) A t (λa aS=>Q a aS.heap/\aS.gens= #[]/\aS.os=bp) (λe aS=>X e aS.heap/\aS.gens= #[]/\aS.os=bp) s):dm w bp ah t Q X h:=
 λs p e1 e2 aP=>x s e1 e2 aP ah p cS
theorem sJ.tree{c:lH}(aD:ah.code=c)(x:dm w bp ah ((di prog w).den c) (λcp av=>match cp with | .done f=>∃v,f=.ret v/\R v av| .again c'=>c'.quiet=ae/\sJ w bp (ah.goto c') R X av) X h):sJ w bp ah R X h:=λs p e1 e2 aP=>by
 (refine fB (N0 ..) ?_;rw [aD])
 refine lJ _ _ _ (λcp gZ aS y=>?_) (λe gZ aS y=>⟨y.1,y.2⟩) _ _ (x s p e1 e2 aP)
 refine dS y λcA dc fi=>?_
 induction cp using PySem.Fin.casesOn with
 |done f=>exact⟨cA,dc,fi⟩
 |again c'=>exact⟨cA.1,cA.2 aS gZ rfl dc fi⟩
theorem dm.call{f:aG}{pos:List aG}{iT:List (Str×aG)}{Q:aG->bq->Prop}(x:∀p,sJ w bp (ah.enter (.call f ⟨pos,iT⟩) ac p) Q X h):dm w bp ah (PySem.call f pos iT) Q X h:=λs p e1 e2 aP=>by
 show gN _ _ (PySem.runValue _) _ _ _ _
 refine G (Sem.wp_runValue ..) (GI (λr aS y=>?_) (x p s p e1 e2 aP))
 induction r using Except.casesOn with
 |ok f=>
  refine cz y λalc b=>?_;refine bT alc λv Kx a=>?_;obtain rfl:=Kx
  exact⟨a,b⟩
 |error e=>exact y
theorem Jl{body:List cD}{Z:Env}(aD:ah.code=.func body Z)
  (k:dm w bp ah (execs body Z) (λdn av=>R (match dn with | .ret v=>v|_=>.none) av) (λe av=>dm w bp ah (leaving Z e) (λ_ ak=>X e ak) X av) h):sJ w bp ah R X h:=by
 refine sJ.tree aD ?_;show dm w bp ah (do point;match <-(execs body Z).onRaise (leaving Z) with | .ret v=>PySem.ret v|_=>PySem.ret s1) _ _ h
 refine dm.bindJ (af.point (dm.bind (dm.onRaise (dm.mono k (λdn av q=>?_) λ_ _ q=>q))))
 rcases dn<;>exact dm.of (af.ret ⟨_,rfl,q⟩)
end
abbrev fa.fr(Θ:fa)(Z:Env):fa:= {Θ with fs:=Z.locals::Θ.fs}
theorem H6{f:a1}{st:cD}{vs:List L}{vs':List aG}{H:an}{ah:Ctx}{h:bq}{X:aG->bq->Prop}(a9:ue Θ.w.params f st)(aQ:vs.length=(fF st).args.length)(ok:bz Θ.fs (d+5) ah)(lW:fW Θ ρ H h)(hv:All2 (bg ρ) vs vs')
  (k:∀gU Z ai,bz (Z.locals::Θ.fs) (d+4) gU->gU.code=.func (aW st) Z->Z.frame=J Z.locals->Z.scope=dO st->gM h ai->(∀b∈own Z,h.objs.size<=b)->pf gU.below=ah.code.envs++pf ah.below->
   bD (Θ.fr Z) Z ρ (((fF st).args.map (·.arg)).zip vs) H ai->sJ Θ.w Θ.O gU R X ai):dm Θ.w Θ.O ah (PySem.call (.ref f) vs') R X h:=by
 refine Uh a9.fd λo fd aR bA hb iS bj ll ID Az IE=>?_
 have B:=lW.base;refine dm.call λp=>sJ.tree rfl (.of ?_)
 have hM:bz Θ.fs (d+4) (ah.enter (.call (.ref f) ⟨vs',[]⟩) ac p):=ok.call (.ref f) ⟨vs',[]⟩ p;obtain⟨A,cS,asz,asy,asA⟩:=hM.room;show af Θ.w Θ.O _ (callAny (.ref f) ⟨vs',[]⟩) _ h
 refine af.bv (λ_=>af.load (B.k _ _ aR)) (Ui (codeRec_of B.k Az) λc J8 acb apb aD IX II cI=>?_)
 have pz:=a9.co;have AD:=a9.gen;rw [<-iS] at pz AD;simp only [bA,callFunction,pz,AD,hb,aD];refine af.any cS λs e1 e2 aP=>?_
 subst e1;refine b4 (m:=rF (.ref c) 1) (mi IX II cI (bN (λ_=>cK) ?_))
 refine bN (λ_=>IE s vs' B.k (cU (hv.length ..) aQ) _ _ _ _) (G ll ?_)
 have j5:fd.scope.kind=.function:=G iS a9.kind;have asi:∀x∈((fF st).args.map (·.arg)).zip vs',x.1∈(fF st).args.map (·.arg):=λx aO=>(List.of_mem_zip aO).1
 refine b4 (ah3 j5 (λx aO=>?_) λZ bl aS X Y=>?_)
 ·refine G iS ?_;rcases a9.pk _ (asi x aO) with ai|ai
  ·exact .inl ai
  ·exact .inr ⟨ai,z4 _ _ _ (.inr (mem_of_lookup ai))⟩
 have ae7:=B.lim.keeps X.toInCall.keep;refine bN (λ_=>wpAny_enterFrame ae7 (by show A.depth<1000;lia)) ?_
 refine oX X.toInCall.same λai tk qG=>?_
 refine cK ⟨⟨rfl,?_⟩,by refine G qG ?_;exact e2,by refine G qG ?_;exact aP⟩
 have vA:bz (Z.locals::Θ.fs) (d+4) ((ah.enter (.call (.ref f) ⟨vs',[]⟩) ac p).goto (.func (aW st) Z)):=(ok.wider λb hb=>f8 _ hb).goFunc _ _ _ _ _ ⟨by refine G bl ?_;show fd.scope.kind≠_;refine G j5 ?_;simp,Z.locals,fK,G bl rfl⟩
 have AG:Z.scope.names=(dO st).names:=by refine G bl ?_;show fd.scope.names=_;(exact G iS rfl)
 have vd:Z.cells=rC (s.heap.objs.size+1) (dO st).names []:=by refine G bl ?_;show rC _ fd.scope.names []=_;(exact G iS rfl)
 have Dx:Z.locals=s.heap.objs.size:=G bl rfl;have ext:gM s.heap aS.heap:=⟨X.toInCall.keep,by have :=X.toInCall.ns.lt;rw [Dx] at this;exact jz this⟩
 have aeW:∀p∈Z.cells,Z.cells.lookup p.1=J p.2:=
  G vd (HI _ _ _ a9.nodup (λ_ z=>absurd z jl) (λ_ z=>absurd z jl))
 have nD:∀b∈own Z,s.heap.objs.size<=b/\aS.heap.objs.size>b:=λb hb=>by
  rcases fw.mp hb with rfl|hb
  ·exact⟨iB Dx.symm,X.toInCall.ns.lt⟩
  ·refine bT (hQ.mp hb) λp hp ald=>?_;obtain rfl:=ald
   have :=X.above p.1 p.2 hp;rw [Dx] at this;exact⟨jz this,(X.cell _ _ (aeW p hp)).lt⟩
 have gk:bD (Θ.fr Z) Z ρ (((fF st).args.map (·.arg)).zip vs) H aS.heap:=by
  have b9:=lW.ext ext;have mu:s.heap.objs.size<=Z.locals:=iB Dx.symm;refine⟨⟨b9.len,b9.old,b9.low,b9.sep,b9.obj,λb hb=>?_⟩,⟨by refine G bl ?_;exact j5,by refine G bl ?_;exact bj,by refine G bl ?_;exact ID,⟨_,X.toInCall.ns,λx v hk e=>ZY hk hv a9.params e⟩,λx c aD=>⟨_,X.cell x c aD,λv hk e=>ZX hk hv a9.params e⟩,λx aO=>?_,X.apart,λp hp=>?_⟩,λb hb=>⟨λeH=>mF eH λi q e z=>?_,?_,(nD b hb).2⟩⟩
  ·rcases fw.mp hb with hb|hb
   ·subst hb;refine⟨?_,Y,λi q e=>?_⟩
    ·cases z:Θ.h₀.get? Z.locals with
     |none=>rfl
     |some o=>
      have hu:s.heap.objs.size>Z.locals:=gE (lW.old _ _ z);exact absurd hu (n8.mpr mu)
    ·have hu:=lW.lt e;exact⟨λz=>by rw [z] at mu;exact jn _ (eE hu.1 mu),λz=>by rw [z] at mu;exact jn _ (eE hu.2 mu)⟩
   ·exact b9.frm b hb
  ·have aQ:∀r6,Z.kindOf x=J r6->(x,r6)∈(dO st).names:=λr6 e=>mem_of_lookup (cU AG e)
   rcases aO with aO|aO
   ·exact G vd (z4 _ _ _ (.inr (aQ _ aO)))
   ·exact absurd rfl (a9.nofree _ (aQ _ aO))
  ·have :=X.above p.1 p.2 hp;exact λz=>by rw [z] at this;exact jn _ this
  ·have hu:=lW.lt e;have jC:=(nD b hb).1;rcases z with z|z<;>rw [z] at jC<;>lia
  ·cases z:Θ.h₀.get? b with
   |none=>rfl
   |some o=>
    have hu:s.heap.objs.size>b:=gE (lW.old _ _ z);have jC:=(nD b hb).1;lia
 refine k _ Z aS.heap vA rfl (by refine G bl ?_;rfl) (by refine G bl ?_;exact iS) ext (λb hb=>(nD b hb).1) ?_ gk
 show pf ((ah.code,p)::ah.below)=_
 (exact G (envsOf_cons ..) rfl)
theorem Pq{f:a1}{st:cD}{vs:List L}{H:an}{k:L->an->Prop}(a9:ue Θ.w.params f st)(hs:∀b,km {Θ with fs:=b::Θ.fs} C d (aW st))(aQ:vs.length=(fF st).args.length)
  (w:b1 False C (aW st) (dO st).names (((fF st).args.map (·.arg)).zip vs) H λdn _ H=>k (D8 dn) H):BS Θ (d+5) f vs H k:=by
 intro ah ρ h vs' ok lW hv;refine dm.toJ (H6 a9 aQ ok lW hv λgU Z ai vA aD Ds iS ext nD _ gk=>Jl aD (.of ?_))
 refine af.mono (hs Z.locals (k:=λdn _ H=>k (D8 dn) H) vA gk (G iS w)) λf' ak cV=>?_
 obtain⟨du,jK,cM,cX,cd,dn,r,ea⟩:=cV;have frm:d3 [] ρ h du ak:=by
  refine⟨cd.sub,λi p e hi=>?_,λb o e hb _=>cd.keep b o (ext.1 b o e) hb λz=>?_,cQ ext.2 cd.size⟩
  ·have :=cd.new i p e hi;have :=ext.2;lia
  ·have hu:h.objs.size>b:=gE e;have jC:=nD b z;lia
 have dG:fW Θ du cM ak:=⟨cX.rel.len,cX.rel.old,cX.rel.low,cX.rel.sep,cX.rel.obj,λb hb=>cX.rel.frm b (f8 _ hb)⟩
 induction dn using Mine.Internal.jw.casesOn with
 |next=>cases r;exact⟨du,cM,.none,dG,frm,rfl,ea⟩
 |brk=>cases r;exact⟨du,cM,.none,dG,frm,rfl,ea⟩
 |cont=>cases r;exact⟨du,cM,.none,dG,frm,rfl,ea⟩
 |ret v=>obtain⟨aJ,e,r⟩:=r;cases e;exact⟨du,cM,v,dG,frm,r,ea⟩
end
theorem aoW{t aK:Sem (Option (List Str))}{nm ab:List Str}{dv dy eT hX kJ:Prop}{_:Decidable dv}{_:Decidable dy}{_:Decidable eT}{_:Decidable hX}{_:Decidable kJ}(ai:¬dv)(ak:¬dy)(aZ:nm=ab\/eT)(gl:¬kJ)
  (e:t=if dv then bK ac else if dy then bK ac else if eT then bK ac else if hX then bK ac else if kJ then aK else bK (J nm)):t=bK ac\/t=bK (J ab):=by
 rw [a8 ai,a8 ak,a8 gl] at e;by_cases k3:eT
 ·rw [aY k3] at e;exact .inl e
 ·rw [a8 k3] at e;by_cases oH:hX
  ·rw [aY oH] at e;exact .inl e
  ·rw [a8 oH] at e;rcases aZ with h|h
   ·subst h;exact .inr e
   ·exact absurd h k3
theorem QX{ay:Type}{c:Prop}{_:Decidable c}{a:ay}:(if c then J a else ac)=J a\/(if c then J a else ac)=ac:=by
 by_cases h:c
 ·exact .inl (aY h)
 ·exact .inr (a8 h)
theorem adK{ay bF:Type}{f:ay->Option bF}{x y:ay}{a b:bF}{c:Bool}(ai:f x=J a\/f x=ac)(ak:f y=J b\/f y=ac):List.filterMap f [x,y]=[a,b]\/((List.filterMap f [x,y]).length !=2||c)=ae:=by
 rcases ai with ai|ai<;>rcases ak with ak|ak<;>simp [ai,ak]
theorem X7{ay:Type}{f:ay->Bool}{x y:ay}(ai:f x=aA)(ak:f y=aA):¬ [x,y].any f=ae:=by simp [ai,ak]
theorem aoX{a b:Str}{pa pb:Pos}{n1 n2:Nat}{p1 p2:Pos}{x y:aU}(hk:Z.scope.kind=.function)(aO:gA [x,y]=ae)(aD:(rE 8 x&&rE 8 y)=aA):
  wG [.Tuple [.Name a pa,.Name b pb] n1 p1] (.Tuple [x,y] n2 p2) Z=bK ac\/wG [.Tuple [.Name a pa,.Name b pb] n1 p1] (.Tuple [x,y] n2 p2) Z=bK (J [a,b]):=by
 have hb:Z.blockKind=.function:=by unfold Gm;rw [hk];rfl
 have aO:=fm aO;refine aoW ?_ ?_ ?_ ?_ rfl
 ·rw [hb];exact b8
 ·refine X7 ?_ ?_
  ·rcases x<;>first |rfl|exact b8 aO.1
  ·rcases y<;>first |rfl|exact b8 (fm aO.2).1
 ·exact adK QX QX
 ·show¬(rE 8 x&&(rE 8 y&&ae))=ae
  rw [Bool.and_true,aD];exact b8
theorem aph{ay:Type}{l:List ay}(h:l.length=2):∃u v,l=[u,v]:=by
 rcases l with - |⟨a,- |⟨b,- |⟨c,l⟩⟩⟩
 ·cases h
 ·cases h
 ·exact⟨a,b,rfl⟩
 ·cases h
set_option tactic.hygienic true in
theorem ec.pair{a b:Str}{pa pb:Pos}{n1 n2:Nat}{p1 p2 pos:Pos}{x y:aU}(bl:cE Θ C d (.Tuple [x,y] n2 p2))(aO:gA [x,y]=ae)(aD:(rE 8 x&&rE 8 y)=aA)(IA:(a==b)=aA):
  ec Θ C d (.Assign [.Tuple [.Name a pa,.Name b pb] n1 p1] (.Tuple [x,y] n2 p2) pos):=λ{ah Z ρ m H h k} ok gk w=>by
 have ce:iN Θ C d (.Tuple [.Name a pa,.Name b pb] n1 p1):=iN.tuple (λe bl=>by
  rcases fw.mp bl with rfl|bl
  ·exact iN.name
  ·rcases fw.mp bl with rfl|bl
   ·exact iN.name
   ·rcases bl) rfl
 rw [L3] at w;have dg:exec (.Assign [.Tuple [.Name a pa,.Name b pb] n1 p1] (.Tuple [x,y] n2 p2) pos) Z=(gw pos>>=λ_=>eval (.Tuple [x,y] n2 p2) Z>>=λv=>wG [.Tuple [.Name a pa,.Name b pb] n1 p1] (.Tuple [x,y] n2 p2) Z>>=λvL=>Gp Z v vL [PySem.assign (.Tuple [.Name a pa,.Name b pb] n1 p1) Z]):=rfl
 refine G dg (.stand (.bindV (bl ok gk w) λaJ v bG bI ai bL cP b9 bE=>?_))
 rcases aoX (pa:=pa) (pb:=pb) (n1:=n1) (n2:=n2) (p1:=p1) (p2:=p2) gk.fr.kind aO aD with e|e
 ·refine G e ?_;show aa Θ ah Z bG (PySem.assign (.Tuple [.Name a pa,.Name b pb] n1 p1) Z aJ>>=λ_=>bK sY) _ ai
  exact .bind (ce ok bL b9 bE) λ_ du m cM ak cX d6 ea=>.pure cX ⟨.next,rfl,ea⟩
 ·refine G e ?_;have e1:(bK (J [a,b])>>=λvL=>Gp Z aJ vL [PySem.assign (.Tuple [.Name a pa,.Name b pb] n1 p1) Z])=(PySem.rule "assign.swapped-stores">>=λ_=>CF aJ 2 ac>>=λitems=>uH [wD Z b,wD Z a] items.reverse>>=λ_=>bK sY):=rfl
  refine G e1 (af.bv (λ_=>af.rule) ?_)
  rw [T4] at bE;split at bE
  ·rename_i j;split at bE
   ·rename_i l ei;split at bE
    ·rename_i aQ;refine oX (aph aQ) λu v alf=>?_;obtain rfl:=alf
     have a2:=Jy (d:=d) (Z:=Z) (m:=m) ok bL (show bg bG (.new j) aJ from b9) ei
     have e2:[u,v].length=2:=rfl;rw [e2] at a2;refine aa.bind a2 λitems du m cM ak cX d6 q=>?_
     refine dS q λaM a7 q3=>?_
     subst aM a7;refine kA q3.two λef ja iF jO nN=>?_
     subst iF;rw [L0] at bE;try dsimp only at bE
     rw [LZ] at bE;simp only [L0,LZ,T5] at bE;try dsimp only at bE
     split at bE
     ·rename_i ha;split at bE
      ·rename_i hb;have aP:uH [wD Z b,wD Z a] [ef,ja].reverse=(gO [ef] (wD Z b ja)>>=λ_=>gO [] (wD Z a ef)>>=λ_=>bK ()):=rfl
       refine G aP ?_;simp only [uv];refine aa.bind (Q1:=λ_ cb bV bb=>cb=du/\bV=fA m b v/\bb=cM) (.holding (vJ ok cX hb nN)) λ_ kf m cg aZ fx hN z=>?_
       refine dS z λgs fu f1=>?_
       subst gs fu f1;refine aa.bind (Q1:=λ_ cb bV bb=>cb=kf/\bV=fA (fA m b v) a u/\bb=cg) (.holding (vJ ok fx ha jO)) λ_ q9 m eD cC ko xB z=>?_
       refine dS z λgs fu f1=>?_
       subst gs fu f1;have gX:a≠b:=by simpa using IA
       have pj:bD Θ Z q9 (fA (fA m a u) b v) eD cC:=ko.congr λx=>by
        simp only [qO];by_cases aM:x=a
        ·have a7:¬x=b:=λz=>gX (aM.symm.trans z)
         (exact G (a8 a7) (G (aY aM) (G (aY aM) rfl)))
        ·by_cases a7:x=b
         ·(exact G (aY a7) (G (a8 aM) (G (aY a7) rfl)))
         ·(exact G (a8 a7) (G (a8 aM) (G (a8 aM) (G (a8 a7) rfl))))
       exact aa.pure pj ⟨.next,rfl,bE⟩
      ·exact bE.elim
     ·exact bE.elim
    ·exact bE.elim
   ·exact bE.elim
  ·exact bE.elim
noncomputable def hg(Z:Env)(l:List (Str×lI))(g8:List (Str×a1)):List (Str×a1):=l.foldl (λg8 p=>if p.2== .free then(p.1,(Z.cells.lookup p.1).getD 0)::g8 else g8) g8
theorem C1{Z:Env}{n:Str}{k:lI}{r:List (Str×lI)}{g8:List (Str×a1)}:hg Z ((n,k)::r) g8=hg Z r (if k== .free then(n,(Z.cells.lookup n).getD 0)::g8 else g8):=rfl
theorem PA{Z:Env}:∀(fZ:List (Str×lI)) (g8:List (Str×a1)),(∀p∈fZ,p.2=.free->(Z.cells.lookup p.1).isSome=ae)->
  (forIn fZ g8 λx (r:List (Str×a1))=>if(x.2==s0)=ae then(do let c <-cellOf Z x.1;bK (uf ((x.1,c)::r))) else bK (uf r):Sem (List (Str×a1)))=bK (hg Z fZ g8)
 | [],g8,_=>rfl
 |(n,k)::r,g8,h=>by
  refine G (FZ ..) ?_;have ih:=λg8=>PA r g8 λp hp=>h p (f8 _ hp)
  rw [C1];by_cases hk:(k==s0)=ae
  ·refine cm (sV.mp (h (n,k) fK (by simpa using hk))) λc aD=>?_
   simp only [hk,if_true];have :cellOf Z n=bK c:=by unfold cellOf;(exact G aD rfl)
   refine G this (G aD ?_);simp only [zk,Option.getD_some];exact ih _
  ·simp only [hk,if_false,zk,ng];exact ih _
theorem Pz{Z:Env}{p:Str×a1}:∀(fZ:List (Str×lI)) (g8:List (Str×a1)),p∈hg Z fZ g8->p∈g8\/((p.1,s0)∈fZ/\p.2=(Z.cells.lookup p.1).getD 0)
 | [],g8,h=>.inl h
 |(n,k)::r,g8,h=>by
  rw [C1] at h;rcases Pz r _ h with h|h
  ·split at h
   ·rename_i hk;rcases fw.mp h with rfl|h
    ·exact .inr ⟨by refine G (beq_iff_eq.mp hk) ?_;exact fK,rfl⟩
    ·exact .inl h
   ·exact .inl h
  ·exact .inr ⟨f8 _ h.1,h.2⟩
theorem Py{Z:Env}{x:Str}:∀(fZ:List (Str×lI)) (g8:List (Str×a1)),((g8.lookup x).isSome=ae\/(x,s0)∈fZ)->((hg Z fZ g8).lookup x).isSome=ae
 | [],g8,h=>by
  rcases h with h|h
  ·exact h
  ·rcases h
 |(n,k)::r,g8,h=>by
  rw [C1];refine Py r _ ?_;rcases h with h|h
  ·refine .inl ?_;split
   ·refine G sO ?_;split
    ·rfl
    ·exact h
   ·exact h
  ·rcases fw.mp h with h|h
   ·refine oM h λalg alh=>?_;obtain rfl:=alg;obtain rfl:=alh
    refine .inl ?_;refine G (aY (by rfl)) (G sO ?_);simp
   ·exact .inr h
theorem HQ{Z:Env}:∀(fZ:List (Str×lI)) (g8:List (Str×a1)),(g8.map (·.1)).Nodup->(fZ.map (·.1)).Nodup->(∀p∈g8,p.1∉fZ.map (·.1))->((hg Z fZ g8).map (·.1)).Nodup
 | [],g8,h,_,_=>h
 |(n,k)::r,g8,h,hn,bA=>by
  rw [h9,n4] at hn;rw [C1];split
  ·refine HQ r _ ?_ hn.2 λp hp=>?_
   ·refine G h9 (fB n4 ?_);refine⟨λz=>?_,h⟩
    refine bT (hQ.mp z) λp hp e=>?_
    exact bA p hp (by(rw [e]);exact fK)
   ·rcases fw.mp hp with rfl|hp
    ·exact hn.1
    ·exact λz=>bA p hp (f8 _ z)
  ·exact HQ r _ h hn.2 λp hp z=>bA p hp (f8 _ z)
theorem DT{bF:Type}(f:Str->Bool)(x:Str):∀l:List (Str×bF),cy (l.filter λp=>f p.1) x=if f x then cy l x else ac
 | []=>by rcases f x<;>rfl
 |(y,v)::l=>by
  have ih:=DT f x l;refine G kE ?_;by_cases q:y=x
  ·subst q;by_cases aq:f y=ae
   ·simp only [aq,if_true];rw [pE,aY rfl,pE,aY rfl]
   ·simp only [aq,if_false,ng];refine G ih ?_;simp [aq]
  ·by_cases aq:f y=ae
   ·simp only [aq,if_true];rw [pE,pE];exact G (a8 q) (G (a8 q) ih)
   ·simp only [aq,if_false,ng];refine G ih ?_;rw [pE];(exact G (a8 q) rfl)
theorem DS{bF:Type}(y x:Str)(v:bF)(l:List (Str×bF)):cy ((y,v)::l) x=if y=x then J v else cy l x:=rfl
theorem AZ(ax:ds)(x:Str):∀fZ:ds,cy (gF ax fZ) x=match cy fZ x with |J .free=>if(cy ax x==J .cell)=ae then J .cell else J .free|r=>r
 | []=>rfl
 |(y,k)::l=>by
  have ih:=AZ ax x l;unfold gF at ih⊢;refine G h9 ?_;dsimp only;by_cases c:(k==s0&&cy ax y==J .cell)=ae
  ·refine G ((aY c) ..) (G (DS ..) (G (DS ..) ?_));by_cases q:y=x
   ·subst q;rw [he] at c;have hk:k=.free:=by simpa using c.1
    subst hk;simp only [if_true,c.2]
   ·exact G (a8 q) (G (a8 q) ih)
  ·refine G ((a8 c) ..) (G (DS ..) (G (DS ..) ?_));by_cases q:y=x
   ·subst q;simp only [if_true];rcases k<;>try rfl
    rw [he] at c;have :¬(cy ax y==J NI)=ae:=λz=>c ⟨rfl,z⟩
    simp only [this,if_false,ng]
   ·exact G (a8 q) (G (a8 q) ih)
theorem Il{b:a1}(f:d3 X ρ h cb av)(lt:h.objs.size>b)(fh:¬gQ ρ b):¬gQ cb b:=λeH=>mF eH λi p cT z=>by
 by_cases aQ:ρ.length<=i
 ·have q:=f.new i p cT aQ;rcases z with z|z<;>rw [z] at lt<;>lia
 ·obtain⟨q,cI⟩:∃q,ρ[i]? =J q:=⟨_,iy (wq aQ)⟩;have :=f.sub.get cI;rw [cT] at this;obtain rfl:=ci this;exact fh ⟨i,p,cI,z⟩
theorem bD.outer{mm:Loc}(a:bD Θ Z ρ m H h)(da:bD Θ de cb mm bb av)(f:d3 (own de) ρ h cb av)(aD:∀x c,Z.cells.lookup x=J c->c∈own de->de.cells.lookup x=J c/\de.kindOf x≠J .local /\cy mm x=cy m x)(aQ:Z.locals∉own de):bD Θ Z cb m bb av:=by
 refine⟨da.rel,⟨a.fr.kind,a.fr.glob,a.fr.blt,?_,λx c e=>?_,a.fr.has,a.fr.apart,a.fr.napart⟩,λb hb=>⟨Il f (a.out b hb).2.2 (a.out b hb).1,(a.out b hb).2.1,eE (a.out b hb).2.2 f.size⟩⟩
 ·refine bT a.fr.ns λnm ali b=>?_;obtain⟨o,aH,ii,aR,r⟩:=ali
  exact bT (f.keep _ _ aR (λz=>(a.out _ fK).1 (tx z)) aQ) λsl cT _=>⟨nm,⟨_,aH,ii,cT,r⟩,λy v e1 e2=>bT (b y v e1 e2) λaJ p q=>⟨aJ,p,q.sub f.sub⟩⟩
 ·by_cases bc:c∈own de
  ·exact dS (aD x c e bc) λai ak aZ=>bT (da.fr.cell x c ai) λkb hv r=>⟨kb,hv,λv _ hv=>r v ak (aZ▸hv)⟩
  ·refine bT (a.fr.cell x c e) λkb alj r=>?_;refine bT alj λo aM a7=>?_
   have hb:c∈own Z:=f8 _ (rr (f:=(·.2)) (mem_of_lookup e));exact bT (f.keep _ _ aM (λz=>(a.out _ hb).1 (tx z)) bc) λsl cT _=>⟨kb,⟨_,cT,a7⟩,λv hk e=>bT (r v hk e) λaJ p q=>⟨aJ,p,q.sub f.sub⟩⟩
theorem bD.stepsO{lo hi:Nat}(a:bD Θ Z ρ m H h)(s:qp Θ de ρ lo hi h av)(hb:∀b∈own Z,b<lo):bD Θ Z ρ m H av:=
 a.steps (lo:=lo) (hi:=hi) ⟨λb o z e=>s.1 b o (by
  rcases z with z|z|z|z|z
  ·exact .inl z
  ·exact .inr (.inl z)
  ·exact .inr (.inr (.inl z))
  ·exact .inl (hb b z)
  ·exact .inr (.inr (.inr (.inr z)))) e,s.2⟩
theorem d3.after{Y:List a1}{iu:cq}{bu:bq}(f:d3 Y iu bu ρ h)(aB:d3 X ρ h cb av)(f4:∀b∈X,b∈Y\/bu.objs.size<=b):d3 Y iu bu cb av:=by
 have nC:d3 (X++Y) ρ h cb av:=⟨aB.sub,aB.new,λb o e ai ak=>aB.keep b o e ai λz=>ak (B9 _ z),aB.size⟩
 have f':d3 (X++Y) iu bu ρ h:=⟨f.sub,f.new,λb o e ai ak=>f.keep b o e ai λz=>ak (Ca _ z),f.size⟩
 have t:=f'.trans nC;refine⟨t.sub,t.new,λb o e ai ak=>t.keep b o e ai λz=>?_,t.size⟩
 rcases md.mp z with z|z
 ·rcases f4 b z with z|z
  ·exact ak z
  ·exact jn _ (eE (gE e) z)
 ·exact ak z
theorem fW.adopt(x:fW Θ ρ H h){p:a1×a1}{o:bt}(n1:¬gQ ρ p.1)(n2:¬gQ ρ p.2)(dx:Θ.h₀.get? p.1=ac/\p.1∉Θ.fs)(el:Θ.h₀.get? p.2=ac/\p.2∉Θ.fs)(r:j9 Θ.w.params (ρ++[p]) p h o):fW Θ (ρ++[p]) (H++[o]) h:=by
 have sub:Sub ρ (ρ++[p]):=⟨[p],rfl⟩;have pr:∀i q,(ρ++[p])[i]? =J q->ρ[i]? =J q\/(i=ρ.length/\q=p):=by
  intro i q e;rcases Cj i ρ.length with aQ|aQ
  ·rw [sL aQ] at e;exact .inl e
  ·rw [sM aQ] at e;have :i - ρ.length=0:=by
    have :=(kF.mp e).1;simp at this;exact‹_›
   rw [this] at e;simp at e
   exact .inr ⟨OK aQ this,e.symm⟩
 refine⟨by simp [x.len],x.old,λi q e hi=>?_,λi j q iE e1 e2 vh=>?_,λi q o' e1 e2=>?_,λb hb=>?_⟩
 ·rcases pr i q e with e|⟨-,rfl⟩
  ·exact x.low i q e hi
  ·exact⟨dx.1,el.1⟩
 ·rcases pr i q e1 with ch|⟨a,rfl⟩<;>rcases pr j iE e2 with cd|⟨b,rfl⟩
  ·exact x.sep i j q iE ch cd vh
  ·exact⟨λz=>n1 ⟨i,q,ch,.inl z.symm⟩,λz=>n2 ⟨i,q,ch,.inl z.symm⟩,λz=>n1 ⟨i,q,ch,.inr z.symm⟩,λz=>n2 ⟨i,q,ch,.inr z.symm⟩⟩
  ·exact⟨λz=>n1 ⟨j,iE,cd,.inl z⟩,λz=>n1 ⟨j,iE,cd,.inr z⟩,λz=>n2 ⟨j,iE,cd,.inl z⟩,λz=>n2 ⟨j,iE,cd,.inr z⟩⟩
  ·lia
 ·rcases pr i q e1 with e1|⟨a,rfl⟩
  ·have aQ:=(kF.mp e1).1;rw [sL (cU x.len aQ)] at e2;exact(x.obj i q o' e1 e2).sub sub
  ·subst a;rw [x.len,sM (cW _)] at e2;simp at e2;subst e2;exact r
 ·refine dS (x.frm b hb) λa c f=>⟨a,c,λi q e=>?_⟩
  rcases pr i q e with e|⟨-,rfl⟩
  ·exact f i q e
  ·exact⟨λz=>dx.2 (z▸hb),λz=>el.2 (z▸hb)⟩
theorem bD.adopt(a:bD Θ Z ρ m H h){D:a1}{o:bt}(n1:¬gQ ρ D)(dx:Θ.h₀.get? D=ac/\D∉Θ.fs)(xm:D∉own Z)(r:j9 Θ.w.params (ρ++[(D,D)]) (D,D) h o):bD Θ Z (ρ++[(D,D)]) m (H++[o]) h:=by
 refine⟨a.rel.adopt n1 n1 dx dx r,a.fr.move ⟨_,rfl⟩ λ_ _ _ e=>.of e,λb hb=>⟨λeH=>mF eH λi p e z=>?_,(a.out b hb).2⟩⟩
 rcases Cj i ρ.length with aQ|aQ
 ·rw [sL aQ] at e;exact(a.out b hb).1 ⟨i,p,e,z⟩
 ·rw [sM aQ] at e;have :i - ρ.length=0:=by
   have :=(kF.mp e).1;simp at this;exact‹_›
  rw [this] at e;simp at e
  subst e;rcases z with z|z<;>exact xm ((show b=D from z)▸hb)
theorem d3.adopt{iu:cq}{bu:bq}(f:d3 X iu bu ρ h){D:a1}(w4:bu.objs.size<=D):d3 X iu bu (ρ++[(D,D)]) h:=by
 refine⟨f.sub.trans ⟨_,rfl⟩,λi p e hi=>?_,f.keep,f.size⟩
 rcases Cj i ρ.length with aQ|aQ
 ·rw [sL aQ] at e;exact f.new i p e hi
 ·rw [sM aQ] at e;have :i - ρ.length=0:=by
   have :=(kF.mp e).1;simp at this;exact‹_›
  rw [this] at e;simp at e
  subst e;exact⟨w4,w4⟩
theorem zQ{D:a1}(fh:¬gQ ρ D)(xm:D∉own Z)(dx:Θ.h₀.get? D=ac/\D∉Θ.fs)(gc:zz D h av):qp Θ Z ρ D (D+1) h av:=by
 refine⟨λb o z e=>gc.extBut b o ?_ e,iB gc.1.symm⟩
 rintro rfl
 rcases z with z|z|z|z|z|z
 ·exact jn _ z
 ·exact jn _ (eE (F9 _) z)
 ·exact fh z
 ·exact xm z
 ·rw [dx.1] at z;exact b8 z
 ·exact dx.2 z
theorem QU{Z:Env}:∀eU:List aU,(forIn eU aA λc (r:Bool)=>if r=ae then(do let ok <-isTrue c Z (eval c Z);bK (uf ok)) else bK (uf r):Sem Bool)=bK aA
 | []=>rfl
 |c::r=>by refine G (FZ ..) ?_;simp only [ng,if_false,zk];exact QU r
theorem QT:∀ {eU:List aU},(∀e∈eU,ST Θ C d e)->∀ {ah Z ρ m H h} {k:Bool->an->Prop},bz Θ.fs (d+4) ah->bD Θ Z ρ m H h->jb False C eU Z.scope.names m H k->
  aa Θ ah Z ρ (forIn eU ae λc (r:Bool)=>if r=ae then(do let ok <-isTrue c Z (eval c Z);bK (uf ok)) else bK (uf r):Sem Bool) (λb _ bV bb=>bV=m/\k b bb) h
 | []=> @λ_ ah Z ρ m H h k ok a w=>by
  exact aa.pure a ⟨rfl,ari.mp w⟩
 |e::aH=> @λbl ah Z ρ m H h k ok a w=>by
  rw [arh] at w;refine G (FZ ..) ?_;simp only [if_true,uv,zk];refine .bind (bl e fK ok a w) λb bG dF bI ai bL cP cV=>?_
  refine cz cV λaM bE=>?_
  subst aM;induction b using t5 with
  |true=>exact QT (λe h=>bl e (f8 _ h)) ok bL bE
  |false=>
   exact G (QU ..) (.pure bL ⟨rfl,bE⟩)
theorem ab2(dW dq iter:aU)(eU:List aU)(m8:jA)(pos:Pos)(it acc:aG)(Z:Env):
 compTurn (.ListComp dW [⟨dq,iter,eU,0⟩] m8 pos) 0 it acc Z=(gw iter.pos>>=λ_=>pyNext it>>=λr=>match r with
  |ac=>bK (.done .next)
  |J v=>NP dq it v>>=λ_=>PySem.assign dq Z v>>=λ_=>
   (forIn eU ae λc (r:Bool)=>if r=ae then(do let ok <-isTrue c Z (eval c Z);bK (uf ok)) else bK (uf r):Sem Bool)>>=λok=>
   if ok=ae then(eval dW Z>>=λx=>call (.builtin "list.append") [acc,x]>>=λ_=>bK ())>>=λ_=>again (.compLoop (.ListComp dW [⟨dq,iter,eU,0⟩] m8 pos) 0 it acc Z)
   else again (.compLoop (.ListComp dW [⟨dq,iter,eU,0⟩] m8 pos) 0 it acc Z)):=by rfl
section
structure yT(Θ:fa)(Z de:Env)(lo hi:Nat)(D:a1)(bu:bq)(dq:aU):Prop where
 hD:hi<=D
 no':D∉own de
 no:D∉own Z
 old:Θ.h₀.get? D=ac/\D∉Θ.fs
 lo0:bu.objs.size<=lo
 lohi:lo<=hi
 ownLo:∀b∈own Z,b<lo
 ownHi:∀b∈own de,b∈own Z\/hi<=b
 loc:Z.locals∉own de
 cells:∀x c,Z.cells.lookup x=J c->c∈own de->de.cells.lookup x=J c/\de.kindOf x≠J .local
 tgt:∀jI m H bV,eu de.scope.names dq jI m H=J bV->∀x,de.kindOf x≠J .local ->cy bV x=cy m x
structure nh(Θ:fa)(Z de:Env)(m:Loc)(D:a1)(iu:cq)(bu:bq)(ρ:cq)(mm:Loc)(H:an)(h:bq)(acc:List L)(vs:List aG):Prop where
 a':bD Θ de ρ mm H h
 a:bD Θ Z ρ m H h
 ag:∀x c,Z.cells.lookup x=J c->c∈own de->cy mm x=cy m x
 f:d3 (own Z) iu bu ρ h
 nf:¬gQ ρ D
 pl:h.PlainList D vs.toArray
 all:All2 (bg ρ) acc vs
variable {D:a1}{iu:cq}{bu:bq}{dq:aU}{mm mm':Loc}{acc:List L}
theorem nh.step(K:yT Θ Z de lo hi D bu dq)(x:nh Θ Z de m D iu bu ρ mm H h acc vs)(hu:bD Θ de cb mm' bb av)(f:d3 (own de) ρ h cb av)(OP:∀x c,Z.cells.lookup x=J c->c∈own de->cy mm' x=cy mm x):nh Θ Z de m D iu bu cb mm' bb av acc vs:=by
 refine cm x.pl λk e=>⟨hu,x.a.outer hu f (λy c e bc=>⟨(K.cells y c e bc).1,(K.cells y c e bc).2,(OP y c e bc).trans (x.ag y c e bc)⟩) K.loc,λy c e bc=>(OP y c e bc).trans (x.ag y c e bc),x.f.after f λb hb=>?_,Qg f e x.nf,⟨k,(f.keep _ _ e (λz=>x.nf (tx z)) K.no').exact (by simp)⟩,x.all.mono λ_ _ r=>r.sub f.sub⟩
 rcases K.ownHi b hb with z|z
 ·exact .inl z
 ·exact .inr (cQ K.lo0 (cQ K.lohi z))
theorem nh.steps(K:yT Θ Z de lo hi D bu dq)(x:nh Θ Z de m D iu bu ρ mm H h acc vs)(s:qp Θ de ρ lo hi h av):nh Θ Z de m D iu bu ρ mm H av acc vs:=by
 exact cm x.pl λk e=>⟨x.a'.steps s,x.a.stepsO s K.ownLo,x.ag,x.f.steps s K.lo0,x.nf,⟨k,s.1 _ _ (.inr (.inl K.hD)) e⟩,x.all⟩
theorem nh.push(K:yT Θ Z de lo hi D bu dq)(x:nh Θ Z de m D iu bu ρ mm H h acc vs){v:L}{aJ:aG}(r:bg ρ v aJ)(gc:zz D h av)(pl:av.PlainList D (vs.toArray.push aJ)):nh Θ Z de m D iu bu ρ mm H av (acc++[v]) (vs++[aJ]):=by
 have cP:qp Θ de ρ D (D+1) h av:=zQ x.nf K.no' K.old gc;have d6:qp Θ Z ρ D (D+1) h av:=zQ x.nf K.no K.old gc;have e:vs.toArray.push aJ=(vs++[aJ]).toArray:=by simp
 rw [e] at pl;exact⟨x.a'.steps cP,x.a.steps d6,x.ag,x.f.steps d6 (cQ K.lo0 (cQ K.lohi K.hD)),x.nf,pl,x.all.append (.cons r .nil)⟩
set_option tactic.hygienic true in
theorem ab0{dW iter:aU}{eU:List aU}{sc:jA}{pos:Pos}{it:aG}{c0:lH}{p0:Pos}{s:kI}{am:Nat->cq->bq->Prop}{U:Nat->aG->cq->bq->Prop}(K:yT Θ Z de lo hi D bu dq)(X:wj Θ d de s it lo hi am U)(bl:cE Θ C d dW)
   (tH:∀e∈eU,ST Θ C d e) (ok:bz Θ.fs (d+4) ah) {q:List L->an->Prop}:∀(n k:Nat) {ρ mm H h acc vs},nh Θ Z de m D iu bu ρ mm H h acc vs->am k ρ h->acc.length+n<=1000->
   jX False de.scope.names dq (λm H q=>jb False C eU de.scope.names m H q) (λm H q=>bO False C dW de.scope.names m H q) s n k mm H acc q->
   kh Θ.w Θ.O ((ah.enter c0 ac p0).goto (.compLoop (.ListComp dW [⟨dq,iter,eU,0⟩] sc pos) 0 it (.ref D) de)) (λf ai=>∃bG ahP bI ON aqs,nh Θ Z de m D iu bu bG ahP bI ai ON aqs/\q ON bI) h:=by
 intro n;induction n with
 |zero=>
  exact @λk ρ mm H h acc vs x IQ mZ w=>by
   exact MC w
 |succ n ih=>
  exact @λk ρ mm H h acc vs x IQ mZ w=>by
   rw [abZ] at w;have hM:bz Θ.fs (d+4) ((ah.enter c0 ac p0).goto (.compLoop (.ListComp dW [⟨dq,iter,eU,0⟩] sc pos) 0 it (.ref D) de)):=ok.zero _ _ _ rfl rfl rfl;refine kh.tree rfl (af.onRaise (G (ab2 ..) (af.bv (λ_=>af.standAt) (af.bind ?_))))
   split at w
   ·exact w.elim
   ·rename_i e;refine af.mono (X.step hM x.a' IQ e) λr ai cV=>?_
    refine cz cV λst aM=>?_
    subst aM;exact af.pure ⟨ρ,mm,H,acc,vs,x.steps K st,w⟩
   ·rename_i jI e;refine af.mono (X.step hM x.a' IQ e) λr ai cV=>?_
    refine Mm cV λst aJ aM vf sf=>?_
    subst aM;have az:=x.steps K st;set_option smartUnfolding false in refine jM w λbV fc w=>?_
    refine af.bind (af.mono (X.letgo hM az.a' vf e sf fc) λ_ ak cV=>?_)
    refine dS cV λEh vg KZ=>?_
    have aT:=az.steps K Eh;refine af.bind (af.mono (Tl hM aT.a' KZ fc) λ_ aZ cV=>?_)
    obtain⟨kf,A2,cg,fx,ee,aM,a7⟩:=cV;subst aM a7;have ca:=aT.step K fx ee λy c ig bc=>K.tgt _ _ _ _ fc y (K.cells y c ig bc).2
    have vl:=X.stable aT.a' vg ee (λb hb=>.inl hb)
    refine af.bind (af.mono (QT tH hM fx w) λb cC cV=>?_)
    obtain⟨q9,A3,eD,ko,jE,aM,pR⟩:=cV;subst aM;have c7:=ca.step K ko jE λ_ _ _ _=>rfl
    have AM:=X.stable fx vl jE (λb hb=>.inl hb)
    induction b using t5 with
    |false=>
     refine af.again ⟨rfl,ih (k+1) c7 AM (jz ‹_›) pR⟩
    |true=>
     refine af.bind (af.bind (af.mono (bl hM ko pR) λaJ gl cV=>?_))
     obtain⟨pY,ahA,eP,pj,jF,aM,v,qS,LS⟩:=cV;subst aM;have eG:=c7.step K pj jF λ_ _ _ _=>rfl
     have afE:=X.stable ko AM jF (λb hb=>.inl hb)
     obtain⟨A,cS,a6,-,-⟩:=hM.room;refine af.bind (af.mono (Q:=λ_ gH=>nh Θ Z de m D iu bu pY ahA eP gH (acc++[v]) (vs++[aJ])/\am (k+1) pY gH) (af.any cS λs e1 e2 aP=>?_) λ_ gH eH=>cz eH λh4 afF=>?_)
     ·subst e1;refine wpAny_list_append_plain eG.pl (λgH pl gc=>⟨⟨eG.push K qS gc pl,X.stable pj afE (X:=[D]) ⟨.refl _,λi p e hi=>absurd e (by refine G (mP hi) ?_;simp),λb o e _ hb=>.of (gc.extBut b o (λz=>hb (G z fK)) e),iB gc.1.symm⟩ λb hb=>?_⟩,e2,aP⟩) ?_
      ·rcases fw.mp hb with rfl|hb
       ·exact .inr K.hD
       ·rcases hb
      ·refine G k9 (G iA (cU x.all.length ?_));lia
     ·exact af.pure (af.again ⟨rfl,ih (k+1) h4 afF (by refine G iz ?_;show acc.length+1+n<=1000;lia) LS⟩)
end
variable {dq:aU}
section
variable {dW iter:aU}{eU:List aU}{pos:Pos}
theorem DU{bF:Type}{x:Str}{v:bF}:∀ {l:List (Str×bF)},(l.map (·.1)).Nodup->(x,v)∈l->l.lookup x=J v:=by
 intro l;induction l with
 |nil=>exact λ_ h=>absurd h jl
 |cons p l ih=>
  intro hn bc;obtain⟨y,u⟩:=p;rw [h9,n4] at hn;refine G sO ?_;rcases fw.mp bc with h|h
  ·refine oM h λKl Ks=>?_;obtain rfl:=Kl;obtain rfl:=Ks;simp
  ·have :(x==y)=aA:=by
    simp only [beq_eq_false_iff_ne,ne_eq];rintro rfl
    exact hn.1 (rr (f:=(·.1)) h)
   exact G this (ih hn.2 h)
theorem af.eqp{bp:gv}{t:Sem ay}{a:ay}{Q:ay->bq->Prop}(e:t=bK a)(q:Q a h):af w bp ah t Q h:=G e (af.pure q)
theorem af.standIf{bp:gv}{c:Prop}[Decidable c]{k:PUnit->Sem ay}{Q:ay->bq->Prop}(x:af w bp ah (k ()) Q h):af w bp ah (if c then(PySem.standAt pos>>=k) else k ()) Q h:=by
 split
 ·exact af.bv (λ_=>af.standAt) x
 ·exact x
theorem ab1{bp:gv}{e:aU}{it acc:aG}{p0:Pos}{R:nq->bq->Prop}{sc:jA}(Ah:e=.ListComp dW [⟨dq,iter,eU,0⟩] sc pos)
  (afi:af w bp (ah.enter (.compStart e 0 it acc de) ac p0) (pyIter it) (λDF av=>DF=it/\av=h) h) (x:kh w bp ((ah.enter (.compStart e 0 it acc de) ac p0).goto (.compLoop e 0 it acc de)) R h):kh w bp (ah.enter (.compStart e 0 it acc de) ac p0) R h:=by
 subst Ah;refine kh.tree rfl (af.onRaise (af.bv (λ_=>af.ask) (af.ite (λ_=>?_) λ_=>?_)))
 ·first
   |exact af.bv (λ_=>af.pure) (af.pure ⟨rfl,x⟩)
   |exact af.pure ⟨rfl,x⟩
 ·refine af.bv (λ_=>af.rule) (af.bind (af.standAt (af.bind (af.mono afi λDF av cV=>?_))))
  refine cz cV λaM a7=>?_
  subst aM a7;exact af.again ⟨rfl,x⟩
theorem Rw{bp:gv}{cenv:Env}{abJ:List (Str×lI)->List aG}{vs:List (Str×lI)}{nm:Str->Option aG}{a9:List a1}(ok:bz a9 n ah)(hk:cenv.scope.kind=.function)(hv:∀x∈vs,x.2=.local ->cenv.kindOf x.1=J .local)(hn:h.Ns cenv.locals nm):
  af w bp ah (comprehension.letGo cenv abJ vs) (λ_ av=>zz cenv.locals h av) h:=by
 obtain⟨A,cS,-,-⟩:=ok.room;refine af.any cS λs e1 e2 aP=>?_
 subst e1;exact wpAny_comp_letGo hk vs s nm hv hn λav bV _ gc=>⟨gc,e2,aP⟩
theorem anO{sc:jA}(hk:Z.scope.kind=.function):(relabel sc Z).names=gF Z.scope.names sc.names:=by
 refine List.map_congr_left λp _=>?_
 obtain⟨nm,k⟩:=p;dsimp only;refine G hk (G (pF ..) ?_);have :(VF==VF)=ae:=rfl;refine G (this ..) (G (Bool.and_true ..) ?_);rfl
theorem ahq{ax fZ:ds}{jI:n3}{m bV:Loc}{H:an}(ce:PE fZ dq=ae)(e:eu (gF ax fZ) dq jI m H=J bV):∀x,cy (gF ax fZ) x≠J .local ->cy bV x=cy m x:=by
 have JE:∀x,(cy fZ x==J NameKind.local)=ae->cy (gF ax fZ) x=J .local :=λx aO=>by
  refine G (AZ ..) ?_;have :cy fZ x=J .local :=by simpa using aO
  (exact G (this ..) rfl)
 intro x aO;rcases G1 e with⟨y,p,v,rfl,-,-,rfl⟩|⟨n,p,q,m4,sa,w,rfl,-,-,rfl⟩
 ·(refine G (qO ..) ?_;rw [a8])
  rintro rfl
  exact aO (JE _ ce)
 ·have ce:((cy fZ n.1==J NameKind.local)&&(cy fZ n.2==J NameKind.local))=ae:=ce;rw [he] at ce;rw [qO,a8,qO,a8]
  ·rintro rfl;exact aO (JE _ ce.1)
  ·rintro rfl;exact aO (JE _ ce.2)
noncomputable def apQ(Θ:fa)(ah:Ctx)(Z:Env)(Q:aG->cq->Loc->an->Prop)(m:Loc)(bI:an)(ai:bq)(bG:cq)(aJ:aG):Option (aG->Sem Unit)->Prop
 |ac=>Q aJ bG m bI
 |J u=>aa Θ ah Z bG (u aJ) (λ_ du jK cM=>Q .none du jK cM) ai
theorem Tn{sc:jA}{adQ:Pos}{use:Option (aG->Sem Unit)}{k:L->an->Prop}{Q:aG->cq->Loc->an->Prop}(c9:mj Θ C d iter)(bl:cE Θ C d dW)(tH:∀e∈eU,ST Θ C d e)
  (qD:∀Z x,CC iter Z x=bK x) (ok:bz Θ.fs (d+4) ah) (a:bD Θ Z ρ m H h) (w:bO False C (.ListComp dW [⟨dq,iter,eU,0⟩] sc pos) Z.scope.names m H k)
  (bU:∀ {bG bI ai v aJ},bD Θ Z bG m bI ai->bg bG v aJ->k v bI->apQ Θ ah Z Q m bI ai bG aJ use):
  aa Θ ah Z ρ (NM (.ListComp dW [⟨dq,iter,eU,0⟩] sc pos) sc Z adQ (newList []) aA (eval iter Z) use) Q h:=by
 rw [L2] at w;by_cases pz:z9 Z.scope.names sc dq=ae
 case neg=>rw [a8 pz] at w;exact w.elim
 rw [aY pz] at w;unfold z9 at pz;simp only [he,decide_eq_true_eq,i3,t8,beq_iff_eq] at pz;refine cz pz λKu Aw=>?_;refine cz Ku λKr AH=>?_;obtain⟨Dr,afo⟩:=Kr
 have Dt:∀x,(x,s0)∈sc.names->cy Z.scope.names x=J .cell:=λx aO=>by
  rcases Aw _ aO with(z|z)|z
  ·cases z
  ·cases z
  ·exact z.2
 have ll:closureFor sc Z=bK (hg Z sc.names []):=by
  unfold closureFor;refine G (bind_pure ..) (PA _ _ λp hp aq=>?_)
  obtain⟨x,r6⟩:=p;dsimp only at aq;subst aq;exact a.fr.has x (.inl (by show Z.scope.names.lookup x=_;exact cU (pF ..) (Dt x hp)))
 have IF:∀x c,(hg Z sc.names []).lookup x=J c->Z.cells.lookup x=J c/\(x,s0)∈sc.names:=λx c e=>by
  rcases Pz _ _ (mem_of_lookup e) with z|z
  ·rcases z
  ·dsimp only at z;refine cm (sV.mp (a.fr.has x (.inl (by show Z.scope.names.lookup x=_;exact cU (pF ..) (Dt x z.1))))) λc' jH=>?_
   rw [jH] at z;exact⟨G jH (G z.2 rfl),z.1⟩
 have IU:((hg Z sc.names []).map (·.1)).Nodup:=HQ _ _ (by simp) AH (λ_ z=>absurd z jl)
 have tE:∀x∈hg Z sc.names [],Z.cells.lookup x.1=J x.2/\(x.1,s0)∈sc.names:=λx aO=>IF x.1 x.2 (DU IU aO)
 have Qw:∀x,(x,s0)∈sc.names->cy (gF Z.scope.names sc.names) x=J .cell:=λx aO=>by
  refine G (AZ ..) (G (pF x sc.names ..) (G (DU AH aO) (G (Dt x aO ..) ?_)));rfl
 unfold NM;refine G ll (c9 ok a w λs x bG bI ai bL ch Ld bE=>af.bv (λ_=>af.standAt) (af.bind (af.eqp (qD _ x) ?_)))
 refine af.bind (af.holding ?_);refine af.ifn t7 (af.mono (Rr ok bL Ld ch.size) λit ak cV=>?_)
 refine Ue cV λex am U X I7=>?_
 refine af.standIf ?_;have cX:=bL.ext ex;obtain⟨A,cS,a6,bA,-⟩:=ok.room;refine af.bind (af.mono (Q:=λacc aZ=>acc=.ref ak.objs.size/\aZ=ak.push {cls:=.type "list",data:=.seq #[]}) (af.any cS λst e1 e2 aP=>?_) λacc aZ ⟨aM,a7⟩=>?_)
 ·subst e1;exact wpAny_newList ⟨⟨rfl,rfl⟩,e2,aP⟩ (by show 0<=_;exact hf _)
 subst aM;have gX:af Θ.w Θ.O ah (NR sc Z.globals (hg Z sc.names []) [] Z.qual ac .none (J Z)) (λcenv cC=>cenv=newEnv sc aZ.objs.size Z.globals (hg Z sc.names []) Z.qual ac .none (J Z) s5/\cC.Ns aZ.objs.size (λ_=>ac)/\zz aZ.objs.size (aZ.push {cls:=.type "dict",data:=.dict #[]}) cC) aZ:=by
  refine af.any cS λst e1 e2 aP=>?_
  subst e1;exact wpAny_newFunctionEnv (binds:=[]) (λy hy=>by
   rcases Aw _ hy with(z|z)|z
   ·refine G z ?_;simp
   ·refine G z ?_;simp
   ·refine G z.1 ?_;simp) (λ_ z=>absurd z jl) (λav hn hs=>⟨⟨rfl,hn,hs⟩,e2,aP⟩) Dr
 refine af.bv (λ_=>af.pure) (af.bind (af.mono gX λcenv cC cV=>?_))
 refine dS cV λq3 QL IZ=>?_
 subst q3;have I5:aZ.objs.size=ak.objs.size+1:=by(exact G (a7 ..) (G (ib ..) rfl))
 have E0:gM aZ cC:=⟨λb o e=>IZ.extBut b o (mf (gE e)) (k6 _ e),G IZ.1 (G (ib ..) (kZ aZ.objs.size 1))⟩
 have pT:gM ak aZ:=G a7 (.push _ _);have mD:=pT.trans E0;have CP:=cX.ext mD;have afv:ai.objs.size<=ak.objs.size:=ex.2;have afu:h.objs.size<=ai.objs.size:=ch.size;have asG:cC.objs.size=aZ.objs.size+1:=by(exact G (IZ.1 ..) (G (ib ..) rfl))
 refine dS (cX.fresh (cW _)) λadS Im Qi=>dS (cX.fresh (b:=aZ.objs.size) (zw (id (rd I5)))) λab3 HT HU=>?_
 have ae3:=a.fr.kind;have AG:=anO (sc:=sc) ae3;have vd:∀b∈(hg Z sc.names []).map (·.2),b∈own Z:=λb hb=>by
  refine bT (hQ.mp hb) λp hp Kv=>?_;obtain rfl:=Kv
  exact f8 _ (rr (f:=(·.2)) (mem_of_lookup (tE p hp).1))
 have AF:∀x,(mS sc (hg Z sc.names []) aZ.objs.size Z).kindOf x=cy (gF Z.scope.names sc.names) x:=λx=>by
  show(relabel sc Z).names.lookup x=_
  (exact G (AG ..) (G (pF ..) rfl))
 have OW:bD Θ (mS sc (hg Z sc.names []) aZ.objs.size Z) bG (ow (gF Z.scope.names sc.names) m) bI cC:=by
  refine⟨CP.rel,⟨Dr,a.fr.glob,a.fr.blt,⟨_,QL,λy v hk e=>?_⟩,λy c e=>?_,λy hy=>?_,?_,λp hp=>?_⟩,λb hb=>?_⟩
  ·rw [AF] at hk;unfold ow at e;rw [DT (λn=>cy (gF Z.scope.names sc.names) n==J .cell),hk] at e
   exact br e
  ·refine cz (IF y c e) λdv dy=>bT (CP.fr.cell y c dv) λkb hv r=>⟨kb,hv,λv hk e=>?_⟩
   unfold ow at e;rw [DT (λn=>cy (gF Z.scope.names sc.names) n==J .cell)] at e
   split at e
   ·exact r v (by show Z.scope.names.lookup y≠_;refine cU (pF ..) (G (Dt y dy ..) ?_);simp) e
   ·exact br e
  ·rw [AF] at hy;refine Py _ _ (.inr ?_);rw [AZ] at hy;cases q:cy sc.names y with
   |none=>rw [q] at hy;rcases hy with hy|hy<;>exact br hy
   |some r6=>
    rw [q] at hy;have bc:(y,r6)∈sc.names:=mem_of_lookup (cU (pF ..) q);rcases Aw _ bc with(z|z)|z
    ·dsimp only at z;subst z;rcases hy with hy|hy<;>cases hy
    ·dsimp only at z;subst z;rcases hy with hy|hy<;>cases hy
    ·have :=z.1;dsimp only at this;subst this;exact bc
  ·refine List.pairwise_iff_forall_sublist.mpr λ{p q} hs=>?_
   intro z;have hp:p∈hg Z sc.names []:=hs.subset fK;have cI:q∈hg Z sc.names []:=hs.subset (f8 _ fK);have e1:=(tE p hp).1;have e2:=(tE q cI).1;rw [z] at e1;have aP:=Gx a.fr.apart (mem_of_lookup e1) (mem_of_lookup e2);have hj:=hs.map (·.1);have :=(Vd hj IU);simp at this
   exact this aP
  ·have :=(cX.out _ (vd _ (rr (f:=(·.2)) hp))).2.2;intro z;rw [z] at this;exact jn _ (eE this (by show ak.objs.size<=aZ.objs.size;exact zw (id (rd I5))))
  ·rcases fw.mp hb with rfl|hb
   ·exact⟨ab3,HU.1,by show cC.objs.size>aZ.objs.size;exact Heap.Ns.lt QL⟩
   ·exact CP.out b (vd b hb)
 have K:yT Θ Z (mS sc (hg Z sc.names []) aZ.objs.size Z) h.objs.size ak.objs.size ak.objs.size h dq:=by
  refine⟨cW _,λz=>?_,Im,Qi,cW _,cQ afu afv,λb hb=>(a.out b hb).2.2,λb hb=>?_,λz=>?_,λy c e bc=>?_,λjI ahz kB bV fc y hy=>?_⟩
  ·rcases fw.mp z with z|z
   ·have :ak.objs.size=aZ.objs.size:=z;lia
   ·exact Im (vd _ z)
  ·rcases fw.mp hb with rfl|hb
   ·exact .inr (by show ak.objs.size<=aZ.objs.size;exact zw (id (rd I5)))
   ·exact .inl (vd b hb)
  ·rcases fw.mp z with z|z
   ·have d1:=(cX.out _ (fK:Z.locals∈own Z)).2.2;have z:Z.locals=aZ.objs.size:=z;rw [z] at d1;lia
   ·exact bT (hQ.mp z) λp hp e=>a.fr.napart _ (mem_of_lookup (tE p hp).1) e
  ·rcases fw.mp bc with z|z
   ·have d1:=(cX.out _ (f8 _ (rr (f:=(·.2)) (mem_of_lookup e)):c∈own Z)).2.2;have z:c=aZ.objs.size:=z;rw [z] at d1;lia
   ·refine bT (hQ.mp z) λp hp e1=>?_
    obtain⟨eN,c'⟩:=p;dsimp only at e1;subst e1;have :=Gx a.fr.apart (mem_of_lookup e) (mem_of_lookup (tE _ hp).1);dsimp only at this;subst this;exact⟨DU IU hp,by refine G (AF ..) (G (Qw _ (tE _ hp).2 ..) ?_);simp⟩
  ·rw [AF] at hy;have acT:eu (gF Z.scope.names sc.names) dq jI ahz kB=J bV:=cU AG fc;exact ahq afo acT y hy
 have abK:nh Θ Z (mS sc (hg Z sc.names []) aZ.objs.size Z) m ak.objs.size ρ h bG (ow (gF Z.scope.names sc.names) m) bI cC [] []:=by
  refine⟨OW,CP,λy c e bc=>?_,ch.trans ((d3.ext ex).trans (.ext mD)),adS,⟨0,E0.1 _ _ (G a7 (hU _ rfl))⟩,.nil⟩
  have k2:=(K.cells y c e bc).1;unfold ow;refine G (DT (λn=>cy (gF Z.scope.names sc.names) n==J .cell) ..) (G (Qw y (IF y c k2).2 ..) ?_)
  rfl
 have AM:am 0 bG cC:=(X Z λb hb=>.inl hb).stable cX I7 (X:=[]) (.ext mD) (λ_ z=>absurd z jl)
 have zM:=X (mS sc (hg Z sc.names []) aZ.objs.size Z) K.ownHi;have aqv:jX False (mS sc (hg Z sc.names []) aZ.objs.size Z).scope.names dq (λm H q=>jb False C eU (mS sc (hg Z sc.names []) aZ.objs.size Z).scope.names m H q) (λm H q=>bO False C dW (mS sc (hg Z sc.names []) aZ.objs.size Z).scope.names m H q) s f6 0 (ow (gF Z.scope.names sc.names) m) bI [] (λvs H=>k (.new H.length) (H++[.list vs])):=by
  have :(mS sc (hg Z sc.names []) aZ.objs.size Z).scope.names=gF Z.scope.names sc.names:=AG;exact G this bE
 have QH:∀ {vs:List (Str×lI)},(∀x∈vs,x∈sc.names)->∀x∈vs,x.2=.local ->(mS sc (hg Z sc.names []) aZ.objs.size Z).kindOf x.1=J .local :=λhv x aO aQ=>by
  obtain⟨y,r6⟩:=x;dsimp only at aQ;subst aQ;(exact G (AF ..) (G (AZ ..) (G (pF y sc.names) (G (DU AH (hv _ aO)) rfl))))
 have I3:∀x∈(sc.names.filter λx=>(x.2== .local ||x.2== .cell)&&x.1 !=(".0":Str)),x∈sc.names:=λx aO=>(List.mem_filter.mp aO).1
 refine af.holding (af.bind (af.attempt (af.holding (af.run λp=>?_))))
 refine ab1 rfl (zM.self (ok.zero (.compStart (.ListComp dW [⟨dq,iter,eU,0⟩] sc pos) 0 it (.ref ak.objs.size) (mS sc (hg Z sc.names []) aZ.objs.size Z)) (.compStart (.ListComp dW [⟨dq,iter,eU,0⟩] sc pos) 0 it (.ref ak.objs.size) (mS sc (hg Z sc.names []) aZ.objs.size Z)) p rfl rfl rfl) OW AM) ?_;refine kh.mono (ab0 (c0:=.compStart (.ListComp dW [⟨dq,iter,eU,0⟩] sc pos) 0 it (.ref ak.objs.size) (mS sc (hg Z sc.names []) aZ.objs.size Z)) (p0:=p) K zM bl tH ok f6 0 abK AM (by show 0+1000<=1000;lia) aqv) λdn gl cV=>?_
 refine ase cV λpY asR eP XU aqt eG LS=>?_
 refine cm eG.pl λJL qA=>?_
 have aoR:Sub pY (pY++[(ak.objs.size,ak.objs.size)]):=⟨_,rfl⟩;have pj:=eG.a.adopt (o:=.list XU) eG.nf Qi Im ⟨rfl,aqt,JL,qA,eG.all.mono λ_ _ r=>r.sub aoR⟩
 have jF:=eG.f.adopt (D:=ak.objs.size) (by lia)
 have qS:bg (pY++[(ak.objs.size,ak.objs.size)]) (.new eP.length) (.ref ak.objs.size):=.last (p:=(ak.objs.size,ak.objs.size)) eG.a.len;have EB:=bU pj qS LS;have H9:¬gQ (pY++[(ak.objs.size,ak.objs.size)]) aZ.objs.size:=λeH=>mF eH λi q e z=>by
  rcases Cj i pY.length with aQ|aQ
  ·rw [sL aQ] at e;exact(eG.a'.out aZ.objs.size fK).1 ⟨i,q,e,z⟩
  ·rw [sM aQ] at e;have :i - pY.length=0:=by
    have :=(kF.mp e).1;simp at this;lia
   rw [this] at e;simp at e
   subst e;rcases z with z|z
   ·have z:aZ.objs.size=ak.objs.size:=z;lia
   ·have z:aZ.objs.size=ak.objs.size:=z;lia
 refine bT eG.a'.fr.ns λRP Kw _=>?_;obtain⟨aiN,P7,P4,Iv,S7⟩:=Kw
 induction use using n9 with
 |none=>
  refine af.bind (af.holding (af.mono (Rw (cenv:=mS sc (hg Z sc.names []) aZ.objs.size Z) (nm:=RP) ok Dr (QH λx aO=>I3 x (MU.mp aO)) ⟨aiN,P7,P4,Iv,S7⟩) λ_ gH gc=>?_))
  have st:=zQ (Θ:=Θ) (Z:=Z) H9 HT HU gc;exact af.pure ⟨_,m,_,pj.steps st,jF.steps st (by lia),EB⟩
 |some u=>
  refine af.bv (λ_=>af.rule) (af.bind (af.holding (af.mono EB λ_ gH cV=>?_)))
  obtain⟨asj,ahB,cx,Yg,mq,Be⟩:=cV;refine bT (mq.keep _ _ Iv (λz=>H9 (tx z)) HT) λas5 At _=>?_
  have adn:¬gQ asj aZ.objs.size:=Il mq (gE Iv) H9;refine af.bind (af.mono (Rw (cenv:=mS sc (hg Z sc.names []) aZ.objs.size Z) (nm:=RP) ok Dr (QH λx aO=>?_) ⟨_,P7,P4,At,S7⟩) λ_ qC gc=>?_)
  ·rcases md.mp aO with aO|aO
   ·exact I3 x (MU.mp (List.mem_of_mem_drop aO))
   ·exact I3 x (MU.mp (List.mem_of_mem_take aO))
  ·have st:=zQ (Θ:=Θ) (Z:=Z) adn HT HU gc;exact af.pure ⟨_,ahB,_,Yg.steps st,(jF.trans mq).steps st (by lia),Be⟩
theorem cE.comp{sc:jA}(c9:mj Θ C d iter)(bl:cE Θ C d dW)(tH:∀e∈eU,ST Θ C d e)(qD:∀Z x,CC iter Z x=bK x):cE Θ C d (.ListComp dW [⟨dq,iter,eU,0⟩] sc pos):=λ{ah Z ρ m H h k} ok a w=>by
 exact G (eval_ListComp ..) (Tn (use:=ac) (k:=k) (Q:=mT m k) c9 bl tH qD ok a w λbL r bE=>⟨rfl,_,r,bE⟩)
theorem ec.assignComp{x:Str}{ls:Pos}{sc:jA}{ps:Pos}(c9:mj Θ C d iter)(bl:cE Θ C d dW)(tH:∀e∈eU,ST Θ C d e)(qD:∀Z x,CC iter Z x=bK x):
  ec Θ C d (.Assign [.Name x ls] (.ListComp dW [⟨dq,iter,eU,0⟩] sc ps) pos):=λ{ah Z ρ m H h k} ok a w=>by
 rw [L3] at w;have dg:exec (.Assign [.Name x ls] (.ListComp dW [⟨dq,iter,eU,0⟩] sc ps) pos) Z=(gw pos>>=λ_=>s7 (.ListComp dW [⟨dq,iter,eU,0⟩] sc ps) (J (.Name x ls)) pos.line Z>>=λb=>if b then(evalThenUse (.ListComp dW [⟨dq,iter,eU,0⟩] sc ps) Z λv=>assignAll v [PySem.assign (.Name x ls) Z])>>=λ_=>bK .next else
  eval (.ListComp dW [⟨dq,iter,eU,0⟩] sc ps) Z>>=λv=>wG [.Name x ls] (.ListComp dW [⟨dq,iter,eU,0⟩] sc ps) Z>>=λvL=>Gp Z v vL [PySem.assign (.Name x ls) Z]):=rfl
 have e1:∃b,s7 (.ListComp dW [⟨dq,iter,eU,0⟩] sc ps) (J (.Name x ls)) pos.line Z=bK b:=⟨_,rfl⟩;refine cm e1 λb e1=>G dg (G e1 ?_)
 have ce:iN Θ C d (.Name x ls):=iN.name;refine .stand (af.bv (λ_=>af.pure) ?_)
 induction b using t5 with
 |true=>
  refine af.ifp rfl ?_;show aa Θ ah Z ρ ((NM (.ListComp dW [⟨dq,iter,eU,0⟩] sc ps) sc Z (firstIterPos [⟨dq,iter,eU,0⟩] ps) (newList []) aA (eval iter Z) (J λv=>assignAll v [PySem.assign (.Name x ls) Z])>>=λ_=>bK ())>>=λ_=>bK sY) _ h
  refine G (uv ..) (aa.bind (Tn (Q:=λ_ cb bV bb=>k .next bV bb) c9 bl tH qD ok a w λbL r bE=>?_) λ_ bG m bI ai bL cP aM=>af.bv (λ_=>af.pure) (aa.pure bL ⟨.next,rfl,aM⟩))
  exact ce ok bL r bE
 |false=>
  refine af.ifn t7 (aa.bindV (cE.comp c9 bl tH qD ok a w) λaJ v bG bI ai bL cP b9 bE=>?_)
  show aa Θ ah Z bG (PySem.assign (.Name x ls) Z aJ>>=λ_=>bK sY) _ ai
  exact aa.bind (ce ok bL b9 bE) λ_ du m cM ak cX d6 ea=>aa.pure cX ⟨.next,rfl,ea⟩
end
variable {pos:Pos}
section
variable {k1 k2:Nat}{p1 p2:Pos}{gK oV:aU}{az aT:Str}
theorem act:dictDisplay []=newDict:=by rfl
theorem cE.dict0{pos}:cE Θ C d (.Dict [] [] pos):=λ{ah Z ρ m H h k} ok a w=>by
 rw [T8,T9] at w;have dg:eval (.Dict [] [] pos) Z=(do gw pos;dictDisplay []):=rfl
 refine G dg (G act ?_);refine .stand (aa.any ok λA s a6 bA bU e1 e2 aP=>?_)
 subst e1;refine qo ⟨?_,e2,aP⟩;refine d4.added a (.push _ _) (o:=.dict []) (p:=(s.heap.objs.size,s.heap.objs.size)) (cW _) (cW _) ⟨rfl,[],0,hU _ rfl,.nil,Cb,RT a.rel.base (cW _)⟩ ⟨rfl,_,.last a.len,w⟩
theorem ash{Z:Env}:
 (evalEachOpt [J (.Constant (.str az) k1 p1),J (.Constant (.str aT) k2 p2)] Z).zip ((ql [gK,oV] Z).map λv=>do let x <-v;gw pos;bK x)
  =[(eval (.Constant (.str az) k1 p1) Z,(do let x <-eval gK Z;gw pos;bK x:Sem aG)),(eval (.Constant (.str aT) k2 p2) Z,(do let x <-eval oV Z;gw pos;bK x:Sem aG))].map λp=>(J p.1,p.2):=rfl
theorem Tq{x:Str}{k:Nat}{p:Pos}(ok:bz Θ.fs (d+4) ah)(a:bD Θ Z ρ m H h):aa Θ ah Z ρ (eval (.Constant (.str x) k p) Z) (dC m (.str x) H) h:=To a rfl
theorem aja{k:L->L->an->Prop}(ai:cE Θ C d gK)(ak:cE Θ C d oV)(ok:bz Θ.fs (d+4) ah)(a:bD Θ Z ρ m H h)
  (w:bO False C gK Z.scope.names m H λu H=>bO False C oV Z.scope.names m H λv H=>k u v H):
  aa Θ ah Z ρ (evalPairs [(eval (.Constant (.str az) k1 p1) Z,(do let x <-eval gK Z;gw pos;bK x:Sem aG)),(eval (.Constant (.str aT) k2 p2) Z,(do let x <-eval oV Z;gw pos;bK x:Sem aG))])
   (λvs cb bV bb=>bV=m/\∃u v ef aJ lY pO,bg cb u ef/\bg cb v aJ/\vs=[(.str az lY,ef),(.str aT pO,aJ)]/\k u v bb) h:=by
 refine .bindR (Tq ok a) λcA bG Dn hu cP b9=>?_
 refine cm b9 λlY alk=>?_;obtain rfl:=alk
 refine .bindV (.holding (.bindV (ai ok hu w) λef u du cM vb jC d6 jO ea=>.stand (.pure (Q:=λapo cb bV bb=>bV=m/\∃u,bg cb u apo/\bO False C oV Z.scope.names m bb λv H=>k u v H) jC ⟨rfl,u,jO,ea⟩))) λef u du cM vb jC d6 jO ea=>.bindV (m:=m) (R:=λcb (p:L×aG×Tok) vs=>bg cb p.1 p.2.1/\vs=[(.str aT p.2.2,p.2.1)]) (k:=λp bb=>k u p.1 bb) (.holding ?_) λvs p kf cg aZ kn hN r kt=>?_
 ·refine .bindR (Tq ok jC) λcA as8 d1 fy gs b9=>?_
  refine cm b9 λpO alm=>?_;obtain rfl:=alm
  exact .bindV (.holding (.bindV (ak ok fy ea) λaJ v asl dZ g2 fz fu f0 js=>.stand (.pure (Q:=λapR cb bV bb=>bV=m/\∃v,bg cb v apR/\k u v bb) fz ⟨rfl,v,f0,js⟩))) λaJ v asl dZ g2 fz fu f0 js=>af.bind (af.holding (af.pure (aa.pure fz ⟨rfl,(v,aJ,pO),⟨f0,rfl⟩,js⟩)))
 ·refine cz r λf0 aln=>?_;obtain rfl:=aln
  exact aa.pure kn ⟨rfl,u,p.1,ef,p.2.1,lY,p.2.2,jO.sub hN,f0,rfl,kt⟩
theorem cE.dict2(ai:cE Θ C d gK)(ak:cE Θ C d oV):cE Θ C d (.Dict [J (.Constant (.str az) k1 p1),J (.Constant (.str aT) k2 p2)] [gK,oV] pos):=λ{ah Z ρ m H h k} ok a w=>by
 have ja:bO False C gK Z.scope.names m H λu H=>bO False C oV Z.scope.names m H λv H=>if az=aT then False else k (.new H.length) (H++[.dict [(.str az,u),(.str aT,v)]]):=by
  rw [T8] at w;exact w
 clear w;have dg:eval (.Dict [J (.Constant (.str az) k1 p1),J (.Constant (.str aT) k2 p2)] [gK,oV] pos) Z=(do
  gw pos
  dictDisplay ((evalEachOpt [J (.Constant (.str az) k1 p1),J (.Constant (.str aT) k2 p2)] Z).zip ((ql [gK,oV] Z).map λv=>do let x <-v;gw pos;bK x))):=rfl
 refine G dg (G ash (G (dictDisplay_pairs _ (by simp) (by simp)) ?_))
 refine .stand ?_;obtain⟨A,cS,a6,bA,bU⟩:=ok.room;have w4:h.objs.size∉own Z:=λz=>jn _ (a.out _ z).2.2
 have RL:¬gQ ρ h.objs.size:=λeH=>mF eH λi p e z=>by
  have :=a.rel.lt e;rcases z with z|z
  ·exact jn _ (eE this.1 (iB z))
  ·exact jn _ (eE this.2 (iB z))
 have J7:=(a.fresh (cW _)).2.2;have hu:=a.ext (.push h {cls:=.type "dict",data:=.dict #[]});have d1:(h.push {cls:=.type "dict",data:=.dict #[]}).get? h.objs.size=J (qh [] 0):=hU _ rfl;have agC:(h.push {cls:=.type "dict",data:=.dict #[]}).objs.size>h.objs.size:=G (ib ..) (F9 _);have Td:=RT a.rel.base (cW h.objs.size);refine af.bind (af.bind (af.alloc (af.bind (af.holding ?_))));refine af.ifp (by simp) (af.bind (af.mono (aja ai ak ok hu ja) λvs ak cV=>?_))
 obtain⟨du,jK,cM,jC,cd,aM,u,v,ef,aJ,lY,pO,jO,f0,e,kt⟩:=cV;subst aM e;split at kt
 ·exact kt.elim
 ·rename_i gX;have n2:¬gQ du h.objs.size:=Il cd agC RL;have g2:=(cd.keep _ _ d1 (λz=>RL (tx z)) w4).exact (by simp [qh])
  have lu:j9 Θ.w.params du (h.objs.size,h.objs.size) ak (.dict []):=⟨rfl,[],0,g2,.nil,Cb,Td⟩;refine tX (u1 lu) λ_ _ d5 AB anE=>?_
  rcases anE;refine af.holding (af.bind (af.any cS λs gs fu f1=>?_))
  subst gs;have aD:Carries (lq Θ.w) [(Value.str az lY,ef),(Value.str aT pO,aJ)] [(L.str az,ef),(L.str aT,aJ)]:=⟨qK (ρ:=du) (k:=L.str az) rfl ⟨lY,rfl⟩,rfl,qK (ρ:=du) (k:=L.str aT) rfl ⟨pO,rfl⟩,rfl,trivial⟩;refine wpAny_storeAll (knd:=lq Θ.w) _ _ [] s _ aD AB (by simp [k9]) λaZ bc gc=>⟨?_,fu,f1⟩
  have hJ:merged [] [(L.str az,ef),(L.str aT,aJ)]=[(L.str az,ef),(L.str aT,aJ)]:=by
   have :¬L.str az=L.str aT:=λz=>gX (by injection z)
   simp [merged,stored,this]
  rw [hJ] at bc;have st:=zQ (Z:=Z) n2 w4 J7 gc;have kn:=jC.steps st;have ee:=(((d3.ext (X:=own Z) (ρ:=ρ) (.push h {cls:=.type "dict",data:=.dict #[]})).trans cd).steps st (cW _)).adopt (cW _);have KW:j9 Θ.w.params (du++[(h.objs.size,h.objs.size)]) (h.objs.size,h.objs.size) aZ (.dict [(.str az,u),(.str aT,v)]):=
   HY bc (.cons ⟨rfl,rfl,jO.sub ⟨_,rfl⟩⟩ (.cons ⟨rfl,rfl,f0.sub ⟨_,rfl⟩⟩ .nil)) Td
  have lf:=kn.adopt n2 J7 w4 KW;exact af.pure (af.pure (af.pure ⟨_,_,_,lf,ee,rfl,_,bg.last jC.len,kt⟩))
end
section
variable {t:aU}
def JP(e:aU):Bool:=iP e ae (kCall:=λf a k _=>m5 f|| !(a.isEmpty&&k.isEmpty))
noncomputable def D1(e:aU):Bool:= !(e.ctorIdx==7)
noncomputable def xn(e:aU):Bool:= !(kG 8 e.ctorIdx||(kG 9 e.ctorIdx||kG 10 e.ctorIdx))
noncomputable def r5(e:aU):Bool:=e.ctorIdx==25
noncomputable def RR(e:aU):Bool:= !(kG 25 e.ctorIdx||kG 24 e.ctorIdx)
def oU(e:aU):List aU:=iP e [] (kTuple:=λl _ _=>l)
def Tw(t e:aU):Bool:=if r5 t&&r5 e then !((oU t).length==2||(oU t).length==3)||(oU t).any m5 else RR t||RR e
noncomputable def afT(o:UnaryOp):Bool:=UnaryOp.casesOn o aA ae aA aA
noncomputable def Tx:Const->Bool
 | .str _=>ae
 |_=>aA
def Ej(o:Option aU):Bool:=n9 o aA λe=>iP e aA (kConstant:=λc _ _=>Tx c)
mutual
noncomputable def fM:Nat->aU->Bool
 |0,_=>aA
 |n+1,e=>iP e aA
  (kConstant:=λ_ _ _=>ae)
  (kName:=λx _=> !(x==("__debug__":Str)))
  (kBinOp:=λl _ r _=>fM n l&&fM n r)
  (kBoolOp:=λ_ vs _=>vs.all (fM n))
  (kIfExp:=λt a b _=>ts n t&&(fM n a&&fM n b))
  (kCompare:=λl dX rs _=>fM n l&&(rs.all (fM n)&& !lastMarks dX rs))
  (kAttribute:=λo a _=>fM n o&&(rP.contains a&&JP o))
  (kSubscript:=λo i _=>fM n o&&CX n i)
  (kList:=λaH _=>z5 n aH)
  (kTuple:=λaH _ _=>z5 n aH)
  (kDict:=λff vs _=>Pv n ff vs)
  (kListComp:=λdW aI _ _=>fM n dW&&HL n aI)
  (kCall:=λf df ff pos=>ff.isEmpty&&(z5 n df&&(eo (df.length<30)&&(if A7 f then fM n f else HM n f pos))))
noncomputable def HM:Nat->aU->Pos->Bool
 |0,_,_=>aA
 |n+1,e,pos=>iP e aA (kAttribute:=λo _ uP=>fM n o&&(JP o&&(uP.endLine==pos.line)))
noncomputable def Pv:Nat->List (Option aU)->List aU->Bool
 |0,_,_=>aA
 |n+1,ff,vs=>match ff with
  | []=>vs.isEmpty
  |a::ff=>match ff with
   | []=>aA
   |b::ff=>match vs with
    | []=>aA
    |u::vs=>match vs with
     | []=>aA
     |v::vs=>ff.isEmpty&&(vs.isEmpty&&(Ej a&&(Ej b&&(fM n u&&fM n v))))
noncomputable def HL:Nat->List Gl->Bool
 |0,_=>aA
 |n+1,aI=>match aI with
  | []=>aA
  |aB::aI=>aI.isEmpty&&(aB.is_async==0&&(HN n aB.iter&&(aB.ifs.all (ts n)&&D1 aB.iter)))
noncomputable def CX:Nat->aU->Bool
 |0,_=>aA
 |n+1,e=>if A8 e then fM n e else CY n e
noncomputable def CY:Nat->aU->Bool
 |0,_=>aA
 |n+1,e=>iP e aA (kSlice:=λa b c _=>c.isNone&&(wU n a&&wU n b))
noncomputable def z5:Nat->List aU->Bool
 |0,_=>aA
 |n+1,aH=>gA aH&&aH.all (fM n)
noncomputable def wU:Nat->Option aU->Bool
 |0,_=>aA
 |n+1,e=>match e with
  |ac=>ae
  |J e=>fM n e
noncomputable def ts:Nat->aU->Bool
 |0,_=>aA
 |n+1,e=>if xs e then fM n e else C0 n e
noncomputable def C0:Nat->aU->Bool
 |0,_=>aA
 |n+1,e=>iP e aA
  (kUnaryOp:=λbM x _=>afT bM&&ts n x)
  (kBoolOp:=λ_ vs _=>vs.all (ts n))
  (kCompare:=λl dX rs _=>fM n l&&(rs.all (fM n)&& !lastMarks dX rs))
noncomputable def HN:Nat->aU->Bool
 |0,_=>aA
 |n+1,e=>if A5 e then CZ n e else fM n e
noncomputable def CZ:Nat->aU->Bool
 |0,_=>aA
 |n+1,e=>iP e aA (kCall:=λf aH ff _=>ff.isEmpty&&(!m5 f&&(fM n f&&z5 n aH)))
end
def wT(n:Nat)(e:aU):Bool:=iP e aA (kName:=λ_ _=>ae) (kAttribute:=λo a _=>fM n o&&rP.contains a) (kSubscript:=λo i _=>fM n o&&CX n i)
def Px(n:Nat)(e:aU):Bool:=if r5 e then(oU e).all (wT n)&&gA (oU e) else wT n e
def RM(e:aU):Str:=iP e "" (kName:=λx _=>x)
noncomputable def Lk(e:aU):Bool:=r5 e&&match oU e with
 | []=>aA
 |a::r=>match r with
  | []=>aA
  |b::r=>r.isEmpty&&(!m5 a&&(!m5 b&& !(RM a==RM b)))
noncomputable def Ll(e:aU):Bool:=r5 e&&match oU e with
 | []=>aA
 |x::r=>match r with
  | []=>aA
  |y::r=>r.isEmpty&&(gA [x,y]&& !(rE 8 x&&rE 8 y))
def HK(n:Nat)(e:aU):Bool:=iP e aA (kListComp:=λdW aI _ _=>fM n dW&&HL n aI)
def Pt(n:Nat)(t e:aU):Bool:=if Lk t&&Ll e then fM n e else if !m5 t&& !xn e then HK n e else fM n e&&(Px n t&&((xn e||m5 t)&&Tw t e))
def Pu(n:Nat)(e:aU):Bool:=iP e aA (kName:=λ_ _=>ae) (kAttribute:=λo a _=>fM n o&&rP.contains a)
def Pw(n:Nat)(e:aU):Bool:=iP e aA (kSubscript:=λo i _=>fM n o&&fM n i)
mutual
noncomputable def HO:Nat->cD->Bool
 |0,_=>aA
 |n+1,s=>oR s aA
  (kExpr:=λe _=>fM n e&&xn e)
  (kPass:=λ_=>ae)
  (kBreak:=λ_=>ae)
  (kRaise:=λ_ _ _=>ae)
  (kReturn:=λe _=>wU n e)
  (kAssign:=λh1 e _=>match h1 with
   | []=>aA
   |t::h1=>h1.isEmpty&&Pt n t e)
  (kAugAssign:=λt _ e _=>Pu n t&&fM n e)
  (kDelete:=λh1 _=>match h1 with
   | []=>aA
   |t::h1=>h1.isEmpty&&Pw n t)
  (kIf:=λt a b _=>ts n t&&(tr n a&&tr n b))
  (kWhile:=λt a l _=>l.isEmpty&&(ts n t&&tr n a))
  (kFor:=λ_ it a l _=>l.isEmpty&&(HN n it&&(tr n a&&D1 it)))
  (kTry:=λa _ l f _=>l.isEmpty&&(f.isEmpty&&tr n a))
noncomputable def tr:Nat->List cD->Bool
 |0,_=>aA
 |n+1,ss=>ss.all (HO n)
end
set_option tactic.hygienic true in
theorem TC{o:aU}{a:Str}(h:JP o=ae)(Z:Env)(g0:Sem aG):Cw o a Z g0=g0:=by
 revert h
 rcases o<;>first |exact λ_=>(rfl:_=g0)|skip
 rename_i f df ff p;rcases df with _|⟨x,l⟩
 ·rcases ff with _|⟨y,k⟩
  ·rcases f<;>first |exact λ_=>(rfl:_=g0)|exact λh=>b8 h
  ·rcases f<;>exact λ_=>(rfl:_=g0)
 ·rcases f<;>exact λ_=>(rfl:_=g0)
theorem K7(h:D1 e=ae)(Z:Env)(x:aG):CC e Z x=bK x:=by
 revert h
 rcases e<;>first |exact λ_=>(rfl:_=bK x)|exact λh=>b8 h
theorem ti{ay:Type}{p:ay->Bool}{l:List ay}(h:l.all p=ae):∀e∈l,p e=ae:=i3.mp h
theorem kl.of{aH:List aU}(hn:gA aH=ae):(∀e∈aH,cE Θ C d e)->kl Θ C d aH:=by
 induction aH with
 |nil=>intro _;exact @kl.nil _ _ _
 |cons e aH ih=>
  intro h;have lm:gA aH=ae:=by unfold gA at hn⊢;rw [wk,he] at hn;exact hn.2
  exact @kl.cons _ _ _ _ _ (h e fK) (ih lm λcT av=>h cT (f8 _ av)) (Le hn)
theorem km.of{ss:List cD}:(∀s∈ss,ec Θ C d s)->km Θ C d ss:=by
 induction ss with
 |nil=>intro _;exact @km.nil _ _ _
 |cons s ss ih=>intro h;exact @km.cons _ _ _ _ _ (h s fK) (ih λcT av=>h cT (f8 _ av))
theorem aor{a b c:Option aU}{p:Pos}(h:CX n (.Slice a b c p)=ae):c=ac:=by
 induction n using n6 with
 |zero=>exact b8 h
 |succ n=>induction n using n6 with
  |zero=>exact b8 h
  |succ n=>
   have h:(c.isNone&&(wU n a&&wU n b))=ae:=h;rw [he] at h;exact Ge.mp h.1
structure VJ(Θ:fa)(C:mL)(d n:Nat):Prop where
 e:∀e,fM n e=ae->cE Θ C d e
 es:∀e,z5 n e=ae->gA e=ae/\kl Θ C d e
 o:∀e,wU n e=ae->rK Θ C d e
 t:∀e,ts n e=ae->ST Θ C d e
 r:∀e,HN n e=ae->mj Θ C d e
 i:∀e,CX n e=ae->om Θ C d e
 i2:∀e,CY n e=ae->om Θ C d e
 t2:∀e,C0 n e=ae->ST Θ C d e
 r2:∀e,CZ n e=ae->mj Θ C d e
 m:∀f pos,HM n f pos=ae->∀aH,kl Θ C d aH->gA aH=ae->aH.length<30->cE Θ C d (.Call f aH [] pos)
 dd:∀ff vs pos,Pv n ff vs=ae->cE Θ C d (.Dict ff vs pos)
 g:∀aI,HL n aI=ae->∃dq iter eU,aI=[⟨dq,iter,eU,0⟩]/\mj Θ C d iter/\(∀e∈eU,ST Θ C d e)/\D1 iter=ae
theorem cO{ay:Type}{l:List ay}(h:l.isEmpty=ae):l=[]:=List.isEmpty_iff.mp h
theorem aoP{c:Const}(h:Tx c=ae):∃x,c=.str x:=by
 rcases c<;>first |exact b8 h|exact⟨_,rfl⟩
set_option tactic.hygienic true in
theorem TA{e:Option aU}:Ej e=ae->∃x k p,e=J (.Constant (.str x) k p):=by
 rcases e with _|e
 ·exact λh=>b8 h
 ·refine @mW (λe=>Ej (J e)=ae->∃x k p,J e=J (.Constant (.str x) k p)) ?_ ?_ ?_ ?_ ?_ ?_ ?_ ?_ ?_ ?_ ?_ ?_ ?_ ?_ ?_ ?_ e<;>first |(intros;rename_i h;exact b8 h)|skip
  ·intro c k p h;obtain⟨x,rfl⟩:=aoP h;exact⟨_,_,_,rfl⟩
  ·exact λ_ q h=>b8 (q.symm.trans h)
theorem DE:(!m5 e)=ae->∃x p,e=.Name x p:=by
 rcases e<;>first |exact λh=>b8 h|exact λ_=>⟨_,_,rfl⟩
set_option tactic.hygienic true in
theorem tU(dD:nZ Θ d C)(n:Nat):VJ Θ C d n:=by
 induction n with
 |zero=>exact⟨λ_ h=>b8 h,λ_ h=>b8 h,λ_ h=>b8 h,λ_ h=>b8 h,λ_ h=>b8 h,λ_ h=>b8 h,λ_ h=>b8 h,λ_ h=>b8 h,λ_ h=>b8 h,λ_ _ h=>b8 h,λ_ _ _ h=>b8 h,λ_ h=>b8 h⟩
 |succ n am=>
  refine⟨λe=>?_,λaH h=>?_,λe=>?_,λe h=>?_,λe h=>?_,λe h=>?_,λe=>?_,λe=>?_,λe=>?_,λf pos h aH hs hn aQ=>?_,λff vs pos h=>?_,λaI h=>?_⟩
  ·refine @mW (λe=>fM (n+1) e=ae->cE Θ C d e) ?_ ?_ ?_ ?_ ?_ ?_ ?_ ?_ ?_ ?_ ?_ ?_ ?_ ?_ ?_ ?_ e<;>first |(intros;rename_i h;exact b8 h)|skip
   ·exact λ_ _ _ h=>cE.bool λe bl=>am.e _ (ti h e bl)
   ·exact λ_ _ _ _ h=>cE.bin (am.e _ (eZ h)) (am.e _ (eJ h))
   ·exact λ_ _ _ _ h=>cE.ifexp (am.t _ (eZ h)) (am.e _ (eZ (eJ h))) (am.e _ (eJ (eJ h)))
   ·exact λ_ _ _ h=>am.dd _ _ _ h
   ·intro _ _ _ _ h;obtain⟨t,i,f,rfl,c9,aq,hs⟩:=am.g _ (eJ h);exact cE.comp c9 (am.e _ (eZ h)) aq (K7 hs)
   ·exact λ_ _ _ _ h=>cE.compare (am.e _ (eZ h)) (λe bl=>am.e _ (ti (eZ (eJ h)) e bl)) (xo (eJ (eJ h)))
   ·intro f df ff pos h;obtain⟨ai,ak⟩:=fm h;obtain rfl:=cO ai;obtain⟨aZ,cC⟩:=fm ak;obtain⟨gl,gH⟩:=fm cC;refine tn (A7 f) (λq=>?_) λq=>?_
    ·exact cE.call dD (am.e _ ((aY q).symm.trans gH)) (am.es _ aZ).2 (am.es _ aZ).1 (of_decide_eq_true gl) q
    ·exact am.m _ _ ((a8 (ne_true_of_eq_false q)).symm.trans gH) _ (am.es _ aZ).2 (am.es _ aZ).1 (of_decide_eq_true gl)
   ·exact λ_ _ _ _=>cE.const
   ·exact λ_ _ _ h=>cE.attr (am.e _ (eZ h)) (eZ (eJ h)) (TC (eJ (eJ h)))
   ·exact λ_ _ _ h=>cE.subscript (am.e _ (eZ h)) (am.i _ (eJ h)) (λa b c p e=>by subst e;exact aor (n:=n) (eJ h))
   ·exact λ_ _ h=>cE.name (xo h)
   ·exact λ_ _ h=>cE.list (am.es _ h).2
   ·exact λ_ _ _ h=>cE.tuple (am.es _ h).2
   ·exact λ_ q h=>b8 (q.symm.trans h)
  ·exact⟨(eZ h),kl.of (eZ h) λe bl=>am.e _ (ti (eJ h) e bl)⟩
  ·rcases e with _|e
   ·exact λ_=>rK.none
   ·exact λh=>rK.some (am.e _ h)
  ·have h:(if xs e then fM n e else C0 n e)=ae:=h
   refine @tn (ST Θ C d e) (xs e) (λq=>?_) λq=>?_
   ·exact ST.plain (am.e _ ((aY q).symm.trans h)) q
   ·exact am.t2 _ ((a8 (ne_true_of_eq_false q)).symm.trans h)
  ·have h:(if A5 e then CZ n e else fM n e)=ae:=h
   refine @tn (mj Θ C d e) (A5 e) (λq=>?_) λq=>?_
   ·exact am.r2 _ ((aY q).symm.trans h)
   ·exact mj.plain (am.e _ ((a8 (ne_true_of_eq_false q)).symm.trans h)) q
  ·have h:(if A8 e then fM n e else CY n e)=ae:=h
   refine @tn (om Θ C d e) (A8 e) (λq=>?_) λq=>?_
   ·exact om.plain (am.e _ ((aY q).symm.trans h)) q
   ·exact am.i2 _ ((a8 (ne_true_of_eq_false q)).symm.trans h)
  ·refine @mW (λe=>CY (n+1) e=ae->om Θ C d e) ?_ ?_ ?_ ?_ ?_ ?_ ?_ ?_ ?_ ?_ ?_ ?_ ?_ ?_ ?_ ?_ e<;>first |(intros;rename_i h;exact b8 h)|skip
   ·intro a b c p h;obtain⟨ai,ak⟩:=fm h;obtain rfl:=Ge.mp ai;exact om.slice (am.o _ (eZ ak)) (am.o _ (eJ ak))
   ·exact λ_ q h=>b8 (q.symm.trans h)
  ·refine @mW (λe=>C0 (n+1) e=ae->ST Θ C d e) ?_ ?_ ?_ ?_ ?_ ?_ ?_ ?_ ?_ ?_ ?_ ?_ ?_ ?_ ?_ ?_ e<;>first |(intros;rename_i h;exact b8 h)|skip
   ·exact λ_ _ _ h=>ST.bool λe bl=>am.t _ (ti h e bl)
   ·intro bM _ _ h;obtain⟨ai,ak⟩:=fm h;rcases bM<;>first |exact b8 ai|exact ST.not (am.t _ ak)
   ·exact λ_ _ _ _ h=>ST.compare (am.e _ (eZ h)) (λe bl=>am.e _ (ti (eZ (eJ h)) e bl)) (xo (eJ (eJ h)))
   ·exact λ_ q h=>b8 (q.symm.trans h)
  ·refine @mW (λe=>CZ (n+1) e=ae->mj Θ C d e) ?_ ?_ ?_ ?_ ?_ ?_ ?_ ?_ ?_ ?_ ?_ ?_ ?_ ?_ ?_ ?_ e<;>first |(intros;rename_i h;exact b8 h)|skip
   ·intro f aH ff p h;obtain⟨ai,ak⟩:=fm h;obtain rfl:=cO ai;obtain⟨aZ,cC⟩:=fm ak;obtain⟨x,gZ,rfl⟩:=DE aZ;rcases n with _|n
    ·exact b8 (eZ cC)
    ·exact mj.call (xo (eZ cC)) (am.es _ (eJ cC)).2 (am.es _ (eJ cC)).1
   ·exact λ_ q h=>b8 (q.symm.trans h)
  ·revert h
   refine @mW (λe=>HM (n+1) e pos=ae->cE Θ C d (.Call e aH [] pos)) ?_ ?_ ?_ ?_ ?_ ?_ ?_ ?_ ?_ ?_ ?_ ?_ ?_ ?_ ?_ ?_ f<;>first |(intros;rename_i h;exact b8 h)|skip
   ·exact λ_ _ _ h=>cE.meth dD (am.e _ (eZ h)) hs hn aQ (TC (eZ (eJ h))) (eJ (eJ h))
   ·exact λ_ q h=>b8 (q.symm.trans h)
  ·rcases ff with _|⟨a,ff⟩
   ·obtain rfl:=cO h;exact cE.dict0
   ·rcases ff with _|⟨b,ff⟩
    ·exact b8 h
    ·rcases vs with _|⟨u,vs⟩
     ·exact b8 h
     ·rcases vs with _|⟨v,vs⟩
      ·exact b8 h
      ·obtain⟨ai,ak⟩:=fm h;obtain rfl:=cO ai;obtain⟨aZ,cC⟩:=fm ak;obtain rfl:=cO aZ;obtain⟨gl,gH⟩:=fm cC;obtain⟨az,k1,p1,rfl⟩:=TA gl;obtain⟨qC,gI⟩:=fm gH;obtain⟨aT,k2,p2,rfl⟩:=TA qC;exact cE.dict2 (am.e _ (eZ gI)) (am.e _ (eJ gI))
  ·rcases aI with _|⟨aB,aI⟩
   ·exact b8 h
   ·obtain⟨ai,ak⟩:=fm h;obtain rfl:=cO ai;obtain⟨aZ,cC⟩:=fm ak;obtain⟨gl,gH⟩:=fm cC;obtain⟨t,i,f,b⟩:=aB;obtain rfl:b=0:=beq_iff_eq.mp aZ;exact⟨t,i,f,rfl,am.r _ gl,λe bl=>am.t _ (ti (eZ gH) e bl),(eJ gH)⟩
set_option tactic.hygienic true in
theorem Tj(dD:nZ Θ d C){n:Nat}{t:aU}:wT n t=ae->iN Θ C d t:=by
 refine @mW (λe=>wT n e=ae->iN Θ C d e) ?_ ?_ ?_ ?_ ?_ ?_ ?_ ?_ ?_ ?_ ?_ ?_ ?_ ?_ ?_ ?_ t<;>first |(intros;rename_i h;exact b8 h)|skip
 ·exact λ_ _ _ h=> @iN.attr _ _ _ _ _ _ ((tU dD n).e _ (eZ h)) (eJ h)
 ·exact λ_ _ _ h=> @iN.subscript _ _ _ _ _ _ ((tU dD n).e _ (eZ h)) ((tU dD n).i _ (eJ h))
 ·exact λ_ _ _=> @iN.name _ _ _ _ _
 ·exact λ_ q h=>b8 (q.symm.trans h)
theorem AQ:r5 e=ae->∃k p,e=.Tuple (oU e) k p:=by
 rcases e<;>first |exact λh=>b8 h|exact λ_=>⟨_,_,rfl⟩
theorem aen:wT n e=ae->gA [e]=ae:=by
 refine @mW (λe=>wT n e=ae->gA [e]=ae) ?_ ?_ ?_ ?_ ?_ ?_ ?_ ?_ ?_ ?_ ?_ ?_ ?_ ?_ ?_ ?_ e<;>first |exact λ_ q h=>b8 (q.symm.trans h)|(intros;exact(rfl:_=ae))
theorem aoy(dD:nZ Θ d C){n:Nat}{t:aU}(h:Px n t=ae):iN Θ C d t/\gA [t]=ae:=by
 refine tn (r5 t) (λq=>?_) λq=>?_
 ·obtain⟨k,p,e⟩:=AQ q;have h:=(aY q).symm.trans h;exact G e (⟨iN.tuple (λe bl=>Tj dD (ti (eZ h) e bl)) (eJ h),rfl⟩)
 ·have h:=(a8 (ne_true_of_eq_false q)).symm.trans h;exact⟨Tj dD h,aen h⟩
theorem TD{t:Option aU}{l:Nat}(Z:Env):xn e=ae->s7 e t l Z=bK aA:=by
 rcases e<;>first |exact λ_=>(rfl:_=bK aA)|exact λh=>b8 h
theorem aoY{s:aU}(h:m5 t=ae)(l:Nat)(Z:Env):Dk s=ae->s7 s (J t) l Z=bK aA:=by
 rcases s<;>first |exact λ_=>(rfl:_=bK aA)|exact λaB=>b8 aB|skip
 revert h
 rcases t<;>first |exact λ_ _=>(rfl:_=bK aA)|exact λh=>b8 h
theorem abN(h:fM n e=ae):Dk e=ae:=by
 rcases n with _|n
 ·exact b8 h
 ·revert h
  refine @mW (λe=>fM (n+1) e=ae->Dk e=ae) ?_ ?_ ?_ ?_ ?_ ?_ ?_ ?_ ?_ ?_ ?_ ?_ ?_ ?_ ?_ ?_ e<;>first |exact λ_ q h=>b8 (q.symm.trans h)|(intros;exact(rfl:_=ae))
theorem aoZ{l:Nat}(aB:Dk e=ae)(h:(xn e||m5 t)=ae)(Z:Env):s7 e (J t) l Z=bK aA:=by
 rw [t8] at h;exact h.elim (TD Z) λh=>aoY h l Z aB
theorem Qa{bF:Type}(f:aU->Option bF)(aq:∀e,m5 e=ae->f e=ac):∀ {h1:List aU},h1.any m5=ae->(h1.filterMap f).length<h1.length
 |e::h1,h=>by
  rw [zl,t8] at h;rcases h with h|h
  ·exact G (List.filterMap_cons_none (aq e h)) (MY (List.length_filterMap_le _ _))
  ·have :=Qa f aq h;refine G List.filterMap_cons ?_;split
   ·simp only [sN];exact Nat.lt_add_right 1 this
   ·simp only [sN];exact Nat.add_lt_add_right this 1
theorem aow{t X:Sem (Option (List Str))}{dv dy eT:Prop}{_:Decidable dv}{_:Decidable dy}{_:Decidable eT}(h:dv\/eT)(e:t=if dv then bK ac else if dy then bK ac else if eT then bK ac else X):t=bK ac:=by
 by_cases k1:dv
 ·rw [aY k1] at e;exact e
 ·rw [a8 k1] at e;by_cases k2:dy
  ·rw [aY k2] at e;exact e
  ·rw [a8 k2,aY (h.resolve_left k1)] at e;exact e
theorem Kj{a b:Bool}(h:a=ae):(a||b)=ae:=by rw [h];rfl
theorem Z6{a b:Nat}(h:a<b):(a !=b)=ae:=bne_iff_ne.mpr (mf h)
theorem aoO(h:Tw t e=ae)(Z:Env):wG [t] e Z=bK ac:=by
 refine tn (r5 t&&r5 e) (λq=>?_) λq=>?_
 ·have h:=(aY q).symm.trans h;obtain⟨k,p,e1⟩:=AQ (eZ q);obtain⟨fO,gZ,e2⟩:=AQ (eJ q);refine G e1 (G e2 ?_);clear e1 e2 q;generalize oU t=h1 at h⊢;generalize oU e=vs;refine aow ?_ rfl;rw [t8] at h;rcases h with h|h
  ·exact .inl (Kj (Kj h))
  ·exact .inr (Kj (Z6 (Qa _ (λe bl=>by rcases e<;>first |rfl|exact b8 bl) h)))
 ·have h:=(a8 (ne_true_of_eq_false q)).symm.trans h;rw [t8] at h;clear q;revert h
  rcases t<;>first |exact λ_=>(rfl:_=bK ac)|skip
  all_goals (rcases e<;>first |exact λ_=>(rfl:_=bK ac)|exact λh=>h.elim b8 b8)
theorem apg(h:Lk t=ae):∃a pa b pb k p,t=.Tuple [.Name a pa,.Name b pb] k p/\(a==b)=aA:=by
 obtain⟨q,h⟩:=fm h;obtain⟨k,p,e⟩:=AQ q;refine G e ?_;generalize oU t=l at h⊢;induction l using mO with
 |nil=>exact b8 h
 |cons x r=>induction r using mO with
  |nil=>exact b8 h
  |cons y r=>
   obtain⟨ai,ak⟩:=fm h;obtain⟨aZ,cC⟩:=fm ak;obtain⟨gl,gH⟩:=fm cC;obtain rfl:=cO ai;obtain⟨a,pa,rfl⟩:=DE aZ;obtain⟨b,pb,rfl⟩:=DE gl;exact⟨a,pa,b,pb,k,p,rfl,xo gH⟩
theorem api(h:Ll t=ae):∃x y k p,t=.Tuple [x,y] k p/\gA [x,y]=ae/\(rE 8 x&&rE 8 y)=aA:=by
 obtain⟨q,h⟩:=fm h;obtain⟨k,p,e⟩:=AQ q;refine G e ?_;generalize oU t=l at h⊢;induction l using mO with
 |nil=>exact b8 h
 |cons x r=>induction r using mO with
  |nil=>exact b8 h
  |cons y r=>
   obtain⟨ai,ak⟩:=fm h;obtain rfl:=cO ai;exact⟨x,y,k,p,rfl,(eZ ak),xo (eJ ak)⟩
set_option tactic.hygienic true in
theorem aox(dD:nZ Θ d C){n:Nat}{t e:aU}{pos:Pos}(h:Pt n t e=ae):ec Θ C d (.Assign [t] e pos):=by
 have am:=tU dD n;refine @tn (ec Θ C d (.Assign [t] e pos)) (Lk t&&Ll e) (λq=>?_) λq=>?_
 ·replace h:fM n e=ae:=(aY q).symm.trans h
  obtain⟨a,pa,b,pb,k,p,rfl,IA⟩:=apg (eZ q);obtain⟨x,y,fO,gZ,rfl,ai,ak⟩:=api (eJ q);exact λ{_ _ _ _ _ _ _}=>ec.pair (am.e _ h) ai ak IA
 ·replace h:=(a8 (ne_true_of_eq_false q)).symm.trans h
  clear q;refine @tn (ec Θ C d (.Assign [t] e pos)) (!m5 t&& !xn e) (λq=>?_) λq=>?_
  ·replace h:HK n e=ae:=(aY q).symm.trans h
   obtain⟨x,p,rfl⟩:=DE (eZ q);clear q;revert h
   refine @mW (λe=>HK n e=ae->ec Θ C d (.Assign [.Name x p] e pos)) ?_ ?_ ?_ ?_ ?_ ?_ ?_ ?_ ?_ ?_ ?_ ?_ ?_ ?_ ?_ ?_ e<;>first |(intros;rename_i h;exact b8 h)|skip
   ·intro dW aI _ _ h;obtain⟨t,i,f,rfl,c9,aq,hs⟩:=am.g _ (eJ h);exact λ{_ _ _ _ _ _ _}=>ec.assignComp c9 (am.e _ (eZ h)) aq (K7 hs)
   ·exact λ_ q h=>b8 (q.symm.trans h)
  ·replace h:=(a8 (ne_true_of_eq_false q)).symm.trans h
   obtain⟨ai,ak⟩:=fm h;obtain⟨aZ,cC⟩:=fm ak;obtain⟨aM,a7⟩:=aoy dD aZ;exact λ{_ _ _ _ _ _ _}=>ec.assign (am.e _ ai) aM a7 (aoZ (abN ai) (eZ cC)) (aoO (eJ cC))
set_option tactic.hygienic true in
theorem Tk(dD:nZ Θ d C)(n:Nat):(∀s,HO n s=ae->ec Θ C d s)/\∀ss,tr n ss=ae->km Θ C d ss:=by
 induction n with
 |zero=>exact⟨λ_ h=>b8 h,λ_ h=>b8 h⟩
 |succ n U3=>
  have am:=tU dD n;obtain⟨U4,zd⟩:=U3;refine⟨λs=>?_,λss h=>km.of λs hs=>U4 _ (ti h s hs)⟩
  refine @aoM (λs=>HO (n+1) s=ae->ec Θ C d s) (λ_ _ _ _ _ _ _ _ _ _ h=>b8 h) (λ_ _ _ _ _ _ _ _ _ _ _ h=>b8 h) ?_ ?_ ?_ ?_ ?_ ?_ ?_ ?_ ?_ ?_ ?_ ?_ ?_ s
  ·intro e _ h;rcases n with _|n
   ·exact b8 h
   ·rcases e with _|e
    ·exact ec.ret0
    ·exact ec.ret ((tU dD n).e _ h)
  ·intro h1 _ h;rcases h1 with _|⟨t,h1⟩
   ·exact b8 h
   ·obtain⟨ai,ak⟩:=fm h;obtain rfl:=cO ai;revert ak
    refine @mW (λt=>Pw n t=ae->ec Θ C d (.Delete [t] _)) ?_ ?_ ?_ ?_ ?_ ?_ ?_ ?_ ?_ ?_ ?_ ?_ ?_ ?_ ?_ ?_ t<;>first |(intros;rename_i h;exact b8 h)|skip
    ·exact λ_ _ _ h=>ec.del (am.e _ (eZ h)) (am.e _ (eJ h))
    ·exact λ_ q h=>b8 (q.symm.trans h)
  ·intro h1 _ _ h;rcases h1 with _|⟨t,h1⟩
   ·exact b8 h
   ·obtain⟨ai,ak⟩:=fm h;obtain rfl:=cO ai;exact λ{_ _ _ _ _ _ _}=>aox dD ak
  ·intro t o e _ h;obtain⟨ai,ak⟩:=fm h;revert ai
   refine @mW (λt=>Pu n t=ae->ec Θ C d (.AugAssign t o e _)) ?_ ?_ ?_ ?_ ?_ ?_ ?_ ?_ ?_ ?_ ?_ ?_ ?_ ?_ ?_ ?_ t<;>first |(intros;rename_i h;exact b8 h)|skip
   ·exact λ_ _ _ h=>ec.augAttr (am.e _ (eZ h)) (eJ h) (am.e _ ak)
   ·exact λ_ _ _=>ec.augName (am.e _ ak)
   ·exact λ_ q h=>b8 (q.symm.trans h)
  ·intro _ it b l _ h;obtain⟨ai,ak⟩:=fm h;obtain rfl:=cO ai;obtain⟨aZ,cC⟩:=fm ak;exact ec.for (am.r _ aZ) (zd _ (eZ cC)) (K7 (eJ cC))
  ·intro _ _ _ _ h;obtain⟨ai,ak⟩:=fm h;obtain rfl:=cO ai;exact ec.loop (am.t _ (eZ ak)) (zd _ (eJ ak))
  ·exact λ_ _ _ _ h=>ec.ite (am.t _ (eZ h)) (zd _ (eZ (eJ h))) (zd _ (eJ (eJ h)))
  ·exact λ_ _ _ _ {_ _ _ _ _ _ _} ok a w=>w.elim
  ·intro _ _ _ _ _ h;obtain⟨ai,ak⟩:=fm h;obtain rfl:=cO ai;obtain⟨aZ,cC⟩:=fm ak;obtain rfl:=cO aZ;exact ec.tri (zd _ cC)
  ·exact λ_ _ h=>ec.expr (am.e _ (eZ h)) (λa6=>TD a6 (eJ h))
  ·exact λ_ _=>ec.pass
  ·exact λ_ _=>ec.brk
  ·exact λ_ q h=>b8 (q.symm.trans h)
end
end Mine.Internal
end
noncomputable section
set_option tactic.hygienic true
open PySem PySem.W PyProof.Rows PySem.Calls
namespace Mine.Internal
theorem Jz{ay:Type}{l:List ay}(h:l.length=1):∃a,l=[a]:=List.length_eq_one_iff.mp h
theorem AV{ay:Type}{l:List ay}{n:Nat}(h:l.length=n+1):∃a m,l=a::m/\m.length=n:=by
 cases l with
 |nil=>cases h
 |cons a m=>exact⟨a,m,rfl,M2 h⟩
theorem JA{ay:Type}{l:List ay}(h:l.length=2):∃a b,l=[a,b]:=by
 obtain⟨a,m,rfl,ak⟩:=AV h;obtain⟨b,rfl⟩:=Jz ak;exact⟨a,b,rfl⟩
theorem Rt{ay:Type}{l:List ay}(h:l.length=3):∃a b c,l=[a,b,c]:=by
 obtain⟨a,m,rfl,ak⟩:=AV h;obtain⟨b,c,rfl⟩:=JA ak;exact⟨a,b,c,rfl⟩
theorem Ru{ay:Type}{l:List ay}(h:l.length=4):∃a b c d,l=[a,b,c,d]:=by
 obtain⟨a,m,rfl,ak⟩:=AV h;obtain⟨b,c,d,rfl⟩:=Rt ak;exact⟨a,b,c,d,rfl⟩
theorem Rv{ay:Type}{l:List ay}(h:l.length=5):∃a b c d e,l=[a,b,c,d,e]:=by
 obtain⟨a,m,rfl,ak⟩:=AV h;obtain⟨b,c,d,e,rfl⟩:=Ru ak;exact⟨a,b,c,d,e,rfl⟩
theorem ag2{ay:Type}{l:List ay}(h:l.length=6):∃a b c d e f,l=[a,b,c,d,e,f]:=by
 obtain⟨a,m,rfl,ak⟩:=AV h;obtain⟨b,c,d,e,f,rfl⟩:=Rv ak;exact⟨a,b,c,d,e,f,rfl⟩
theorem abM:Ar.all (λp=>tr 40 (aW p.2))=ae:=by decide+kernel
def Eb(st:cD):Bool:=(dO st).isCoroutine==aA&&(dO st).isGenerator==aA&&(dO st).kind== .function&&eo (((dO st).names.map (·.1)).Nodup)&&(dO st).names.all (λp=>p.2 != .free)&&
 eo (((fF st).args.map (·.arg)).Nodup)&&((fF st).args.map (·.arg)).all (λx=>(dO st).names.lookup x==J .local ||(dO st).names.lookup x==J .cell)
theorem aoa:Ar.all (λp=>Eb p.2)=ae:=by decide+kernel
noncomputable def fdOf(o:Obj):FuncData:=match o.data with
 | .func fd=>fd
 |_=>jQ
def rc(P:cB)(st:cD)(fd:FuncData):Prop:=∀(s:cs) (vs:List aG),(dk P).In s.heap->vs.length=(fF st).args.length->BindsTo s fd ⟨vs,[]⟩ (((fF st).args.map (·.arg)).zip vs)
def p5(P:cB)(f:a1)(st:cD):Prop:=∃o fd,(dk P).lookup f=J o/\o.data=.func fd/\fd.body=.stmts (aW st)/\fd.scope=dO st/\fd.globals=k8/\fd.closure=[]/\fd.builtins=s5/\
 codeIn (dk P) fd.code fd.qualname=ae/\rc P st fd
section
variable {P:cB}{f:a1}{st:cD}{o:Obj}{fd:FuncData}
abbrev t4(P:cB)(st:cD)(fd:FuncData)(vs:List aG):Prop:=∀s:cs,(dk P).In s.heap->BindsTo s fd ⟨vs,[]⟩ (((fF st).args.map (·.arg)).zip vs)
theorem fy(e:(fF st).args.length=1)(h:∀a,t4 P st fd [a]):rc P st fd:=λs vs X aQ=>by obtain⟨a,rfl⟩:=Jz (aQ.trans e);exact h _ s X
theorem fz(e:(fF st).args.length=2)(h:∀a b,t4 P st fd [a,b]):rc P st fd:=λs vs X aQ=>by obtain⟨a,b,rfl⟩:=JA (aQ.trans e);exact h _ _ s X
theorem jV(e:(fF st).args.length=3)(h:∀a b c,t4 P st fd [a,b,c]):rc P st fd:=λs vs X aQ=>by obtain⟨a,b,c,rfl⟩:=Rt (aQ.trans e);exact h _ _ _ s X
theorem ot(e:(fF st).args.length=4)(h:∀a b c d,t4 P st fd [a,b,c,d]):rc P st fd:=λs vs X aQ=>by obtain⟨a,b,c,d,rfl⟩:=Ru (aQ.trans e);exact h _ _ _ _ s X
theorem rQ(e:(fF st).args.length=5)(h:∀a b c d x,t4 P st fd [a,b,c,d,x]):rc P st fd:=λs vs X aQ=>by obtain⟨a,b,c,d,x,rfl⟩:=Rv (aQ.trans e);exact h _ _ _ _ _ s X
theorem tj(e:(fF st).args.length=6)(h:∀a b c d x y,t4 P st fd [a,b,c,d,x,y]):rc P st fd:=λs vs X aQ=>by obtain⟨a,b,c,d,x,y,rfl⟩:=ag2 (aQ.trans e);exact h _ _ _ _ _ _ s X
theorem pB(o:Obj)(b:rc P st (fdOf o))(bA:o.data=.func (fdOf o))(hb:(fdOf o).body=.stmts (aW st))(hs:(fdOf o).scope=dO st)(bj:(fdOf o).globals=k8)(aD:(fdOf o).closure=[])(hn:(fdOf o).builtins=s5)
 (l:(dk P).lookup f=J o) (hk:codeIn (dk P) (fdOf o).code (fdOf o).qualname=ae):p5 P f st:=⟨o,_,l,bA,hb,hs,bj,aD,hn,hk,b⟩
theorem bd{vs:List aG}(h:bindArgs fd ⟨vs,[]⟩=bK (((fF st).args.map (·.arg)).zip vs)):t4 P st fd vs:=λ_ _=>BindsTo.of_eq h
theorem dE{a b:String}{m:String×Nat}{t i n c:Nat}{s:List String}(u:Nat->Obj)(e:u=Mine.Internal.fd st a b m t i n c s)(k:rc P st (fdOf (u 2)))(l:(dk P).lookup f=J (u 2))(hk:codeIn (dk P) (fdOf (u 2)).code (fdOf (u 2)).qualname=ae):p5 P f st:=by
 subst e;exact pB _ k rfl rfl rfl rfl rfl rfl l hk
end
theorem Ii{P:cB}{f:a1}{st:cD}(h:p5 P f st)(s:Eb st=ae):ue P f st:=by
 unfold Eb at s;simp only [he,beq_iff_eq,decide_eq_true_eq,i3,bne_iff_ne,ne_eq,t8] at s;obtain⟨⟨⟨⟨⟨⟨a,b⟩,c⟩,d⟩,e⟩,f⟩,aB⟩:=s;exact⟨h,a,b,c,d,e,f,aB⟩
theorem X3{ay:Type}{Q:ay->Prop}:∀p∈([]:List ay),Q p:=λ_ h=>nomatch h
theorem X2{ay:Type}{Q:ay->Prop}{a:ay}{l:List ay}(h:Q a)(t:∀p∈l,Q p):∀p∈a::l,Q p:=λp hp=>(fw.mp hp).elim (λe=>e▸h) (t p)
theorem c8{P:cB}{f:a1}{st:cD}{l:List (a1×cD)}(h:p5 P f st)(t:∀p∈l,p5 P p.1 p.2):∀p∈(f,st)::l,p5 P p.1 p.2:=X2 (Q:=λp:a1×cD=>p5 P p.1 p.2) h t
theorem adv(P:cB):∀p∈Ar,p5 P p.1 p.2:=
 c8 (dE xH rfl (fz rfl λ_ _=>bd rfl) (by kernel_rfl) (by kernel_rfl)) (c8 (dE xI rfl (fz rfl λ_ _=>bd rfl) (by kernel_rfl) (by kernel_rfl)) (c8 (dE xJ rfl (jV rfl λ_ _ _=>bd rfl) (by kernel_rfl) (by kernel_rfl)) (c8 (dE xK rfl (jV rfl λ_ _ _=>bd rfl) (by kernel_rfl) (by kernel_rfl)) (c8 (dE xL rfl (fz rfl λ_ _=>bd rfl) (by kernel_rfl) (by kernel_rfl)) (c8 (pB JT (tj rfl λ_ _ _ _ _ _ s X=>binds_K (K:=dk P) X rfl (show _=J JS from rfl) rfl rfl rfl) rfl rfl rfl rfl rfl rfl (by kernel_rfl) (by kernel_rfl)) (c8 (dE xM rfl (fy rfl λ_=>bd rfl) (by kernel_rfl) (by kernel_rfl)) (c8 (dE xN rfl (fy rfl λ_=>bd rfl) (by kernel_rfl) (by kernel_rfl)) (c8 (dE xO rfl (fy rfl λ_=>bd rfl) (by kernel_rfl) (by kernel_rfl)) (c8 (dE xP rfl (fy rfl λ_=>bd rfl) (by kernel_rfl) (by kernel_rfl)) (c8 (dE xQ rfl (fz rfl λ_ _=>bd rfl) (by kernel_rfl) (by kernel_rfl)) (c8 (dE xR rfl (fz rfl λ_ _=>bd rfl) (by kernel_rfl) (by kernel_rfl)) (c8 (dE xT rfl (jV rfl λ_ _ _=>bd rfl) (by kernel_rfl) (by kernel_rfl)) (c8 (pB JU (ot rfl λ_ _ _ _=>bd rfl) rfl rfl rfl rfl rfl rfl (by kernel_rfl) (by kernel_rfl)) (c8 (dE q0 rfl (jV rfl λ_ _ _=>bd rfl) (by kernel_rfl) (by kernel_rfl)) (c8 (dE xU rfl (jV rfl λ_ _ _=>bd rfl) (by kernel_rfl) (by kernel_rfl)) (c8 (dE xV rfl (fy rfl λ_=>bd rfl) (by kernel_rfl) (by kernel_rfl)) (c8 (dE xW rfl (fy rfl λ_=>bd rfl) (by kernel_rfl) (by kernel_rfl)) (c8 (dE xX rfl (fy rfl λ_=>bd rfl) (by kernel_rfl) (by kernel_rfl)) (c8 (dE xY rfl (jV rfl λ_ _ _=>bd rfl) (by kernel_rfl) (by kernel_rfl)) (c8 (dE xZ rfl (fz rfl λ_ _=>bd rfl) (by kernel_rfl) (by kernel_rfl)) (c8 (dE x0 rfl (fz rfl λ_ _=>bd rfl) (by kernel_rfl) (by kernel_rfl)) (c8 (dE x1 rfl (fz rfl λ_ _=>bd rfl) (by kernel_rfl) (by kernel_rfl)) (c8 (dE x2 rfl (fy rfl λ_=>bd rfl) (by kernel_rfl) (by kernel_rfl)) (c8 (dE x3 rfl (ot rfl λ_ _ _ _=>bd rfl) (by kernel_rfl) (by kernel_rfl)) (c8 (dE x4 rfl (fz rfl λ_ _=>bd rfl) (by kernel_rfl) (by kernel_rfl)) (c8 (dE x5 rfl (fz rfl λ_ _=>bd rfl) (by kernel_rfl) (by kernel_rfl)) (c8 (dE x6 rfl (ot rfl λ_ _ _ _=>bd rfl) (by kernel_rfl) (by kernel_rfl)) (c8 (dE x7 rfl (ot rfl λ_ _ _ _=>bd rfl) (by kernel_rfl) (by kernel_rfl)) (c8 (dE x8 rfl (rQ rfl λ_ _ _ _ _=>bd rfl) (by kernel_rfl) (by kernel_rfl)) (c8 (dE x9 rfl (fz rfl λ_ _=>bd rfl) (by kernel_rfl) (by kernel_rfl)) (c8 (dE ya rfl (jV rfl λ_ _ _=>bd rfl) (by kernel_rfl) (by kernel_rfl)) (c8 (dE yb rfl (fy rfl λ_=>bd rfl) (by kernel_rfl) (by kernel_rfl)) (c8 (dE yc rfl (fy rfl λ_=>bd rfl) (by kernel_rfl) (by kernel_rfl)) (c8 (dE yd rfl (fz rfl λ_ _=>bd rfl) (by kernel_rfl) (by kernel_rfl)) (c8 (dE ye rfl (fy rfl λ_=>bd rfl) (by kernel_rfl) (by kernel_rfl)) (c8 (dE yf rfl (jV rfl λ_ _ _=>bd rfl) (by kernel_rfl) (by kernel_rfl)) (c8 (dE yg rfl (fz rfl λ_ _=>bd rfl) (by kernel_rfl) (by kernel_rfl)) (c8 (dE yh rfl (fz rfl λ_ _=>bd rfl) (by kernel_rfl) (by kernel_rfl)) (c8 (dE yi rfl (fz rfl λ_ _=>bd rfl) (by kernel_rfl) (by kernel_rfl)) (c8 (dE yj rfl (fy rfl λ_=>bd rfl) (by kernel_rfl) (by kernel_rfl)) (c8 (dE yk rfl (fz rfl λ_ _=>bd rfl) (by kernel_rfl) (by kernel_rfl)) (c8 (dE yl rfl (fz rfl λ_ _=>bd rfl) (by kernel_rfl) (by kernel_rfl)) (c8 (dE ym rfl (fz rfl λ_ _=>bd rfl) (by kernel_rfl) (by kernel_rfl)) (c8 (dE yn rfl (fz rfl λ_ _=>bd rfl) (by kernel_rfl) (by kernel_rfl)) (c8 (dE yo rfl (fy rfl λ_=>bd rfl) (by kernel_rfl) (by kernel_rfl)) (c8 (dE yp rfl (fz rfl λ_ _=>bd rfl) (by kernel_rfl) (by kernel_rfl)) (c8 (dE yq rfl (jV rfl λ_ _ _=>bd rfl) (by kernel_rfl) (by kernel_rfl)) (c8 (dE yr rfl (jV rfl λ_ _ _=>bd rfl) (by kernel_rfl) (by kernel_rfl)) (c8 (dE ys rfl (fy rfl λ_=>bd rfl) (by kernel_rfl) (by kernel_rfl)) (c8 (dE yt rfl (fz rfl λ_ _=>bd rfl) (by kernel_rfl) (by kernel_rfl)) (c8 (dE yu rfl (fz rfl λ_ _=>bd rfl) (by kernel_rfl) (by kernel_rfl)) (c8 (dE yv rfl (jV rfl λ_ _ _=>bd rfl) (by kernel_rfl) (by kernel_rfl)) (c8 (dE yw rfl (fy rfl λ_=>bd rfl) (by kernel_rfl) (by kernel_rfl)) (c8 (pB JY (fz rfl λ_ _=>bd rfl) rfl rfl rfl rfl rfl rfl (by kernel_rfl) (by kernel_rfl)) (c8 (pB J0 (rQ rfl λ_ _ _ _ _ s X=>binds_K (K:=dk P) X rfl (show _=J JZ from rfl) rfl rfl rfl) rfl rfl rfl rfl rfl rfl (by kernel_rfl) (by kernel_rfl)) (c8 (dE yx rfl (fz rfl λ_ _=>bd rfl) (by kernel_rfl) (by kernel_rfl)) (c8 (dE yy rfl (fy rfl λ_=>bd rfl) (by kernel_rfl) (by kernel_rfl)) (c8 (dE yz rfl (fy rfl λ_=>bd rfl) (by kernel_rfl) (by kernel_rfl)) (c8 (dE yA rfl (fy rfl λ_=>bd rfl) (by kernel_rfl) (by kernel_rfl)) (c8 (dE yB rfl (fz rfl λ_ _=>bd rfl) (by kernel_rfl) (by kernel_rfl)) (c8 (dE yC rfl (fy rfl λ_=>bd rfl) (by kernel_rfl) (by kernel_rfl)) (c8 (dE yD rfl (fy rfl λ_=>bd rfl) (by kernel_rfl) (by kernel_rfl)) (c8 (dE yE rfl (fy rfl λ_=>bd rfl) (by kernel_rfl) (by kernel_rfl)) (c8 (dE yF rfl (fz rfl λ_ _=>bd rfl) (by kernel_rfl) (by kernel_rfl)) (c8 (dE yG rfl (jV rfl λ_ _ _=>bd rfl) (by kernel_rfl) (by kernel_rfl)) (c8 (pB J1 (fz rfl λ_ _=>bd rfl) rfl rfl rfl rfl rfl rfl (by kernel_rfl) (by kernel_rfl)) (c8 (dE yH rfl (ot rfl λ_ _ _ _=>bd rfl) (by kernel_rfl) (by kernel_rfl)) (c8 (pB J2 (fy rfl λ_=>bd rfl) rfl rfl rfl rfl rfl rfl (by kernel_rfl) (by kernel_rfl)) (c8 (pB J3 (fz rfl λ_ _=>bd rfl) rfl rfl rfl rfl rfl rfl (by kernel_rfl) (by kernel_rfl)) (c8 (dE yI rfl (rQ rfl λ_ _ _ _ _=>bd rfl) (by kernel_rfl) (by kernel_rfl)) (c8 (pB J4 (ot rfl λ_ _ _ _=>bd rfl) rfl rfl rfl rfl rfl rfl (by kernel_rfl) (by kernel_rfl)) (c8 (dE yJ rfl (fz rfl λ_ _=>bd rfl) (by kernel_rfl) (by kernel_rfl)) (c8 (pB J5 (tj rfl λ_ _ _ _ _ _=>bd rfl) rfl rfl rfl rfl rfl rfl (by kernel_rfl) (by kernel_rfl)) (c8 (pB J6 (fy rfl λ_=>bd rfl) rfl rfl rfl rfl rfl rfl (by kernel_rfl) (by kernel_rfl)) (X3)))))))))))))))))))))))))))))))))))))))))))))))))))))))))))))))))))))))))))
theorem Ij(P:cB){f:a1}{st:cD}(e:r1 f=J st):ue P f st/\tr 40 (aW st)=ae:=
 ⟨Ii (adv P _ (As e)) (i3.mp aoa _ (As e)),i3.mp abM _ (As e)⟩
end Mine.Internal
end
noncomputable section
set_option tactic.hygienic true
open PySem PySem.W PyProof.Rows PySem.Calls
namespace Mine.Internal.P
def aj{ay:Type}(o:Option ay)(k:ay->Prop):Prop:=match o with
 |J a=>k a
 |ac=>False
def aF{ay bF:Type}(o:Option (ay×bF))(k:ay->bF->Prop):Prop:=match o with
 |J (a,b)=>k a b
 |ac=>False
def dU(c:Bool)(A B:Prop):Prop:=match c with
 |ae=>A
 |aA=>B
def bo(bM:ww)(b:Bool)(A B:Prop):Prop:=match bM,b with
 | .And,aA=>A
 | .Or,ae=>A
 |_,_=>B
def jJ(a b:Option (Option Int))(k:Option Int->Option Int->Prop):Prop:=match a,b with
 |J u,J v=>k u v
 |_,_=>False
def eq(H:an)(o:bt)(k:L->an->Prop):Prop:=k (.new H.length) (H++[o])
def fP(l:List L)(k:L->List L->Prop):Prop:=match l with
 | []=>False
 |v::l=>k v l
def kz(v:L)(H:an)(n:Nat)(k:List L->Prop):Prop:=match v with
 | .new j=>match H[j]?with
  |J (.tup l)=>if l.length=n then k l else False
  |_=>False
 |_=>False
def lp(v:L)(H:an)(k:Nat->Prop):Prop:=match listOf v H with
 |J i=>k i
 |ac=>False
def kp(a b:L)(o:Option (L×an))(k:L->an->Prop):Prop:=match o with
 |J (v,H)=>if isInt a&&isInt b then k v H else False
 |ac=>False
theorem bZ{A B:Prop}(e:A=B)(h:A):B:=e.mp h
noncomputable def r8:List aU->Nat->aU
 | [],_=>.Name "" jQ
 |a::_,0=>a
 |_::l,k+1=>r8 l k
def j8(e:aU)(i:Nat):aU:=iP e e
 (kBinOp:=λl _ r _=>r8 [l,r] i) (kBoolOp:=λ_ vs _=>r8 vs i) (kIfExp:=λt a b _=>r8 [t,a,b] i)
 (kCompare:=λl _ rs _=>r8 (l::rs) i) (kAttribute:=λo _ _=>o) (kSubscript:=λo x _=>r8 [o,x] i)
 (kList:=λaH _=>r8 aH i) (kTuple:=λaH _ _=>r8 aH i) (kCall:=λf aH _ _=>r8 (f::aH) i)
 (kListComp:=λe _ _ _=>e) (kUnaryOp:=λ_ e _=>e)
noncomputable def vx:aU:=.Name "" jQ
def fD(s:cD)(i:Nat):aU:=oR s vx (kExpr:=λe _=>e) (kReturn:=λe _=>e.getD vx) (kAssign:=λ_ e _=>e)
 (kIf:=λt _ _ _=>t) (kWhile:=λt _ _ _=>t) (kFor:=λ_ it _ _ _=>it)
def DM(s:cD)(i:Nat):cD:=oR s s (kIf:=λ_ a b _=>bw (a++b) i) (kWhile:=λ_ a _ _=>bw a i) (kFor:=λ_ _ a _ _=>bw a i) (kTry:=λa _ _ _ _=>bw a i)
def nO(s:cD):aU:=oR s vx (kFor:=λt _ _ _ _=>t)
def Iq(e:aU):Gl:=iP e ⟨vx,vx,[],0⟩ (kListComp:=λ_ aI _ _=>aI.headD ⟨vx,vx,[],0⟩)
def vO(e:aU):aU:=(Iq e).target
def vG(e:aU):jA:=iP e jQ (kListComp:=λ_ _ sc _=>sc)
def eh(s:cD):List cD:=oR s [] (kWhile:=λ_ a _ _=>a) (kFor:=λ_ _ a _ _=>a) (kTry:=λa _ _ _ _=>a)
def ajj(s:cD):Pos:=oR s jQ (kWhile:=λ_ _ _ p=>p)
def m0(e:aU):List aU:=(Iq e).ifs
def vm(s:cD):List cD:=oR s [] (kIf:=λ_ a _ _=>a)
abbrev cL:=a1->List L->an->(L->an->Prop)->Prop
abbrev b3:=L->an->Prop
abbrev ez:=jw->Loc->an->Prop
noncomputable abbrev dI:=List UInt8
abbrev aw(n:Nat):cL:=Ea False n
noncomputable def ed(C:cL)(ct:List cD)(ax:ds)(K:ez):jw->Loc->an->Prop:=λdn m H=>match dn with
 | .next=>b1 False C ct ax m H K
 |dn=>K dn m H
def dM(k:b3):jw->Loc->an->Prop:=λdn _ H=>k (D8 dn) H
theorem EV{C:cL}{st:cD}{ss ct:List cD}{ax:ds}{m:Loc}{H:an}{k:ez}(e1:ss=st::ct)(dg:st=.While (fD st 0) (eh st) [] (ajj st))
  (h:l3 False (λm H q=>ge False C (fD st 0) (λH k=>bO False C (fD st 0) ax m H k) ax m H q) (λm H q=>b1 False C (eh st) ax m H q) f6 m H (ed C ct ax k)):b1 False C ss ax m H k:=by
 rw [e1,Ub,dg,Ua];exact h
theorem Bk{n:Nat}{f:a1}{st:cD}{vs:List L}{H:an}{k:b3}{ss:List cD}{m:Loc}(e:r1 f=J st)(jL:¬f=917)(aQ:eo (vs.length=(fF st).args.length)=ae)
  (aH:aW st=ss) (hJ:((fF st).args.map (·.arg)).zip vs=m) (h:b1 False (aw n) ss (dO st).names m H (dM k)):aw (n+1) f vs H k:=by
 show(if f=917 then Bj False vs H k else tm False (aw n) f vs H k)
 rw [a8 jL];unfold tm;rw [e];show if vs.length=(fF st).args.length then _ else False
 rw [aY (of_decide_eq_true aQ),aH,hJ];exact h
theorem XX{C:cL}{ss ct:List cD}{ax:ds}{K:ez}{m:Loc}{H:an}(e:ct=ss)(h:b1 False C ss ax m H K):ed C ct ax K .next m H:=by
 subst e;exact h
section
variable {n:Nat}{C:cL}{m:Loc}{bR aN kR self bC er dA db data uQ wQ gx nG ap part nA e8 ik jP qy mY PF b0 tQ row cZ one fe ep fg ct gS fG ev e3 pair i6 h3:L}{H:an}{k:b3}{q K:ez}
theorem Yi(h:let C:=aw n;aF (a5 .BitAnd kR (L.int 255) H) λgK cM=>aj (fS bR (.at_ aN) gK cM) λcg=>aF (a5 .RShift kR (L.int 8) cg) λnT eP=>aF (a5 .BitAnd nT (L.int 255) eP) λlw dr=>aF (a5 .Add aN (L.int 1) dr) λi9 dN=>aj (fS bR (.at_ i9) lw dN) λh7=>k L.none h7):aw (n+1) 118 [bR,aN,kR] H k:=bZ (by kernel_rfl) h
theorem Yj(h:let C:=aw n;aF (a5 .BitAnd kR (L.int 65535) H) λgK cM=>C 118 [bR,aN,gK] cM λgJ eD=>aF (a5 .Add aN (L.int 2) eD) λgB cx=>aF (a5 .RShift kR (L.int 16) cx) λnU gi=>aF (a5 .BitAnd nU (L.int 65535) gi) λkQ h7=>C 118 [bR,gB,kQ] h7 λani o0=>k L.none o0):aw (n+1) 125 [bR,aN,kR] H k:=bZ (by kernel_rfl) h
theorem Yk(h:let C:=aw n;aj (aV self lA H) λaz=>aj (aV self (z "indirect") H) λaT=>aF (a5 .Add az aT H) λl1 eD=>k l1 eD):aw (n+1) 154 [self] H k:=bZ (by kernel_rfl) h
theorem Yl(h:let C:=aw n;aj (aV self iY H) λaz=>aj (bx self (z "most_blocks") H) λdy=>bB False C dy [] H λgJ eD=>aF (a5 .Mult az gJ eD) λgB cx=>k gB cx):aw (n+1) 161 [self] H k:=bZ (by kernel_rfl) h
theorem Ym(h:let C:=aw n;aj (aV self BM H) λaz=>aj (aV self eO H) λaT=>aF (a5 .FloorDiv bC aT H) λl1 eD=>aF (a5 .Add az l1 eD) λgB cx=>aj (aV self eO cx) λmE=>aF (a5 .Mod bC mE cx) λi9 dN=>aj (aV self jc dN) λsw=>aF (a5 .Mult i9 sw dN) λkO o0=>eq o0 (.tup [gB,kO]) λil jg=>k il jg):aw (n+1) 182 [self,bC] H k:=bZ (by kernel_rfl) h
def VK(C:cL)(self:L)(cM:an)(gK bC:L)(k:b3):Prop:=aj (aV self BL cM) λca=>aj (aV self iY cM) λc7=>aF (a5 .FloorDiv gK c7 cM) λgB cx=>aF (a5 .Add ca gB cx) λnU gi=>aj (aV self iY gi) λlx=>aF (a5 .Mod gK lx gi) λfT eg=>aF (a5 .BitAnd bC (L.int 7) eg) λdY gt=>aF (a5 .LShift (L.int 1) dY gt) λh2 fb=>eq fb (.tup [nU,fT,h2]) λkc fv=>k kc fv
theorem Yn(h:let C:=aw n;aF (a5 .RShift bC (L.int 3) H) λgK cM=>VK C self cM gK bC k):aw (n+1) 189 [self,bC] H k:=bZ (by kernel_rfl) h
def uA:ds:=(dO (aL 22 3)).names
def E8:aU:=nO (bw (aW (aL 22 3)) 5)
def VM(C:cL)(self:L)(hP:an)(bR aN:L)(k:b3):Prop:=aj (aV self eC hP) λmD=>lp mD hP λafz=>gR False uA E8 (λm H q=>b1 False C (eh (bw (aW (aL 22 3)) 5)) uA m H q) (.enum afz) f6 0 [(bQ,self),(d2,bR),(e4,aN)] hP (ed C ((aW (aL 22 3)).drop 6) uA (dM k))
def VN(C:cL)(aN:L)(gt:an)(self bR:L)(k:b3):Prop:=aF (a5 .Add aN (L.int 6) gt) λh2 fb=>aj (aV self (z "links") fb) λnV=>C 118 [bR,h2,nV] fb λKB lC=>aF (a5 .Add aN (L.int 8) lC) λvQ lD=>aj (aV self dH lD) λMc=>C 125 [bR,vQ,Mc] lD λKI hP=>VM C self hP bR aN k
def VO(C:cL)(aN:L)(cg:an)(self bR:L)(k:b3):Prop:=aF (a5 .Add aN (L.int 2) cg) λnT eP=>aj (aV self (z "major") eP) λh4=>C 118 [bR,nT,h4] eP λS2 gi=>aF (a5 .Add aN (L.int 4) gi) λkQ h7=>aj (aV self (z "minor") h7) λv2=>C 118 [bR,kQ,v2] h7 λoO gt=>VN C aN gt self bR k
theorem Yo(h:let C:=aw n;aj (aV self (z "kind") H) λaz=>C 118 [bR,aN,az] H λdG cg=>VO C aN cg self bR k):aw (n+1) 229 [self,bR,aN] H k:=bZ (by kernel_rfl) h
theorem LR(h:let C:=aw n;aF (a5 .Add aN (L.int 12) H) λmx hE=>aF (a5 .Mult (L.int 4) er hE) λsp gD=>aF (a5 .Add mx sp gD) λnR i0=>C 125 [bR,nR,bC] i0 λoP mb=>q .next [(bQ,self),(d2,bR),(e4,aN),(dQ,er),(bS,bC)] mb):b1 False (aw n) (eh (bw (aW (aL 22 3)) 5)) uA [(bQ,self),(d2,bR),(e4,aN),(dQ,er),(bS,bC)] H q:=bZ (by kernel_rfl) h
theorem WT(h:let C:=aw n;k L.none H):(let C:=aw n;ed C ((aW (aL 22 3)).drop 6) uA (dM k) .next [(bQ,self),(d2,bR),(e4,aN),(dQ,er),(bS,bC)] H):=bZ (by kernel_rfl) h
theorem Yp(h:let C:=aw n;aj (aV self eB H) λaz=>aj (bx az mK H) λdy=>bB False C dy [self,dA,bR] H λgJ eD=>k gJ eD):aw (n+1) 250 [self,dA,bR] H k:=bZ (by kernel_rfl) h
theorem Yq(h:let C:=aw n;aj (aV self eB H) λaz=>aj (bx az (z "truncate") H) λdy=>bB False C dy [self] H λgJ eD=>k L.none eD):aw (n+1) 257 [self] H k:=bZ (by kernel_rfl) h
def VP(C:cL)(self:L)(lC:an)(xu:L)(k:b3):Prop:=aj (aV self hl lC) λsx=>aj (bx sx mK lC) λnx=>bB False C nx [xu] lC λxv g5=>aj (aV self fU g5) λpT=>aj (bx pT oZ g5) λov=>bB False C ov [xu] g5 λvE fC=>k L.none fC
def VQ(C:cL)(self:L)(eP:an)(nU db kQ:L)(k:b3):Prop:=aj (aV self fU eP) λv2=>aj (bx v2 nX eP) λrR=>bB False C rR [nU] eP λxu jg=>aj (bx db (z "put_row") jg) λpo=>aj (aV xu gf jg) λnV=>bB False C po [nV,kQ] jg λKB lC=>VP C self lC xu k
theorem Yr(h:let C:=aw n;aj (aV self hO H) λaz=>aj (bx az (z "row_of") H) λdy=>aj (aV db bS H) λca=>bB False C dy [ca] H λnL eP=>kz nL eP 2 λRh=>fP Rh λnU Jv=>fP Jv λkQ DO=>VQ C self eP nU db kQ k):aw (n+1) 335 [self,db] H k:=bZ (by kernel_rfl) h
def o7:ds:=(dO (aL 23 9)).names
theorem ai5{ct:List cD}(h:aj (aV self hO H) λca=>aj (aV ca v7 H) λc7=>b1 False C ct o7 [(bQ,self),(bS,c7)] H K):b1 False C (bw (aW (aL 23 9)) 0::ct) o7 [(bQ,self)] H K:=bZ (by kernel_rfl) h
theorem Ys(h:let C:=aw n;aj (aV self hO H) λca=>aj (aV ca v7 H) λc7=>b1 False C ((aW (aL 23 9)).drop 1) o7 [(bQ,self),(bS,c7)] H (dM k)):aw (n+1) 363 [self] H k:=Bk (st:=aL 23 9) (ss:=bw (aW (aL 23 9)) 0::((aW (aL 23 9)).drop 1)) (m:=[(bQ,self)]) (by kernel_rfl) (by decide) (by kernel_rfl) (by kernel_rfl) (by kernel_rfl) (ai5 h)
theorem ao0{q:Bool->an->Prop}(h:let C:=aw n;aj (aV self hO H) λeG=>aj (aV eG mG H) λh4=>aj (bW .Lt bC h4 H) λhw=>q hw H):ge False (aw n) (fD (bw (aW (aL 23 9)) 1) 0) (λH k=>bO False (aw n) (fD (bw (aW (aL 23 9)) 1) 0) o7 [(bQ,self),(bS,bC)] H k) o7 [(bQ,self),(bS,bC)] H q:=bZ (by kernel_rfl) h
def VR(C:cL)(i4:Bool)(self:L)(um:an)(e9 dY eV l2 mz:L)(q:ez):Prop:=dU i4 (aj (bx self (z "clear_block") um) λz0=>bB False C z0 [e9] um λas0 uo=>q (.ret e9) [(bQ,self),(bS,e9),(dQ,dY),(oY,eV),(z "taken",(L.bool i4)),(e4,l2),(z "bit",mz)] uo) (q .next [(bQ,self),(bS,e9),(dQ,dY),(oY,eV),(z "taken",(L.bool i4)),(e4,l2),(z "bit",mz)] um)
def VS(C:cL)(self:L)(rp:an)(eV:L)(i4:Bool)(e9 dY l2 mz:L)(q:ez):Prop:=aj (aV self hl rp) λarQ=>aj (bx arQ mK rp) λuV=>bB False C uV [eV] rp λSY uk=>aj (aV self fU uk) λarR=>aj (bx arR oZ uk) λaa7=>bB False C aa7 [eV] uk λasZ um=>VR C i4 self um e9 dY eV l2 mz q
def VT(C:cL)(eV:L)(kC:an)(l2 mz self:L)(i4:Bool)(e9 dY:L)(q:ez):Prop:=aj (aV eV gf kC) λarO=>aF (cj arO (.at_ l2) kC) λBt ui=>aF (a5 .BitOr Bt mz ui) λvT nk=>aj (aV eV gf nk) λMj=>aj (fS Mj (.at_ l2) vT nk) λrp=>VS C self rp eV i4 e9 dY l2 mz q
def Oh(C:cL)(self:L)(hr:an)(e9 eV:L)(i4:Bool)(dY:L)(q:ez):Prop:=aj (aV self hO hr) λv4=>aj (bx v4 (z "bit_of") hr) λHr=>bB False C Hr [e9] hr λKQ iJ=>jJ (eA (L.int 1)) (eA L.none) λLo apA=>aF (cj KQ (.sl Lo apA) iJ) λBr kC=>kz Br kC 2 λagt=>fP agt λl2 agv=>fP agv λmz asN=>VT C eV kC l2 mz self i4 e9 dY q
def Oi(C:cL)(i4:Bool)(self:L)(kW:an)(e9 dY eV:L)(q:ez):Prop:=dU i4 (aj (bx self (z "clear_block") kW) λz1=>bB False C z1 [e9] kW λS1 y4=>q (.ret e9) [(bQ,self),(bS,e9),(dQ,dY),(oY,eV),(z "taken",(L.bool i4))] y4) (q .next [(bQ,self),(bS,e9),(dQ,dY),(oY,eV),(z "taken",(L.bool i4))] kW)
def VU(C:cL)(self:L)(g4:an)(e9 dY eV:L)(q:ez):Prop:=aj (aV self hO g4) λsy=>aj (aV sy mG g4) λpT=>aj (bW .Lt e9 pT g4) λov=>dU ov (aj (aV self hO g4) λMe=>aj (bx Me (z "bit_of") g4) λHn=>bB False C Hn [e9] g4 λKM jh=>aF (cj KM (.at_ (L.int 0)) jh) λsq hr=>aj (bW .Eq sq dY hr) λi4=>dU i4 (Oh C self hr e9 eV i4 dY q) (aj (aV self fU hr) λarS=>aj (bx arS oZ hr) λabc=>bB False C abc [eV] hr λS0 kW=>Oi C i4 self kW e9 dY eV q)) (dU ov (Oh C self g4 e9 eV ov dY q) (aj (aV self fU g4) λarG=>aj (bx arG oZ g4) λaaw=>bB False C aaw [eV] g4 λSQ Fo=>Oi C ov self Fo e9 dY eV q))
def VV(C:cL)(self:L)(gt:an)(dY bC:L)(q:ez):Prop:=aj (aV self fU gt) λL5=>aj (bx L5 nX gt) λpo=>bB False C po [dY] gt λeV fv=>aj (bx self (z "free_bit") fv) λaaH=>aj (aV eV gf fv) λsx=>bB False C aaH [sx,dY,bC] fv λe9 g4=>VU C self g4 e9 dY eV q
theorem aqw(h:let C:=aw n;aj (aV self hO H) λpU=>aj (bx pU (z "bit_of") H) λuY=>bB False C uY [bC] H λm7 eg=>aF (cj m7 (.at_ (L.int 0)) eg) λdY gt=>VV C self gt dY bC q):b1 False (aw n) (eh (bw (aW (aL 23 9)) 1)) o7 [(bQ,self),(bS,bC)] H q:=bZ (by kernel_rfl) h
theorem agr{C:a1->List L->an->(L->an->Prop)->Prop}(h:l3 False (λm H q=>ge False C (fD (bw (aW (aL 23 9)) 1) 0) (λH k=>bO False C (fD (bw (aW (aL 23 9)) 1) 0) o7 m H k) o7 m H q) (λm H q=>b1 False C (eh (bw (aW (aL 23 9)) 1)) o7 m H q) f6 m H (ed C ((aW (aL 23 9)).drop 2) o7 q)):b1 False C ((aW (aL 23 9)).drop 1) o7 m H q:=EV (st:=(bw (aW (aL 23 9)) 1)) (by kernel_rfl) (by kernel_rfl) h
def jS:ds:=(dO (aL 23 10)).names
theorem Yt(h:b1 False (aw n) ((aW (aL 23 10)).drop 0) jS [(bQ,self),(gf,data),(dQ,er),(bS,bC)] H (dM k)):aw (n+1) 370 [self,data,er,bC] H k:=Bk (st:=aL 23 10) (by kernel_rfl) (by decide) (by kernel_rfl) (by kernel_rfl) (by kernel_rfl) h
theorem ao1{q:Bool->an->Prop}(h:let C:=aw n;aj (aV self hO H) λaz=>aj (aV az mG H) λaT=>aj (bW .Lt bC aT H) λeT=>q eT H):ge False (aw n) (fD (bw (aW (aL 23 10)) 0) 0) (λH k=>bO False (aw n) (fD (bw (aW (aL 23 10)) 0) 0) jS [(bQ,self),(gf,data),(dQ,er),(bS,bC)] H k) jS [(bQ,self),(gf,data),(dQ,er),(bS,bC)] H q:=bZ (by kernel_rfl) h
def Oj(C:cL)(kQ er:L)(dr:an)(bC self data kO il:L)(q:ez):Prop:=aj (bW .NotEq kQ er dr) λpo=>bo .Or po (q (.ret bC) [(bQ,self),(gf,data),(dQ,er),(bS,bC),(iY,kQ),(e4,kO),(z "bit",il)] dr) (aF (cj data (.at_ kO) dr) λkc fv=>aF (a5 .BitAnd kc il fv) λpQ g3=>aj (bW .Eq pQ (L.int 0) g3) λnx=>bo .Or nx (q (.ret bC) [(bQ,self),(gf,data),(dQ,er),(bS,bC),(iY,kQ),(e4,kO),(z "bit",il)] g3) (aF (a5 .Add bC (L.int 1) g3) λlv g5=>q .next [(bQ,self),(gf,data),(dQ,er),(bS,lv),(iY,kQ),(e4,kO),(z "bit",il)] g5))
theorem aqx(h:let C:=aw n;aj (aV self hO H) λc7=>aj (bx c7 (z "bit_of") H) λkJ=>bB False C kJ [bC] H λhd dr=>kz hd dr 3 λJv=>fP Jv λkQ DO=>fP DO λkO Jq=>fP Jq λil Rb=>Oj C kQ er dr bC self data kO il q):b1 False (aw n) (eh (bw (aW (aL 23 10)) 0)) jS [(bQ,self),(gf,data),(dQ,er),(bS,bC)] H q:=bZ (by kernel_rfl) h
theorem ao2{q:Bool->an->Prop}(h:let C:=aw n;aj (aV self hO H) λpT=>aj (aV pT mG H) λmD=>aj (bW .Lt bC mD H) λuU=>q uU H):ge False (aw n) (fD (bw (aW (aL 23 10)) 0) 0) (λH k=>bO False (aw n) (fD (bw (aW (aL 23 10)) 0) 0) jS [(bQ,self),(gf,data),(dQ,er),(bS,bC),(iY,uQ),(e4,aN),(z "bit",wQ)] H k) jS [(bQ,self),(gf,data),(dQ,er),(bS,bC),(iY,uQ),(e4,aN),(z "bit",wQ)] H q:=bZ (by kernel_rfl) h
theorem aqy(h:let C:=aw n;aj (aV self hO H) λarI=>aj (bx arI (z "bit_of") H) λny=>bB False C ny [bC] H λKO gD=>kz KO gD 3 λagn=>fP agn λvS agp=>fP agp λiG agq=>fP agq λmy asM=>Oj C vS er gD bC self data iG my q):b1 False (aw n) (eh (bw (aW (aL 23 10)) 0)) jS [(bQ,self),(gf,data),(dQ,er),(bS,bC),(iY,uQ),(e4,aN),(z "bit",wQ)] H q:=bZ (by kernel_rfl) h
theorem ags{C:a1->List L->an->(L->an->Prop)->Prop}(h:l3 False (λm H q=>ge False C (fD (bw (aW (aL 23 10)) 0) 0) (λH k=>bO False C (fD (bw (aW (aL 23 10)) 0) 0) jS m H k) jS m H q) (λm H q=>b1 False C (eh (bw (aW (aL 23 10)) 0)) jS m H q) f6 m H (ed C ((aW (aL 23 10)).drop 1) jS q)):b1 False C ((aW (aL 23 10)).drop 0) jS m H q:=EV (st:=(bw (aW (aL 23 10)) 0)) (by kernel_rfl) (by kernel_rfl) h
def VW(C:cL)(self:L)(dr:an)(gJ:L)(k:b3):Prop:=aj (aV self hl dr) λpU=>aj (bx pU mK dr) λuY=>bB False C uY [gJ] dr λm7 eg=>aj (aV self fU eg) λmC=>aj (bx mC oZ eg) λpn=>bB False C pn [gJ] eg λvD fb=>k L.none fb
theorem Yu(h:let C:=aw n;aj (aV self fU H) λaz=>aj (bx az nX H) λdy=>bB False C dy [bC] H λgJ eD=>aj (bx gJ (z "clear") eD) λkJ=>bB False C kJ [] eD λhd dr=>VW C self dr gJ k):aw (n+1) 377 [self,bC] H k:=bZ (by kernel_rfl) h
def VX(C:cL)(self:L)(fJ:an)(e9:L)(ny:Bool)(k:b3):Prop:=aj (aV self hl fJ) λarJ=>aj (bx arJ mK fJ) λHt=>bB False C Ht [e9] fJ λSS i1=>aj (aV self fU i1) λMh=>aj (bx Mh oZ i1) λaaU=>bB False C aaU [e9] i1 λSV rl=>dU (!ny) (False) (k L.none rl)
def VY(C:cL)(ny:Bool)(e9:L)(fC:an)(h2 kc self:L)(k:b3):Prop:=dU ny (aj (aV e9 gf fC) λBH=>aF (cj BH (.at_ h2) fC) λsq hr=>aF (a5 .Sub sq kc hr) λvS iI=>aj (aV e9 gf iI) λBJ=>aj (fS BJ (.at_ h2) vS iI) λfJ=>VX C self fJ e9 ny k) (aj (aV self fU fC) λarN=>aj (bx arN oZ fC) λHw=>bB False C Hw [e9] fC λSW FK=>dU (!ny) (False) (k L.none FK))
def VZ(C:cL)(self:L)(h7:an)(dY h2 kc:L)(k:b3):Prop:=aj (aV self fU h7) λv3=>aj (bx v3 nX h7) λuT=>bB False C uT [dY] h7 λe9 g4=>aj (aV e9 gf g4) λsy=>aF (cj sy (.at_ h2) g4) λkd ni=>aF (a5 .BitAnd kd kc ni) λl0 fC=>aj (bW .NotEq l0 (L.int 0) fC) λny=>VY C ny e9 fC h2 kc self k
theorem Yv(h:let C:=aw n;aj (aV self hO H) λaz=>aj (aV az v7 H) λaT=>aj (bW .LtE aT bC H) λeT=>dU eT (aj (aV self hO H) λc7=>aj (aV c7 mG H) λeG=>aj (bW .Lt bC eG H) λuX=>dU (!uX) (False) (aj (aV self hO H) λmE=>aj (bx mE (z "bit_of") H) λlh=>bB False C lh [bC] H λKV h7=>kz KV h7 3 λvt=>fP vt λdY Jr=>fP Jr λh2 agi=>fP agi λkc Rc=>VZ C self h7 dY h2 kc k)) (False)):aw (n+1) 384 [self,bC] H k:=bZ (by kernel_rfl) h
def V0(C:cL)(self:L)(cx:an)(db gx:L)(k:b3):Prop:=aj (bx self (z "take_block") cx) λpo=>bB False C po [] cx λeV fv=>aj (aV db eC fv) λv3=>aj (fS v3 (.at_ gx) eV fv) λg3=>aj (aV db eC g3) λBG=>aF (cj BG (.at_ gx) g3) λlv g5=>k lv g5
def V1(C:cL)(db:L)(H:an)(gx nG self:L)(k:b3):Prop:=aj (aV db eC H) λc7=>aF (cj c7 (.at_ gx) H) λgB cx=>aj (bW .Eq gB (L.int 0) cx) λhw=>bo .And hw (aj (aV db eC cx) λpU=>aF (cj pU (.at_ gx) cx) λkQ h7=>k kQ h7) (aj (ky nG) λnv=>bo .And nv (aj (aV db eC cx) λmC=>aF (cj mC (.at_ gx) cx) λil jg=>k il jg) (V0 C self cx db gx k))
def V2(C:cL)(self:L)(hr:an)(db aT gx nG:L)(k:b3):Prop:=aj (bx self (z "take_block") hr) λHr=>bB False C Hr [] hr λKQ iJ=>aj (aV db eC iJ) λarK=>aj (fS arK (.at_ aT) KQ iJ) λkV=>aj (bx self (z "named_block") kV) λaaR=>aj (aV db eC kV) λMh=>aF (cj Mh (.at_ aT) kV) λBs nj=>aF (a5 .Sub gx aT nj) λLF rn=>bB False C aaR [Bs,LF,nG] rn λKS o2=>k KS o2
def V3(C:cL)(db:L)(fC:an)(aT nG self gx:L)(k:b3):Prop:=aj (aV db eC fC) λBH=>aF (cj BH (.at_ aT) fC) λsq hr=>aj (bW .Eq sq (L.int 0) hr) λi4=>dU i4 (aj (ky nG) λzX=>dU (!zX) (k (L.int 0) hr) (V2 C self hr db aT gx nG k)) (aj (bx self (z "named_block") hr) λaa0=>aj (aV db eC hr) λarP=>aF (cj arP (.at_ aT) hr) λvT nk=>aF (a5 .Sub gx aT nk) λLH rp=>bB False C aa0 [vT,LH,nG] rp λSX uj=>k SX uj)
def V4(C:cL)(gx aT:L)(H:an)(db nG self:L)(k:b3):Prop:=aj (bW .Lt gx aT H) λeT=>dU eT (V1 C db H gx nG self k) (aj (aV self hO H) λpT=>aj (bx pT (z "most_blocks") H) λov=>bB False C ov [] H λvE fC=>aj (bW .GtE gx vE fC) λny=>dU ny (False) (V3 C db fC aT nG self gx k))
theorem Yw(h:let C:=aw n;aj (aV self hO H) λaz=>aj (aV az lA H) λaT=>V4 C gx aT H db nG self k):aw (n+1) 398 [self,db,gx,nG] H k:=bZ (by kernel_rfl) h
def jm:ds:=(dO (aL 23 17)).names
theorem ai6{ct:List cD}(h:aj (bW .Lt dA (L.int 0) H) λnv=>dU nv (False) (aF (cH (.builtin "len") [bR] H) λoO gt=>aF (a5 .Add dA oO gt) λh2 fb=>aj (aV self hO fb) λnV=>aj (bx nV (z "most_size") fb) λnw=>bB False C nw [] fb λtS g3=>aj (bW .Gt h2 tS g3) λnx=>dU nx (False) (b1 False C ct jm [(bQ,self),(h5,db),(gT,dA),(d2,bR),(hC,(L.int 0))] g3 K))):b1 False C (bw (aW (aL 23 17)) 0::bw (aW (aL 23 17)) 1::bw (aW (aL 23 17)) 2::ct) jm [(bQ,self),(h5,db),(gT,dA),(d2,bR)] H K:=bZ (by kernel_rfl) h
theorem Yx(h:let C:=aw n;aj (bW .Lt dA (L.int 0) H) λnv=>dU nv (False) (aF (cH (.builtin "len") [bR] H) λoO gt=>aF (a5 .Add dA oO gt) λh2 fb=>aj (aV self hO fb) λnV=>aj (bx nV (z "most_size") fb) λnw=>bB False C nw [] fb λtS g3=>aj (bW .Gt h2 tS g3) λnx=>dU nx (False) (b1 False C ((aW (aL 23 17)).drop 3) jm [(bQ,self),(h5,db),(gT,dA),(d2,bR),(hC,(L.int 0))] g3 (dM k)))):aw (n+1) 419 [self,db,dA,bR] H k:=Bk (st:=aL 23 17) (ss:=bw (aW (aL 23 17)) 0::bw (aW (aL 23 17)) 1::bw (aW (aL 23 17)) 2::((aW (aL 23 17)).drop 3)) (m:=[(bQ,self),(h5,db),(gT,dA),(d2,bR)]) (by kernel_rfl) (by decide) (by kernel_rfl) (by kernel_rfl) (by kernel_rfl) (ai6 h)
theorem TE{q:Bool->an->Prop}(h:let C:=aw n;aF (cH (.builtin "len") [bR] H) λxv g5=>aj (bW .Lt ap xv g5) λtq=>bo .And tq (q aA g5) (aj (aV self hl g5) λmD=>aj (bx mD (z "left") g5) λuU=>bB False C uU [] g5 λD6 hE=>aj (bW .GtE D6 (L.int 4) hE) λHp=>bo .And Hp (q aA hE) (q ae hE))):ge False (aw n) (fD (bw (aW (aL 23 17)) 3) 0) (λH k=>bO False (aw n) (fD (bw (aW (aL 23 17)) 3) 0) jm [(bQ,self),(h5,db),(gT,dA),(d2,bR),(hC,ap)] H k) jm [(bQ,self),(h5,db),(gT,dA),(d2,bR),(hC,ap)] H q:=bZ (by kernel_rfl) h
def Ok(C:cL)(oP:L)(mb:an)(self db dA bR ap:L)(q:ez):Prop:=aj (bW .Eq oP (L.int 0) mb) λHs=>dU Hs (q .brk [(bQ,self),(h5,db),(gT,dA),(d2,bR),(hC,ap),(mJ,oP)] mb) (aF (a5 .Add ap oP mb) λmy iw=>q .next [(bQ,self),(h5,db),(gT,dA),(d2,bR),(hC,my),(mJ,oP)] iw)
theorem aqz(h:let C:=aw n;aj (bx self (z "write_part") H) λHq=>aF (a5 .Add dA ap H) λnR i0=>bB False C Hq [db,nR,bR,ap] i0 λoP mb=>Ok C oP mb self db dA bR ap q):b1 False (aw n) (eh (bw (aW (aL 23 17)) 3)) jm [(bQ,self),(h5,db),(gT,dA),(d2,bR),(hC,ap)] H q:=bZ (by kernel_rfl) h
theorem TF{q:Bool->an->Prop}(h:let C:=aw n;aF (cH (.builtin "len") [bR] H) λSS i1=>aj (bW .Lt ap SS i1) λHu=>bo .And Hu (q aA i1) (aj (aV self hl i1) λarM=>aj (bx arM (z "left") i1) λaaV=>bB False C aaV [] i1 λKR rn=>aj (bW .GtE KR (L.int 4) rn) λHw=>bo .And Hw (q aA rn) (q ae rn))):ge False (aw n) (fD (bw (aW (aL 23 17)) 3) 0) (λH k=>bO False (aw n) (fD (bw (aW (aL 23 17)) 3) 0) jm [(bQ,self),(h5,db),(gT,dA),(d2,bR),(hC,ap),(mJ,part)] H k) jm [(bQ,self),(h5,db),(gT,dA),(d2,bR),(hC,ap),(mJ,part)] H q:=bZ (by kernel_rfl) h
theorem aqA(h:let C:=aw n;aj (bx self (z "write_part") H) λHx=>aF (a5 .Add dA ap H) λBt ui=>bB False C Hx [db,Bt,bR,ap] ui λanx nk=>Ok C anx nk self db dA bR ap q):b1 False (aw n) (eh (bw (aW (aL 23 17)) 3)) jm [(bQ,self),(h5,db),(gT,dA),(d2,bR),(hC,ap),(mJ,part)] H q:=bZ (by kernel_rfl) h
theorem agu{C:a1->List L->an->(L->an->Prop)->Prop}(h:l3 False (λm H q=>ge False C (fD (bw (aW (aL 23 17)) 3) 0) (λH k=>bO False C (fD (bw (aW (aL 23 17)) 3) 0) jm m H k) jm m H q) (λm H q=>b1 False C (eh (bw (aW (aL 23 17)) 3)) jm m H q) f6 m H (ed C ((aW (aL 23 17)).drop 4) jm q)):b1 False C ((aW (aL 23 17)).drop 3) jm m H q:=EV (st:=(bw (aW (aL 23 17)) 3)) (by kernel_rfl) (by kernel_rfl) h
def Ol(C:cL)(ap:L)(H:an)(self db dA:L)(k:b3):Prop:=aj (bW .Gt ap (L.int 0) H) λuV=>bo .And uV (aj (bx self q8 H) λzZ=>bB False C zZ [db] H λSZ ul=>k ap ul) (aF (a5 .Add dA ap H) λLJ o3=>aj (aV db dH o3) λMk=>aj (bW .Gt LJ Mk o3) λz0=>bo .And z0 (aj (bx self q8 o3) λHA=>bB False C HA [db] o3 λanz FL=>k ap FL) (aF (a5 .Add dA ap o3) λLK FN=>aj (ft db dH LK FN) λkW=>aj (bx self q8 kW) λz1=>bB False C z1 [db] kW λS1 y4=>k ap y4))
theorem WU(h:let C:=aw n;Ol C ap H self db dA k):(let C:=aw n;ed C ((aW (aL 23 17)).drop 4) jm (dM k) .next [(bQ,self),(h5,db),(gT,dA),(d2,bR),(hC,ap)] H):=bZ (by kernel_rfl) h
theorem WV(h:let C:=aw n;Ol C ap H self db dA k):(let C:=aw n;ed C ((aW (aL 23 17)).drop 4) jm (dM k) .next [(bQ,self),(h5,db),(gT,dA),(d2,bR),(hC,ap),(mJ,part)] H):=bZ (by kernel_rfl) h
def V5(C:cL)(self:L)(kV:an)(sb e9:L)(k:b3):Prop:=aj (aV self hl kV) λarL=>aj (bx arL mK kV) λHu=>bB False C Hu [sb] kV λSU nj=>aj (aV self fU nj) λMi=>aj (bx Mi oZ nj) λHv=>bB False C Hv [sb] nj λKS o2=>k e9 o2
def V6(C:cL)(ap e9:L)(mN:an)(bR sb fT self:L)(k:b3):Prop:=aF (a5 .Add ap e9 mN) λmx hE=>jJ (eA ap) (eA mx) λapx Ln=>aF (cj bR (.sl apx Ln) hE) λnR i0=>aj (aV sb gf i0) λv4=>aF (a5 .Add fT e9 i0) λiG fJ=>jJ (eA fT) (eA iG) λapz Lo=>aj (fS v4 (.sl apz Lo) nR fJ) λkV=>V5 C self kV sb e9 k
def V7(C:cL)(self:L)(eg:an)(fT bR ap hd:L)(k:b3):Prop:=aj (aV self hO eg) λmC=>aj (aV mC iY eg) λBF=>aF (a5 .Sub BF fT eg) λh2 fb=>aF (cH (.builtin "len") [bR] fb) λeV fv=>aF (a5 .Sub eV ap fv) λpQ g3=>aF (cH (.builtin "min") [h2,pQ] g3) λe9 g4=>aj (aV self fU g4) λsy=>aj (bx sy nX g4) λtq=>bB False C tq [hd] g4 λsb mN=>V6 C ap e9 mN bR sb fT self k
theorem Yy(h:let C:=aw n;aj (bx self (z "block_of") H) λdv=>aj (aV self hO H) λaT=>aj (aV aT iY H) λca=>aF (a5 .FloorDiv dA ca H) λnT eP=>bB False C dv [db,nT,(L.bool ae)] eP λhd dr=>aj (aV self hO dr) λpU=>aj (aV pU iY dr) λlx=>aF (a5 .Mod dA lx dr) λfT eg=>V7 C self eg fT bR ap hd k):aw (n+1) 426 [self,db,dA,bR,ap] H k:=bZ (by kernel_rfl) h
def o8:ds:=(dO (aL 23 19)).names
def E9:aU:=nO (bw (aW (aL 23 19)) 1)
def Ut:aU:=nO (DM (bw (aW (aL 23 19)) 3) 0)
theorem Yz(h:let C:=aw n;aj (aV self hO H) λaz=>aj (aV az lA H) λaT=>aj (lV [aT]) λr7=>gR False o8 E9 (λm H q=>b1 False C (eh (bw (aW (aL 23 19)) 1)) o8 m H q) (.items r7) f6 0 [(bQ,self),(h5,db),(lA,aT)] H (ed C ((aW (aL 23 19)).drop 2) o8 (dM k))):aw (n+1) 433 [self,db] H k:=bZ (by kernel_rfl) h
def V8(C:cL)(self:L)(cx:an)(db gx nA:L)(q:ez):Prop:=aj (bx self (z "give_block") cx) λlh=>aj (aV db eC cx) λlx=>aF (cj lx (.at_ gx) cx) λfT eg=>bB False C lh [fT] eg λoO gt=>q .next [(bQ,self),(h5,db),(lA,nA),(mI,gx)] gt
theorem TW(h:let C:=aw n;aj (aV db eC H) λc7=>aF (cj c7 (.at_ gx) H) λgB cx=>aj (bW .NotEq gB (L.int 0) cx) λhw=>dU hw (V8 C self cx db gx nA q) (q .next [(bQ,self),(h5,db),(lA,nA),(mI,gx)] cx)):b1 False (aw n) (eh (bw (aW (aL 23 19)) 1)) o8 [(bQ,self),(h5,db),(lA,nA),(mI,gx)] H q:=bZ (by kernel_rfl) h
def V9(C:cL)(kg:an)(nA db self:L)(k:b3):Prop:=eq kg (.list [(L.int 0)]) λiX hP=>aF (a5 .Add nA (L.int 1) hP) λkP mN=>aF (a5 .Mult iX kP mN) λmx hE=>aj (ft db eC mx hE) λjh=>aj (ft db dH (L.int 0) jh) λgD=>aj (bx self q8 gD) λrS=>bB False C rS [db] gD λsd iI=>k L.none iI
def Wa(C:cL)(self:L)(iJ:an)(Bq db nA gx:L)(k:b3):Prop:=aj (bx self (z "names_in") iJ) λzY=>bB False C zY [Bq] iJ λBh kC=>lp Bh kC λafD=>gR False o8 Ut (λm H q=>b1 False C (eh (bw (vm (bw (aW (aL 23 19)) 3)) 0)) o8 m H q) (.lst afD) f6 0 [(bQ,self),(h5,db),(lA,nA),(mI,gx),(z "names",Bq)] kC (ed C ((vm (bw (aW (aL 23 19)) 3)).drop 1) o8 (ed C ((aW (aL 23 19)).drop 4) o8 (dM k)))
theorem WW(h:let C:=aw n;aj (aV db eC H) λBJ=>aF (cj BJ (.at_ nA) H) λBq iJ=>aj (bW .NotEq Bq (L.int 0) iJ) λHt=>dU Ht (Wa C self iJ Bq db nA gx k) (V9 C iJ nA db self k)):(let C:=aw n;ed C ((aW (aL 23 19)).drop 2) o8 (dM k) .next [(bQ,self),(h5,db),(lA,nA),(mI,gx)] H):=bZ (by kernel_rfl) h
theorem YA(h:let C:=aw n;aj (ft self bS bC H) λbI=>aF (cH (.type "bytearray") [bR] bI) λdG cg=>aj (ft self gf dG cg) λeD=>aj (ft self iZ (L.int 0) eD) λeP=>aj (ft self nc (L.int 0) eP) λcx=>k L.none cx):aw (n+1) 459 [self,bC,bR] H k:=bZ (by kernel_rfl) h
theorem YB(h:let C:=aw n;aj (aV self iZ H) λaz=>aj (bW .Eq az (L.int 0) H) λdy=>dU dy (aj (aV self nc H) λca=>aj (bW .Eq ca (L.int 0) H) λhX=>k (L.bool hX) H) (k (L.bool dy) H)):aw (n+1) 466 [self] H k:=bZ (by kernel_rfl) h
theorem YC(h:let C:=aw n;aj (aV self gf H) λaz=>aF (cH (.type "bytes") [az] H) λdG cg=>k dG cg):aw (n+1) 473 [self] H k:=bZ (by kernel_rfl) h
theorem YD(h:let C:=aw n;aF (cH (.builtin "len") [bR] H) λb9 cM=>aj (aV self gf cM) λca=>aF (cH (.builtin "len") [ca] cM) λnL eP=>aj (bW .NotEq b9 nL eP) λuX=>dU uX (False) (aj (aV self gf eP) λmE=>jJ (eA L.none) (eA L.none) λdh apK=>aj (fS mE (.sl dh apK) bR eP) λh7=>k L.none h7)):aw (n+1) 501 [self,bR] H k:=bZ (by kernel_rfl) h
theorem YE(h:let C:=aw n;aj (aV self gf H) λaz=>aF (cH (.builtin "len") [az] H) λdG cg=>aF (cH (.type "bytes") [dG] cg) λnL eP=>aj (aV self gf eP) λh4=>jJ (eA L.none) (eA L.none) λLq dh=>aj (fS h4 (.sl Lq dh) nL eP) λdN=>k L.none dN):aw (n+1) 508 [self] H k:=bZ (by kernel_rfl) h
theorem YF(h:let C:=aw n;aF (cH (.builtin "isinstance") [bC,(L.st (.type "int"))] H) λb9 cM=>aj (ky b9) λeT=>bo .Or (!eT) (False) (aj (bW .LtE (L.int 0) bC cM) λhX=>dU hX (aj (aV self dP cM) λeG=>aj (aV eG mG cM) λh4=>aj (bW .Lt bC h4 cM) λhw=>bo .Or (!hw) (False) (k L.none cM)) (False))):aw (n+1) 564 [self,bC] H k:=bZ (by kernel_rfl) h
theorem YG(h:let C:=aw n;aj (aV self sC H) λaz=>aj (bx az nX H) λdy=>aj (aV e8 bS H) λca=>bB False C dy [ca] H λnL eP=>aj (bW .IsNot nL e8 eP) λuX=>bo .Or uX (False) (aj (aV e8 iZ eP) λmE=>aj (bW .Eq mE (L.int 0) eP) λlh=>bo .Or lh (False) (k L.none eP))):aw (n+1) 571 [self,e8] H k:=bZ (by kernel_rfl) h
def Wb(C:cL)(self:L)(hP:an)(eV:L)(k:b3):Prop:=aj (aV self jc hP) λmD=>aj (bx mD l4 hP) λuU=>bB False C uU [eV] hP λD6 hE=>aj (aV eV iZ hE) λOD=>kp OD (L.int 1) (a5 .Add OD (L.int 1) hE) λsq hr=>aj (ft eV iZ sq hr) λi0=>k eV i0
def Wc(C:cL)(self:L)(fv:an)(bC eV:L)(k:b3):Prop:=aj (aV self (z "reads") fv) λOB=>kp OB (L.int 1) (a5 .Add OB (L.int 1) fv) λvQ lD=>aj (ft self (z "reads") vQ lD) λg4=>aj (aV self sC g4) λsy=>aj (fS sy (.at_ bC) eV g4) λhP=>Wb C self hP eV k
def Wd(C:cL)(self:L)(dr:an)(bC:L)(k:b3):Prop:=aj (bx self (z "make_room") dr) λuY=>bB False C uY [] dr λm7 eg=>aj (aV self dP eg) λmC=>aj (bx mC (z "read") eg) λpn=>bB False C pn [bC] eg λvD fb=>bB False C (.cls 539 459) [bC,vD] fb λeV fv=>Wc C self fv bC eV k
def We(C:cL)(self:L)(dr:an)(hd:L)(k:b3):Prop:=aj (aV self (z "hits") dr) λzO=>kp zO (L.int 1) (a5 .Add zO (L.int 1) dr) λiG fJ=>aj (ft self (z "hits") iG fJ) λiJ=>aj (aV hd iZ iJ) λOE=>kp OE (L.int 1) (a5 .Add OE (L.int 1) iJ) λnS i1=>aj (ft hd iZ nS i1) λkC=>k hd kC
theorem YH(h:let C:=aw n;aj (bx self (z "need_block") H) λdv=>bB False C dv [bC] H λdG cg=>aj (aV self sC cg) λc7=>aj (bx c7 nX cg) λkJ=>bB False C kJ [bC] cg λhd dr=>aj (bW .Is hd L.none dr) λlh=>dU lh (Wd C self dr bC k) (We C self dr hd k)):aw (n+1) 578 [self,bC] H k:=bZ (by kernel_rfl) h
def ru:ds:=(dO (aL 26 4)).names
def BN:aU:=nO (bw (aW (aL 26 4)) 1)
theorem YI(h:let C:=aw n;aj (aV self jc H) λaz=>aF (cH (.builtin "len") [az] H) λdG cg=>aj (aV self nY cg) λc7=>aj (bW .Lt dG c7 cg) λkJ=>dU kJ (k L.none cg) (aj (aV self jc cg) λh4=>lp h4 cg λI9=>gR False ru BN (λm H q=>b1 False C (eh (bw (aW (aL 26 4)) 1)) ru m H q) (.enum I9) f6 0 [(bQ,self)] cg (ed C ((aW (aL 26 4)).drop 2) ru (dM k)))):aw (n+1) 585 [self] H k:=bZ (by kernel_rfl) h
def Wf(C:cL)(self:L)(h7:an)(e8 er:L)(q:ez):Prop:=aj (aV self sC h7) λmC=>aj (aV e8 bS h7) λBF=>aj (pt mC BF h7) λjg=>aj (aV self jc jg) λL6=>aj (pt L6 er jg) λkg=>q (.ret L.none) [(bQ,self),(dQ,er),(oY,e8)] kg
theorem aqB(h:let C:=aw n;aj (bx e8 (z "is_free") H) λlh=>bB False C lh [] H λKV h7=>aj (ky KV) λnv=>dU nv (Wf C self h7 e8 er q) (q .next [(bQ,self),(dQ,er),(oY,e8)] h7)):b1 False (aw n) (eh (bw (aW (aL 26 4)) 1)) ru [(bQ,self),(dQ,er),(oY,e8)] H q:=bZ (by kernel_rfl) h
def Wg(C:cL)(self:L)(dr:an)(e8:L)(k:b3):Prop:=aj (aV self jc dr) λsw=>aj (bx sw (z "remove") dr) λnv=>bB False C nv [e8] dr λoO gt=>aj (aV self jc gt) λL5=>aj (bx L5 l4 gt) λpo=>bB False C po [e8] gt λeV fv=>k L.none fv
def Wh(C:cL)(e8:L)(cg:an)(self:L)(k:b3):Prop:=aj (aV e8 iZ cg) λlf=>kp lf (L.int 1) (a5 .Sub lf (L.int 1) cg) λgB cx=>aj (ft e8 iZ gB cx) λdr=>aj (aV e8 iZ dr) λpU=>aj (bW .Eq pU (L.int 0) dr) λuY=>dU uY (Wg C self dr e8 k) (k L.none dr)
theorem YJ(h:let C:=aw n;aj (bx self (z "need_held") H) λdv=>bB False C dv [e8] H λdG cg=>Wh C e8 cg self k):aw (n+1) 592 [self,e8] H k:=bZ (by kernel_rfl) h
theorem YK(h:let C:=aw n;aj (bx self (z "need_held") H) λdv=>bB False C dv [e8] H λdG cg=>aj (aV e8 nc cg) λlf=>kp lf (L.int 1) (a5 .Add lf (L.int 1) cg) λgB cx=>aj (ft e8 nc gB cx) λdr=>k L.none dr):aw (n+1) 599 [self,e8] H k:=bZ (by kernel_rfl) h
def Wi(C:cL)(gJ:L)(eD:an)(k:b3):Prop:=aj (bW .Is gJ L.none eD) λkJ=>bo .Or kJ (False) (aj (aV gJ nc eD) λh4=>aj (bW .Eq h4 (L.int 0) eD) λhw=>bo .Or hw (False) (aj (aV gJ nc eD) λrN=>kp rN (L.int 1) (a5 .Sub rN (L.int 1) eD) λkQ h7=>aj (ft gJ nc kQ h7) λeg=>k L.none eg))
theorem YL(h:let C:=aw n;aj (aV self sC H) λaz=>aj (bx az nX H) λdy=>bB False C dy [bC] H λgJ eD=>Wi C gJ eD k):aw (n+1) 606 [self,bC] H k:=bZ (by kernel_rfl) h
def Wj(C:cL)(self:L)(cg:an)(e8:L)(k:b3):Prop:=aj (aV self dP cg) λc7=>aj (bx c7 mK cg) λkJ=>aj (aV e8 bS cg) λh4=>aj (bx e8 d2 cg) λhw=>bB False C hw [] cg λnM dN=>bB False C kJ [h4,nM] dN λm7 eg=>aj (aV self eX eg) λOy=>kp Oy (L.int 1) (a5 .Add Oy (L.int 1) eg) λil jg=>aj (ft self eX il jg) λfb=>k L.none fb
theorem YM(h:let C:=aw n;aj (bx self (z "need_held") H) λdv=>bB False C dv [e8] H λdG cg=>Wj C self cg e8 k):aw (n+1) 613 [self,e8] H k:=bZ (by kernel_rfl) h
theorem YN(h:let C:=aw n;aj (aV self dP H) λaz=>aj (bx az q6 H) λdy=>bB False C dy [] H λgJ eD=>k L.none eD):aw (n+1) 620 [self] H k:=bZ (by kernel_rfl) h
theorem YO(h:let C:=aw n;aj (bx self nX H) λdv=>bB False C dv [bC] H λdG cg=>aj (bx dG d2 cg) λhX=>bB False C hX [] cg λqS cx=>aj (bx self oZ cx) λhw=>bB False C hw [dG] cx λnM dN=>k qS dN):aw (n+1) 627 [self,bC] H k:=bZ (by kernel_rfl) h
def Wk(C:cL)(dG:L)(cg:an)(bR self:L)(k:b3):Prop:=aj (bx dG (z "fill") cg) λhX=>bB False C hX [bR] cg λqS cx=>aj (bx self mK cx) λhw=>bB False C hw [dG] cx λnM dN=>aj (bx self oZ dN) λpm=>bB False C pm [dG] dN λani o0=>k L.none o0
theorem YP(h:let C:=aw n;aj (bx self nX H) λdv=>bB False C dv [bC] H λdG cg=>Wk C dG cg bR self k):aw (n+1) 634 [self,bC,bR] H k:=bZ (by kernel_rfl) h
theorem YQ(h:let C:=aw n;aj (aV self (z "is_dead") H) λaz=>aj (ky az) λdy=>dU dy (False) (k L.none H)):aw (n+1) 683 [self] H k:=bZ (by kernel_rfl) h
theorem YR(h:let C:=aw n;aF (cH (.builtin "isinstance") [bC,(L.st (.type "int"))] H) λb9 cM=>aj (ky b9) λeT=>bo .Or (!eT) (False) (aj (bW .LtE (L.int 0) bC cM) λhX=>dU hX (aj (aV self mG cM) λeG=>aj (bW .Lt bC eG cM) λuX=>bo .Or (!uX) (False) (k L.none cM)) (False))):aw (n+1) 690 [self,bC] H k:=bZ (by kernel_rfl) h
def Wl(C:cL)(self:L)(cg:an)(bC:L)(k:b3):Prop:=aj (bx self (z "need_block") cg) λhX=>bB False C hX [bC] cg λqS cx=>aj (aV self (z "latest") cx) λmE=>aj (bx mE nX cx) λlh=>aj (aV self dH cx) λlx=>aF (cH (.type "bytes") [lx] cx) λm7 eg=>bB False C lh [bC,m7] eg λoO gt=>k oO gt
theorem YS(h:let C:=aw n;aj (bx self (z "need_power") H) λdv=>bB False C dv [] H λdG cg=>Wl C self cg bC k):aw (n+1) 697 [self,bC] H k:=bZ (by kernel_rfl) h
def GJ(C:cL)(bR:L)(kg:an)(self bC:L)(k:b3):Prop:=aF (cH (.type "bytes") [bR] kg) λKB lC=>aj (aV self (z "latest") lC) λsx=>aj (fS sx (.at_ bC) KB lC) λlD=>aj (aV self pX lD) λMc=>aj (bx Mc l4 lD) λaaJ=>aF (cH (.type "bytes") [bR] lD) λans ni=>eq ni (.tup [bC,ans]) λl0 fC=>bB False C aaJ [l0] fC λKM jh=>k L.none jh
def Wn(C:cL)(self:L)(gi:an)(bR bC:L)(k:b3):Prop:=aj (bx self (z "fail") gi) λaa2=>bB False C aa2 [] gi λasY sG=>aj (aV self eX sG) λOF=>kp OF (L.int 1) (a5 .Add OF (L.int 1) sG) λLI uj=>aj (ft self eX LI uj) λy1=>GJ C bR y1 self bC k
def Wo(C:cL)(self:L)(gi:an)(bR bC:L)(k:b3):Prop:=aj (aV self (z "last") gi) λv2=>aj (bW .IsNot v2 L.none gi) λrR=>bo .And rR (aj (aV self eX gi) λOz=>kp Oz (L.int 1) (a5 .Add Oz (L.int 1) gi) λh2 fb=>aj (ft self eX h2 fb) λkg=>GJ C bR kg self bC k) (aj (aV self eX gi) λMg=>aj (aV self (z "last") gi) λBI=>aj (bW .GtE Mg BI gi) λi4=>bo .And i4 (aj (aV self eX gi) λzO=>kp zO (L.int 1) (a5 .Add zO (L.int 1) gi) λiG fJ=>aj (ft self eX iG fJ) λiJ=>GJ C bR iJ self bC k) (Wn C self gi bR bC k))
def Wp(C:cL)(self:L)(cg:an)(bC bR:L)(k:b3):Prop:=aj (bx self (z "need_block") cg) λhX=>bB False C hX [bC] cg λqS cx=>aF (cH (.builtin "len") [bR] cx) λS2 gi=>aj (aV self dH gi) λlx=>aj (bW .NotEq S2 lx gi) λpm=>dU pm (False) (Wo C self gi bR bC k)
theorem YT(h:let C:=aw n;aj (bx self (z "need_power") H) λdv=>bB False C dv [] H λdG cg=>Wp C self cg bC bR k):aw (n+1) 704 [self,bC,bR] H k:=bZ (by kernel_rfl) h
def sQ:ds:=(dO (aL 28 6)).names
def Fa:aU:=nO (bw (aW (aL 28 6)) 3)
def GK(C:cL)(self:L)(dN:an)(k:b3):Prop:=aj (aV self pX dN) λsw=>lp sw dN λafy=>gR False sQ Fa (λm H q=>b1 False C (eh (bw (aW (aL 28 6)) 3)) sQ m H q) (.lst afy) f6 0 [(bQ,self)] dN (ed C ((aW (aL 28 6)).drop 4) sQ (dM k))
def Wq(C:cL)(self:L)(cg:an)(k:b3):Prop:=aj (bx self (z "fail") cg) λzW=>bB False C zW [] cg λKI hP=>aj (aV self pW hP) λOC=>kp OC (L.int 1) (a5 .Add OC (L.int 1) hP) λl0 fC=>aj (ft self pW l0 fC) λhE=>GK C self hE k
def Wr(C:cL)(self:L)(cg:an)(k:b3):Prop:=aj (aV self yP cg) λc7=>aj (bW .IsNot c7 L.none cg) λkJ=>bo .And kJ (aj (aV self pW cg) λtf=>kp tf (L.int 1) (a5 .Add tf (L.int 1) cg) λnU gi=>aj (ft self pW nU gi) λdN=>GK C self dN k) (aj (aV self pW cg) λmC=>aj (aV self yP cg) λBF=>aj (bW .GtE mC BF cg) λG8=>bo .And G8 (aj (aV self pW cg) λOA=>kp OA (L.int 1) (a5 .Add OA (L.int 1) cg) λkc fv=>aj (ft self pW kc fv) λlC=>GK C self lC k) (Wq C self cg k))
theorem YU(h:let C:=aw n;aj (bx self (z "need_power") H) λdv=>bB False C dv [] H λdG cg=>Wr C self cg k):aw (n+1) 718 [self] H k:=bZ (by kernel_rfl) h
theorem aqC(h:let C:=aw n;aj (aV self (z "kept") H) λBI=>aj (fS BI (.at_ bC) bR H) λi0=>q .next [(bQ,self),(bS,bC),(d2,bR)] i0):b1 False (aw n) (eh (bw (aW (aL 28 6)) 3)) sQ [(bQ,self),(bS,bC),(d2,bR)] H q:=bZ (by kernel_rfl) h
theorem WX(h:let C:=aw n;eq H (.list []) λLC mb=>aj (ft self pX LC mb) λfJ=>k L.none fJ):(let C:=aw n;ed C ((aW (aL 28 6)).drop 4) sQ (dM k) .next [(bQ,self)] H):=bZ (by kernel_rfl) h
theorem WY(h:let C:=aw n;eq H (.list []) λmy iw=>aj (ft self pX my iw) λkV=>k L.none kV):(let C:=aw n;ed C ((aW (aL 28 6)).drop 4) sQ (dM k) .next [(bQ,self),(bS,bC),(d2,bR)] H):=bZ (by kernel_rfl) h
def p9:ds:=(dO (bf 33)).names
def BO:aU:=nO (bw (aW (bf 33)) 2)
def sF:aU:=(j8 (j8 (fD (DM (bw (aW (bf 33)) 2) 0) 0) 1) 1)
def BP:aU:=vO sF
def p3:ds:=gF (dO (bf 33)).names (vG sF).names
def Ws(C:cL)(ik:L)(dN:an)(jP nM:L)(k:b3):Prop:=aF (cH (.builtin "len") [ik] dN) λm7 eg=>eq eg (.list [m7]) λdY gt=>aF (cH (.type "list") [ik] gt) λvD fb=>aF (a5 .Add dY vD fb) λkc fv=>lp kc fv λI8=>gR False p9 BO (λm H q=>b1 False C (eh (bw (aW (bf 33)) 2)) p9 m H q) (.lst I8) f6 0 [(e5,ik),(dH,jP),(na,nM)] fv (ed C ((aW (bf 33)).drop 3) p9 (dM k))
theorem YV(h:let C:=aw n;aF (cH (.builtin "len") [ik] H) λb9 cM=>aF (a5 .Add b9 (L.int 1) cM) λl1 eD=>aF (a5 .Mult (L.int 4) l1 eD) λgB cx=>aj (bW .Gt gB jP cx) λhw=>dU hw (False) (aF (cH (.type "bytearray") [] cx) λnM dN=>Ws C ik dN jP nM k)):aw (n+1) 763 [ik,jP] H k:=bZ (by kernel_rfl) h
theorem aqD(h:let C:=aw n;aj (bx qy (z "extend") H) λuT=>aj (lV [(L.int 4)]) λJs=>jX False p3 BP (λm H q=>jb False C (m0 sF) p3 m H q) (λm H q=>bO False C (j8 sF 0) p3 m H q) (.items Js) f6 0 [(hm,kR)] H [] λAR g5=>eq g5 (.list AR) λkd ni=>aF (cH (.type "bytes") [kd] ni) λvE fC=>bB False C uT [vE] fC λKM jh=>q .next [(e5,ik),(dH,jP),(na,qy),(hm,kR)] jh):b1 False (aw n) (eh (bw (aW (bf 33)) 2)) p9 [(e5,ik),(dH,jP),(na,qy),(hm,kR)] H q:=bZ (by kernel_rfl) h
def Om(C:cL)(qy:L)(H:an)(jP:L)(k:b3):Prop:=aF (cH (.type "bytes") [qy] H) λKP hr=>aF (cH (.builtin "len") [qy] hr) λsd iI=>aF (a5 .Sub jP sd iI) λiG fJ=>aF (cH (.type "bytes") [iG] fJ) λBg iw=>aF (a5 .Add KP Bg iw) λnS i1=>k nS i1
theorem WZ(h:let C:=aw n;Om C qy H jP k):(let C:=aw n;ed C ((aW (bf 33)).drop 3) p9 (dM k) .next [(e5,ik),(dH,jP),(na,qy)] H):=bZ (by kernel_rfl) h
theorem W0(h:let C:=aw n;Om C qy H jP k):(let C:=aw n;ed C ((aW (bf 33)).drop 3) p9 (dM k) .next [(e5,ik),(dH,jP),(na,qy),(hm,kR)] H):=bZ (by kernel_rfl) h
theorem acK{q:b3}(h:let C:=aw n;aF (a5 .Mult (L.int 8) aN H) λBu sG=>aF (a5 .RShift kR Bu sG) λmA wh=>aF (a5 .BitAnd mA (L.int 255) wh) λoW y1=>q oW y1):bO False (aw n) (j8 sF 0) p3 [(hm,kR),(e4,aN)] H q:=bZ (by kernel_rfl) h
theorem ado{q:Bool->an->Prop}(h:let C:=aw n;q ae H):jb False (aw n) (m0 sF) p3 [(hm,kR),(e4,aN)] H q:=bZ (by kernel_rfl) h
theorem YW(h:let C:=aw n;aj (aV self q7 H) λaz=>aj (bW .LtE az bC H) λdy=>dU dy (aj (aV self q7 H) λca=>aj (aV self dH H) λc7=>aF (a5 .Add ca c7 H) λgB cx=>aj (bW .Lt bC gB cx) λhw=>k (L.bool hw) cx) (k (L.bool aA) H)):aw (n+1) 785 [self,bC] H k:=bZ (by kernel_rfl) h
theorem YX(h:let C:=aw n;aj (aV self e5 H) λaz=>aF (cH (.builtin "len") [az] H) λdG cg=>aj (aV self mH cg) λc7=>aF (a5 .Add c7 (L.int 1) cg) λgB cx=>aj (aV self (z "each") cx) λmE=>aF (a5 .Mult gB mE cx) λi9 dN=>aF (a5 .Add dG i9 dN) λfT eg=>aj (aV self nY eg) λmC=>aj (bW .LtE fT mC eg) λpn=>k (L.bool pn) eg):aw (n+1) 792 [self] H k:=bZ (by kernel_rfl) h
theorem YY(h:let C:=aw n;aj (aV self nY H) λaz=>aj (aV self e5 H) λaT=>aF (cH (.builtin "len") [aT] H) λgJ eD=>aF (a5 .Sub az gJ eD) λgB cx=>k gB cx):aw (n+1) 799 [self] H k:=bZ (by kernel_rfl) h
theorem YZ(h:let C:=aw n;aj (bx self yO H) λdv=>bB False C dv [] H λdG cg=>aj (ky dG) λhX=>dU (!hX) (False) (aj (aV self mH cg) λqr=>kp qr (L.int 1) (a5 .Add qr (L.int 1) cg) λlw dr=>aj (ft self mH lw dr) λgi=>k L.none gi)):aw (n+1) 806 [self] H k:=bZ (by kernel_rfl) h
def Wt(C:cL)(self:L)(hP:an)(e8:L)(k:b3):Prop:=aj (aV self e5 hP) λmD=>aF (cH (.builtin "len") [mD] hP) λvE fC=>aj (aV self t0 fC) λMf=>aj (aV e8 bS fC) λBH=>aj (fS Mf (.at_ BH) vE fC) λgD=>aj (aV self e5 gD) λBI=>aj (bx BI l4 gD) λi4=>aj (aV e8 bS gD) λv4=>bB False C i4 [v4] gD λD7 fJ=>k L.none fJ
def Wu(C:cL)(self:L)(cx:an)(e8:L)(k:b3):Prop:=aj (aV self e5 cx) λL6=>aF (cH (.builtin "len") [L6] cx) λeV fv=>aj (aV self nY fv) λv3=>aj (bW .GtE eV v3 fv) λuT=>dU uT (False) (aj (aV self fU fv) λBG=>aj (bx BG (z "pin") fv) λzW=>bB False C zW [e8] fv λKI hP=>Wt C self hP e8 k)
def Wv(C:cL)(e8:L)(cx:an)(self:L)(k:b3):Prop:=aj (aV e8 bS cx) λpU=>aj (aV self t0 cx) λlx=>aj (bW .In pU lx cx) λpm=>dU pm (aj (aV self fU cx) λv2=>aj (bx v2 (z "need_held") cx) λrR=>bB False C rR [e8] cx λxu jg=>k L.none jg) (Wu C self cx e8 k)
theorem Y0(h:let C:=aw n;aj (aV self mH H) λaz=>aj (bW .Eq az (L.int 0) H) λdy=>dU dy (False) (aj (bx self (z "is_own") H) λeT=>aj (aV e8 bS H) λc7=>bB False C eT [c7] H λqS cx=>aj (ky qS) λhw=>dU hw (False) (Wv C e8 cx self k))):aw (n+1) 813 [self,e8] H k:=bZ (by kernel_rfl) h
def Ww(C:cL)(self:L)(cx:an)(k:b3):Prop:=aj (aV self mH cx) λmE=>aj (bW .Eq mE (L.int 0) cx) λlh=>bo .And lh (k L.none cx) (aj (aV self e5 cx) λlx=>eq cx (.list []) λfT eg=>aj (bW .NotEq lx fT eg) λrR=>bo .And rR (k L.none eg) (aj (bx self (z "commit") eg) λpn=>bB False C pn [] eg λvD fb=>k L.none fb))
theorem OX(h:let C:=aw n;aj (aV self mH H) λaz=>aj (bW .Eq az (L.int 0) H) λdy=>dU dy (False) (aj (aV self mH H) λkn=>kp kn (L.int 1) (a5 .Sub kn (L.int 1) H) λnT eP=>aj (ft self mH nT eP) λcx=>Ww C self cx k)):aw (n+1) 820 [self] H k:=bZ (by kernel_rfl) h
def qa:ds:=(dO (aL 34 7)).names
def BQ:aU:=nO (bw (aW (aL 34 7)) 4)
def Wx(C:cL)(self:L)(kg:an)(k:b3):Prop:=aj (aV self e5 kg) λarH=>lp arH kg λI8=>gR False qa BQ (λm H q=>b1 False C (eh (bw (aW (aL 34 7)) 4)) qa m H q) (.lst I8) f6 0 [(bQ,self)] kg (ed C ((aW (aL 34 7)).drop 5) qa (dM k))
def Wy(C:cL)(self:L)(dr:an)(k:b3):Prop:=aj (bx self (z "install") dr) λlh=>aj (aV self e5 dr) λlx=>bB False C lh [lx,(L.bool aA)] dr λm7 eg=>aj (bx self (z "write_head") eg) λrR=>eq eg (.list []) λil jg=>bB False C rR [il] jg λSR kg=>Wx C self kg k
theorem Y1(h:let C:=aw n;aj (bx self (z "fill_log") H) λdv=>bB False C dv [] H λdG cg=>aj (bx self (z "write_head") cg) λhX=>aj (aV self e5 cg) λeG=>bB False C hX [eG] cg λhd dr=>Wy C self dr k):aw (n+1) 827 [self] H k:=bZ (by kernel_rfl) h
theorem aqE(h:let C:=aw n;aj (aV self fU H) λsx=>aj (bx sx (z "unpin") H) λnx=>bB False C nx [bC] H λxv g5=>q .next [(bQ,self),(bS,bC)] g5):b1 False (aw n) (eh (bw (aW (aL 34 7)) 4)) qa [(bQ,self),(bS,bC)] H q:=bZ (by kernel_rfl) h
def On(C:cL)(mN:an)(self:L)(k:b3):Prop:=eq mN (.dict []) λmx hE=>aj (ft self t0 mx hE) λjh=>aj (aV self sD jh) λzN=>kp zN (L.int 1) (a5 .Add zN (L.int 1) jh) λnR i0=>aj (ft self sD nR i0) λiI=>k L.none iI
theorem W1(h:let C:=aw n;eq H (.list []) λkd ni=>aj (ft self e5 kd ni) λmN=>On C mN self k):(let C:=aw n;ed C ((aW (aL 34 7)).drop 5) qa (dM k) .next [(bQ,self)] H):=bZ (by kernel_rfl) h
theorem W2(h:let C:=aw n;eq H (.list []) λiG fJ=>aj (ft self e5 iG fJ) λiJ=>On C iJ self k):(let C:=aw n;ed C ((aW (aL 34 7)).drop 5) qa (dM k) .next [(bQ,self),(bS,bC)] H):=bZ (by kernel_rfl) h
def qb:ds:=(dO (aL 34 8)).names
def BR:aU:=nO (bw (aW (aL 34 8)) 0)
theorem Y2(h:let C:=aw n;aj (aV self e5 H) λaz=>lp az H λlQ=>gR False qb BR (λm H q=>b1 False C (eh (bw (aW (aL 34 8)) 0)) qb m H q) (.enum lQ) f6 0 [(bQ,self)] H (ed C ((aW (aL 34 8)).drop 1) qb (dM k))):aw (n+1) 834 [self] H k:=bZ (by kernel_rfl) h
theorem aqF(h:let C:=aw n;aj (aV self fU H) λca=>aj (bx ca (z "poke") H) λhX=>aj (aV self q7 H) λeG=>aF (a5 .Add eG (L.int 1) H) λlw dr=>aF (a5 .Add lw er dr) λi9 dN=>aj (aV self fU dN) λsw=>aj (bx sw (z "peek") dN) λnv=>bB False C nv [bC] dN λoO gt=>bB False C hX [i9,oO] gt λvD fb=>q .next [(bQ,self),(dQ,er),(bS,bC)] fb):b1 False (aw n) (eh (bw (aW (aL 34 8)) 0)) qb [(bQ,self),(dQ,er),(bS,bC)] H q:=bZ (by kernel_rfl) h
theorem W3(h:let C:=aw n;aj (aV self fU H) λnV=>aj (bx nV q6 H) λnw=>bB False C nw [] H λtS g3=>k L.none g3):(let C:=aw n;ed C ((aW (aL 34 8)).drop 1) qb (dM k) .next [(bQ,self)] H):=bZ (by kernel_rfl) h
theorem W4(h:let C:=aw n;aj (aV self fU H) λBG=>aj (bx BG q6 H) λzW=>bB False C zW [] H λKI hP=>k L.none hP):(let C:=aw n;ed C ((aW (aL 34 8)).drop 1) qb (dM k) .next [(bQ,self),(dQ,er),(bS,bC)] H):=bZ (by kernel_rfl) h
theorem Y3(h:let C:=aw n;aj (aV self fU H) λaz=>aj (bx az (z "poke") H) λdy=>aj (aV self q7 H) λca=>aj (aV self fU H) λc7=>aj (aV c7 dH H) λeG=>C 763 [ik,eG] H λhd dr=>bB False C dy [ca,hd] dr λnM dN=>aj (aV self fU dN) λsw=>aj (bx sw q6 dN) λnv=>bB False C nv [] dN λoO gt=>k L.none gt):aw (n+1) 841 [self,ik] H k:=bZ (by kernel_rfl) h
def np:ds:=(dO (aL 34 10)).names
def yR:aU:=nO (bw (aW (aL 34 10)) 0)
theorem Y4(h:let C:=aw n;lp ik H λkL=>gR False np yR (λm H q=>b1 False C (eh (bw (aW (aL 34 10)) 0)) np m H q) (.enum kL) f6 0 [(bQ,self),(e5,ik),(nW,mY)] H (ed C ((aW (aL 34 10)).drop 1) np (dM k))):aw (n+1) 848 [self,ik,mY] H k:=bZ (by kernel_rfl) h
def CI(C:cL)(self:L)(eg:an)(bC m7 ik mY er:L)(q:ez):Prop:=aj (aV self fU eg) λmC=>aj (bx mC (z "poke") eg) λpn=>bB False C pn [bC,m7] eg λvD fb=>q .next [(bQ,self),(e5,ik),(nW,mY),(dQ,er),(bS,bC),(d2,m7)] fb
theorem aqG(h:let C:=aw n;aj (aV self fU H) λaT=>aj (bx aT (z "peek") H) λeT=>aj (ky mY) λhX=>dU hX (aj (aV self q7 H) λeG=>aF (a5 .Add eG (L.int 1) H) λlw dr=>aF (a5 .Add lw er dr) λi9 dN=>bB False C eT [i9] dN λm7 eg=>CI C self eg bC m7 ik mY er q) (bB False C eT [bC] H λeV fv=>CI C self fv bC eV ik mY er q)):b1 False (aw n) (eh (bw (aW (aL 34 10)) 0)) np [(bQ,self),(e5,ik),(nW,mY),(dQ,er),(bS,bC)] H q:=bZ (by kernel_rfl) h
theorem aqH(h:let C:=aw n;aj (aV self fU H) λsy=>aj (bx sy (z "peek") H) λtq=>aj (ky mY) λov=>dU ov (aj (aV self q7 H) λMe=>aF (a5 .Add Me (L.int 1) H) λmx hE=>aF (a5 .Add mx er hE) λsp gD=>bB False C tq [sp] gD λant i0=>CI C self i0 bC ant ik mY er q) (bB False C tq [bC] H λanu kV=>CI C self kV bC anu ik mY er q)):b1 False (aw n) (eh (bw (aW (aL 34 10)) 0)) np [(bQ,self),(e5,ik),(nW,mY),(dQ,er),(bS,bC),(d2,bR)] H q:=bZ (by kernel_rfl) h
theorem W5(h:let C:=aw n;aj (aV self fU H) λMi=>aj (bx Mi q6 H) λHv=>bB False C Hv [] H λKS o2=>k L.none o2):(let C:=aw n;ed C ((aW (aL 34 10)).drop 1) np (dM k) .next [(bQ,self),(e5,ik),(nW,mY)] H):=bZ (by kernel_rfl) h
theorem W6(h:let C:=aw n;aj (aV self fU H) λMj=>aj (bx Mj q6 H) λaa5=>bB False C aa5 [] H λSX uj=>k L.none uj):(let C:=aw n;ed C ((aW (aL 34 10)).drop 1) np (dM k) .next [(bQ,self),(e5,ik),(nW,mY),(dQ,er),(bS,bC),(d2,bR)] H):=bZ (by kernel_rfl) h
def wb:aU:=(fD (bw (aW (bf 36)) 0) 0)
def Fb:aU:=vO wb
def t9:ds:=gF (dO (bf 36)).names (vG wb).names
theorem Y5(h:let C:=aw n;aj (lV [PF]) λgn=>jX False t9 Fb (λm H q=>jb False C (m0 wb) t9 m H q) (λm H q=>bO False C (j8 wb 0) t9 m H q) (.items gn) f6 0 [(hm,kR)] H [] λfY cg=>eq cg (.list fY) λnT eP=>k nT eP):aw (n+1) 874 [kR,PF] H k:=bZ (by kernel_rfl) h
theorem acL{q:b3}(h:let C:=aw n;aF (a5 .Mult (L.int 8) aN H) λlw dr=>aF (a5 .RShift kR lw dr) λi9 dN=>aF (a5 .BitAnd i9 (L.int 255) dN) λfT eg=>q fT eg):bO False (aw n) (j8 wb 0) t9 [(hm,kR),(e4,aN)] H q:=bZ (by kernel_rfl) h
theorem adp{q:Bool->an->Prop}(h:let C:=aw n;q ae H):jb False (aw n) (m0 wb) t9 [(hm,kR),(e4,aN)] H q:=bZ (by kernel_rfl) h
def sR:ds:=(dO (bf 37)).names
def Fc:aU:=nO (bw (aW (bf 37)) 1)
def Wz(C:cL)(tQ:L)(cx:an)(b0 bC jP gB:L)(k:b3):Prop:=lp tQ cx λI9=>gR False sR Fc (λm H q=>b1 False C (eh (bw (aW (bf 37)) 1)) sR m H q) (.lst I9) f6 0 [(cu,b0),(bS,bC),(eC,tQ),(dH,jP),(jc,gB)] cx (ed C ((aW (bf 37)).drop 2) sR (dM k))
theorem Y6(h:let C:=aw n;eq H (.list [(L.int 2),(L.int 0),(L.int 0),(L.int 0),(L.int 0),(L.int 0),(L.int 1),(L.int 0)]) λgK cM=>C 874 [jP,(L.int 4)] cM λgJ eD=>aF (a5 .Add gK gJ eD) λgB cx=>Wz C tQ cx b0 bC jP gB k):aw (n+1) 881 [b0,bC,tQ,jP] H k:=bZ (by kernel_rfl) h
theorem LU(h:let C:=aw n;C 874 [er,(L.int 4)] H λnM dN=>aF (a5 .Add row nM dN) λfT eg=>q .next [(cu,b0),(bS,bC),(eC,tQ),(dH,jP),(jc,fT),(dQ,er)] eg):b1 False (aw n) (eh (bw (aW (bf 37)) 1)) sR [(cu,b0),(bS,bC),(eC,tQ),(dH,jP),(jc,row),(dQ,er)] H q:=bZ (by kernel_rfl) h
def WA(C:cL)(b0 kd:L)(g4:an)(l0 row:L)(k:b3):Prop:=aF (cj b0 (.at_ kd) g4) λvR jh=>jJ (eA L.none) (eA l0) λLn apy=>aF (cj vR (.sl Ln apy) jh) λvS iI=>aF (a5 .Add vS row iI) λiG fJ=>aF (cj b0 (.at_ kd) fJ) λmy iw=>aF (a5 .Add l0 (L.int 24) iw) λnS i1=>jJ (eA nS) (eA L.none) λapB apC=>aF (cj my (.sl apB apC) i1) λl2 rl=>aF (a5 .Add iG l2 rl) λmz ro=>aj (fS b0 (.at_ kd) mz ro) λo2=>k kd o2
def WB(C:cL)(bC:L)(H:an)(b0 row:L)(k:b3):Prop:=aF (a5 .FloorDiv bC (L.int 2) H) λdY gt=>aF (a5 .Add (L.int 11) dY gt) λh2 fb=>aF (a5 .Mod bC (L.int 2) fb) λkc fv=>aF (a5 .Mult kc (L.int 24) fv) λpQ g3=>eq g3 (.tup [h2,pQ]) λLs g4=>kz Ls g4 2 λJt=>fP Jt λkd AS=>fP AS λl0 asL=>WA C b0 kd g4 l0 row k
theorem W7(h:let C:=aw n;WB C bC H b0 row k):(let C:=aw n;ed C ((aW (bf 37)).drop 2) sR (dM k) .next [(cu,b0),(bS,bC),(eC,tQ),(dH,jP),(jc,row),(dQ,er)] H):=bZ (by kernel_rfl) h
def wc:aU:=(j8 (fD (bw (aW (bf 39)) 0) 0) 0)
def Fd:aU:=vO wc
def ua:ds:=gF (dO (bf 39)).names (vG wc).names
def WC(C:cL)(b0:L)(dr:an)(lw cZ:L)(k:b3):Prop:=aF (cj b0 (.at_ (L.int 13)) dr) λi9 dN=>aF (a5 .FloorDiv lw (L.int 8) dN) λfT eg=>aF (cj i9 (.at_ fT) eg) λdY gt=>aF (a5 .Mod lw (L.int 8) gt) λh2 fb=>aF (a5 .LShift (L.int 1) h2 fb) λkc fv=>aF (a5 .BitOr dY kc fv) λpQ g3=>aF (cj b0 (.at_ (L.int 13)) g3) λLs g4=>aF (a5 .FloorDiv lw (L.int 8) g4) λiX hP=>aj (fS Ls (.at_ iX) pQ hP) λni=>eq ni (.list [(L.int 0)]) λl0 fC=>aF (a5 .Mult l0 (L.int 48) fC) λvR jh=>aj (fS b0 (.at_ lw) vR jh) λgD=>aj (bx cZ l4 gD) λrS=>bB False C rS [(L.int 13)] gD λsd iI=>k lw iI
theorem Y7(h:let C:=aw n;aj (lV [(L.int 14),(L.int 22)]) λgn=>jX False ua Fd (λm H q=>jb False C (m0 wc) ua m H q) (λm H q=>bO False C (j8 wc 0) ua m H q) (.items gn) f6 0 [(cu,b0)] H [] λfY cg=>eq cg (.list fY) λnT eP=>aF (cj nT (.at_ (L.int 0)) eP) λlw dr=>WC C b0 dr lw cZ k):aw (n+1) 891 [b0,cZ] H k:=bZ (by kernel_rfl) h
theorem acM{q:b3}(h:let C:=aw n;q one H):bO False (aw n) (j8 wc 0) ua [(cu,b0),(nb,one)] H q:=bZ (by kernel_rfl) h
theorem adq{q:Bool->an->Prop}(h:let C:=aw n;aF (cj b0 (.at_ (L.int 13)) H) λiG fJ=>aF (a5 .FloorDiv one (L.int 8) fJ) λmy iw=>aF (cj iG (.at_ my) iw) λnS i1=>aF (a5 .Mod one (L.int 8) i1) λq2 y0=>aF (a5 .RShift nS q2 y0) λl2 rl=>aF (a5 .BitAnd l2 (L.int 1) rl) λmz ro=>aj (bW .Eq mz (L.int 0) ro) λHx=>dU Hx (q ae ro) (q aA ro)):jb False (aw n) (m0 wc) ua [(cu,b0),(nb,one)] H q:=bZ (by kernel_rfl) h
def ki:ds:=(dO (bf 40)).names
theorem ai7{ct:List cD}(h:b1 False C ct ki [(cu,b0),(iH,fe),(gT,dA),(d2,bR),(ey,cZ),(hC,(L.int 0))] H K):b1 False C (bw (aW (bf 40)) 0::ct) ki [(cu,b0),(iH,fe),(gT,dA),(d2,bR),(ey,cZ)] H K:=bZ (by kernel_rfl) h
theorem Y8(h:let C:=aw n;b1 False C ((aW (bf 40)).drop 1) ki [(cu,b0),(iH,fe),(gT,dA),(d2,bR),(ey,cZ),(hC,(L.int 0))] H (dM k)):aw (n+1) 898 [b0,fe,dA,bR,cZ] H k:=Bk (st:=bf 40) (ss:=bw (aW (bf 40)) 0::((aW (bf 40)).drop 1)) (m:=[(cu,b0),(iH,fe),(gT,dA),(d2,bR),(ey,cZ)]) (by kernel_rfl) (by decide) (by kernel_rfl) (by kernel_rfl) (by kernel_rfl) (ai7 h)
theorem TG{q:Bool->an->Prop}(h:let C:=aw n;aF (cH (.builtin "len") [bR] H) λb9 cM=>aj (bW .Lt ap b9 cM) λeT=>bo .And eT (q aA cM) (aF (cH (.type "set") [cZ] cM) λnL eP=>aF (cH (.builtin "len") [nL] eP) λhd dr=>aF (a5 .Sub (L.int 8) hd dr) λi9 dN=>aj (bW .GtE i9 (L.int 4) dN) λpm=>bo .And pm (q aA dN) (q ae dN))):ge False (aw n) (fD (bw (aW (bf 40)) 1) 0) (λH k=>bO False (aw n) (fD (bw (aW (bf 40)) 1) 0) ki [(cu,b0),(iH,fe),(gT,dA),(d2,bR),(ey,cZ),(hC,ap)] H k) ki [(cu,b0),(iH,fe),(gT,dA),(d2,bR),(ey,cZ),(hC,ap)] H q:=bZ (by kernel_rfl) h
def WD(C:cL)(cZ:L)(BY:an)(mA ap oW b0 fe dA bR iX kP:L)(q:ez):Prop:=aj (bx cZ l4 BY) λabi=>bB False C abi [mA] BY λas1 y9=>aF (a5 .Add ap oW y9) λaqm U1=>q .next [(cu,b0),(iH,fe),(gT,dA),(d2,bR),(ey,cZ),(hC,aqm),(mI,iX),(e4,kP),(iY,mA),(mJ,oW)] U1
def WE(C:cL)(b0 mA:L)(nk:an)(kP ap oW bR cZ fe dA iX:L)(q:ez):Prop:=aF (cj b0 (.at_ mA) nk) λaqi ul=>jJ (eA L.none) (eA kP) λapD apE=>aF (cj aqi (.sl apD apE) ul) λBv y2=>aF (a5 .Add ap oW y2) λBw uo=>jJ (eA ap) (eA Bw) λapG apH=>aF (cj bR (.sl apG apH) uo) λaql kW=>aF (a5 .Add Bv aql kW) λBx y3=>aF (cj b0 (.at_ mA) y3) λBy y5=>aF (a5 .Add kP oW y5) λBz y6=>jJ (eA Bz) (eA L.none) λapI apJ=>aF (cj By (.sl apI apJ) y6) λBA y7=>aF (a5 .Add Bx BA y7) λBB y8=>aj (fS b0 (.at_ mA) BB y8) λBY=>WD C cZ BY mA ap oW b0 fe dA bR iX kP q
def Oo(C:cL)(fe:L)(iJ:an)(iX kP bR ap b0 cZ dA:L)(q:ez):Prop:=aF (cj fe (.at_ (L.str eC)) iJ) λLD kV=>aF (cj LD (.at_ iX) kV) λBr kC=>aF (a5 .Sub (L.int 48) kP kC) λBs nj=>aF (cH (.builtin "len") [bR] nj) λKR rn=>aF (a5 .Sub KR ap rn) λLG o2=>aF (cH (.builtin "min") [Bs,LG] o2) λanw ui=>eq ui (.tup [Br,anw]) λvT nk=>kz vT nk 2 λagw=>fP agw λmA agx=>fP agx λoW asO=>WE C b0 mA nk kP ap oW bR cZ fe dA iX q
def Op(C:cL)(fe:L)(lD:an)(iX b0 cZ kP bR ap dA:L)(q:ez):Prop:=aF (cj fe (.at_ (L.str eC)) lD) λmx hE=>aF (cj mx (.at_ iX) hE) λsp gD=>aj (bW .Eq sp (L.int 0) gD) λrS=>dU rS (C 891 [b0,cZ] gD λsd iI=>aF (cj fe (.at_ (L.str eC)) iI) λiG fJ=>aj (fS iG (.at_ iX) sd fJ) λiJ=>Oo C fe iJ iX kP bR ap b0 cZ dA q) (Oo C fe gD iX kP bR ap b0 cZ dA q)
theorem aqI(h:let C:=aw n;aF (a5 .Add dA ap H) λkO o0=>aF (a5 .FloorDiv kO (L.int 48) o0) λil jg=>aF (a5 .Add dA ap jg) λsm kg=>aF (a5 .Mod sm (L.int 48) kg) λso lC=>eq lC (.tup [il,so]) λvQ lD=>kz vQ lD 2 λAR=>fP AR λiX Ju=>fP Ju λkP agm=>Op C fe lD iX b0 cZ kP bR ap dA q):b1 False (aw n) (eh (bw (aW (bf 40)) 1)) ki [(cu,b0),(iH,fe),(gT,dA),(d2,bR),(ey,cZ),(hC,ap)] H q:=bZ (by kernel_rfl) h
theorem TH{q:Bool->an->Prop}(h:let C:=aw n;aF (cH (.builtin "len") [bR] H) λank Fq=>aj (bW .Lt ap ank Fq) λaaB=>bo .And aaB (q aA Fq) (aF (cH (.type "set") [cZ] Fq) λanl UR=>aF (cH (.builtin "len") [anl] UR) λanm US=>aF (a5 .Sub (L.int 8) anm US) λap7 Fs=>aj (bW .GtE ap7 (L.int 4) Fs) λaaC=>bo .And aaC (q aA Fs) (q ae Fs))):ge False (aw n) (fD (bw (aW (bf 40)) 1) 0) (λH k=>bO False (aw n) (fD (bw (aW (bf 40)) 1) 0) ki [(cu,b0),(iH,fe),(gT,dA),(d2,bR),(ey,cZ),(hC,ap),(mI,gx),(e4,aN),(iY,uQ),(mJ,part)] H k) ki [(cu,b0),(iH,fe),(gT,dA),(d2,bR),(ey,cZ),(hC,ap),(mI,gx),(e4,aN),(iY,uQ),(mJ,part)] H q:=bZ (by kernel_rfl) h
theorem aqJ(h:let C:=aw n;aF (a5 .Add dA ap H) λap8 UT=>aF (a5 .FloorDiv ap8 (L.int 48) UT) λap9 UU=>aF (a5 .Add dA ap UU) λaqa UV=>aF (a5 .Mod aqa (L.int 48) UV) λaqb UW=>eq UW (.tup [ap9,aqb]) λaqc MF=>kz aqc MF 2 λagj=>fP agj λaqd agk=>fP agk λaqe asJ=>Op C fe MF aqd b0 cZ aqe bR ap dA q):b1 False (aw n) (eh (bw (aW (bf 40)) 1)) ki [(cu,b0),(iH,fe),(gT,dA),(d2,bR),(ey,cZ),(hC,ap),(mI,gx),(e4,aN),(iY,uQ),(mJ,part)] H q:=bZ (by kernel_rfl) h
theorem agy{C:a1->List L->an->(L->an->Prop)->Prop}(h:l3 False (λm H q=>ge False C (fD (bw (aW (bf 40)) 1) 0) (λH k=>bO False C (fD (bw (aW (bf 40)) 1) 0) ki m H k) ki m H q) (λm H q=>b1 False C (eh (bw (aW (bf 40)) 1)) ki m H q) f6 m H (ed C ((aW (bf 40)).drop 2) ki q)):b1 False C ((aW (bf 40)).drop 1) ki m H q:=EV (st:=(bw (aW (bf 40)) 1)) (by kernel_rfl) (by kernel_rfl) h
def Oq(C:cL)(fe:L)(H:an)(dA ap:L)(k:b3):Prop:=aF (cj fe (.at_ (L.str dH)) H) λLA FG=>aF (a5 .Add dA ap FG) λLB FH=>aF (cH (.builtin "max") [LA,LB] FH) λKN FI=>aj (fS fe (.at_ (L.str dH)) KN FI) λFJ=>k ap FJ
theorem W8(h:let C:=aw n;aj (bW .Gt ap (L.int 0) H) λHo=>dU Ho (Oq C fe H dA ap k) (k ap H)):(let C:=aw n;ed C ((aW (bf 40)).drop 2) ki (dM k) .next [(cu,b0),(iH,fe),(gT,dA),(d2,bR),(ey,cZ),(hC,ap)] H):=bZ (by kernel_rfl) h
theorem W9(h:let C:=aw n;aj (bW .Gt ap (L.int 0) H) λaaN=>dU aaN (Oq C fe H dA ap k) (k ap H)):(let C:=aw n;ed C ((aW (bf 40)).drop 2) ki (dM k) .next [(cu,b0),(iH,fe),(gT,dA),(d2,bR),(ey,cZ),(hC,ap),(mI,gx),(e4,aN),(iY,uQ),(mJ,part)] H):=bZ (by kernel_rfl) h
def o9:ds:=(dO (bf 41)).names
def Fe:aU:=nO (DM (bw (aW (bf 41)) 2) 0)
def wd:aU:=(fD (DM (bw (aW (bf 41)) 2) 0) 0)
def Ff:aU:=vO wd
def ub:ds:=gF (dO (bf 41)).names (vG wd).names
def WF(C:cL)(lv:L)(fC:an)(b0 ep fg cZ fT dY kd:L)(k:b3):Prop:=aF (cj lv (.at_ (L.str eC)) fC) λsp gD=>lp sp gD λafA=>jX False ub Ff (λm H q=>jb False C (m0 wd) ub m H q) (λm H q=>bO False C (j8 wd 0) ub m H q) (.lst afA) f6 0 [] gD [] λago iI=>eq iI (.list ago) λiG fJ=>lp iG fJ λafC=>gR False o9 Fe (λm H q=>b1 False C (eh (bw (vm (bw (aW (bf 41)) 2)) 0)) o9 m H q) (.lst afC) f6 0 [(cu,b0),(ew,ep),(fV,fg),(ey,cZ),(bS,fT),(sE,dY),(iH,lv),(gC,kd)] fJ (ed C ((vm (bw (aW (bf 41)) 2)).drop 1) o9 (ed C ((aW (bf 41)).drop 3) o9 (dM k)))
def Os(C:cL)(cZ:L)(wi:an)(lv b0 fT KT:L)(k:b3):Prop:=aj (bx cZ l4 wi) λHy=>aF (cj lv (.at_ (L.str eC)) wi) λBv y2=>aF (cj lv (.at_ (L.str dH)) y2) λBw uo=>C 881 [b0,fT,Bv,Bw] uo λKU FM=>bB False C Hy [KU] FM λS0 kW=>k KT kW
def WG(C:cL)(dY:L)(fC:an)(b0 lv cZ fT:L)(k:b3):Prop:=aF (a5 .FloorDiv dY (L.int 300) fC) λLD kV=>aF (a5 .Mod LD (L.int 26) kV) λBr kC=>aF (a5 .Add (L.int 65) Br kC) λBs nj=>eq nj (.list [Bs]) λLF rn=>aF (a5 .FloorDiv dY (L.int 300) rn) λLG o2=>aF (a5 .Mod LG (L.int 20) o2) λBt ui=>aF (a5 .Add (L.int 1) Bt ui) λvT nk=>aF (a5 .Mult LF vT nk) λLH rp=>aF (a5 .FloorDiv dY (L.int 5) rp) λLI uj=>aF (a5 .Mod LI (L.int 60) uj) λaqh uk=>C 898 [b0,lv,aqh,LH,cZ] uk λKT wi=>Os C cZ wi lv b0 fT KT k
def WH(C:cL)(fT:L)(gi:an)(ep dY b0 fg cZ:L)(k:b3):Prop:=aF (a5 .Sub fT (L.int 1) gi) λh2 fb=>aF (cj ep (.at_ h2) fb) λkc fv=>eq fv (.tup [kc,L.none]) λpQ g3=>kz pQ g3 2 λJs=>fP Js λlv Jt=>fP Jt λkd AS=>aF (a5 .Mod dY (L.int 5) g3) λl0 fC=>aj (bW .Eq l0 (L.int 4) fC) λny=>dU ny (WF C lv fC b0 ep fg cZ fT dY kd k) (WG C dY fC b0 lv cZ fT k)
theorem Y9(h:let C:=aw n;aF (a5 .Mod fg (L.int 2) H) λgK cM=>aF (a5 .Add (L.int 1) gK cM) λl1 eD=>aF (a5 .FloorDiv fg (L.int 2) eD) λgB cx=>eq cx (.tup [l1,gB]) λnU gi=>kz nU gi 2 λJw=>fP Jw λfT vt=>fP vt λdY Jr=>WH C fT gi ep dY b0 fg cZ k):aw (n+1) 903 [b0,ep,fg,cZ] H k:=bZ (by kernel_rfl) h
def WI(C:cL)(cZ:L)(up:an)(b0 ep fg bC ct fe gS er:L)(q:ez):Prop:=aj (bx cZ l4 up) λHF=>bB False C HF [(L.int 13)] up λanA za=>q .next [(cu,b0),(ew,ep),(fV,fg),(ey,cZ),(bS,bC),(sE,ct),(iH,fe),(gC,gS),(dQ,er)] za
theorem EU(h:let C:=aw n;aF (cj b0 (.at_ (L.int 13)) H) λBx y3=>aF (a5 .FloorDiv er (L.int 8) y3) λBy y5=>aF (cj Bx (.at_ By) y5) λBz y6=>aF (a5 .Mod er (L.int 8) y6) λLL FO=>aF (a5 .LShift (L.int 1) LL FO) λBA y7=>aF (a5 .Sub Bz BA y7) λBB y8=>aF (cj b0 (.at_ (L.int 13)) y8) λLM FP=>aF (a5 .FloorDiv er (L.int 8) FP) λLN y9=>aj (fS LM (.at_ LN) BB y9) λup=>WI C cZ up b0 ep fg bC ct fe gS er q):b1 False (aw n) (eh (bw (vm (bw (aW (bf 41)) 2)) 0)) o9 [(cu,b0),(ew,ep),(fV,fg),(ey,cZ),(bS,bC),(sE,ct),(iH,fe),(gC,gS),(dQ,er)] H q:=bZ (by kernel_rfl) h
def Ot(C:cL)(H:an)(fe cZ b0 bC gS:L)(k:b3):Prop:=eq H (.list [(L.int 0),(L.int 0),(L.int 0)]) λBC zb=>eq zb (.tup [BC,(L.int 0)]) λBD uq=>kz BD uq 2 λAT=>fP AT λLO Jx=>aj (fS fe (.at_ (L.str eC)) LO uq) λur=>fP Jx λBE agA=>aj (fS fe (.at_ (L.str dH)) BE ur) λB0=>Os C cZ B0 fe b0 bC gS k
theorem Xa(h:let C:=aw n;Ot C H fe cZ b0 bC gS k):(let C:=aw n;ed C ((vm (bw (aW (bf 41)) 2)).drop 1) o9 (ed C ((aW (bf 41)).drop 3) o9 (dM k)) .next [(cu,b0),(ew,ep),(fV,fg),(ey,cZ),(bS,bC),(sE,ct),(iH,fe),(gC,gS)] H):=bZ (by kernel_rfl) h
theorem GQ(h:let C:=aw n;Ot C H fe cZ b0 bC gS k):(let C:=aw n;ed C ((vm (bw (aW (bf 41)) 2)).drop 1) o9 (ed C ((aW (bf 41)).drop 3) o9 (dM k)) .next [(cu,b0),(ew,ep),(fV,fg),(ey,cZ),(bS,bC),(sE,ct),(iH,fe),(gC,gS),(dQ,er)] H):=bZ (by kernel_rfl) h
theorem acN{q:b3}(h:let C:=aw n;q one H):bO False (aw n) (j8 wd 0) ub [(nb,one)] H q:=bZ (by kernel_rfl) h
theorem adr{q:Bool->an->Prop}(h:let C:=aw n;aj (bW .Gt one (L.int 0) H) λaaz=>dU aaz (q ae H) (q aA H)):jb False (aw n) (m0 wd) ub [(nb,one)] H q:=bZ (by kernel_rfl) h
def WJ(C:cL)(fT:L)(fb:an)(dY:L)(k:b3):Prop:=aj (bx fT mK fb) λnx=>aF (a5 .FloorDiv dY (L.int 5) fb) λlv g5=>aF (a5 .Mod lv (L.int 60) g5) λkd ni=>aF (a5 .FloorDiv dY (L.int 300) ni) λl0 fC=>aF (a5 .Mod l0 (L.int 26) fC) λvR jh=>aF (a5 .Add (L.int 65) vR jh) λsq hr=>eq hr (.list [sq]) λvS iI=>aF (a5 .FloorDiv dY (L.int 300) iI) λiG fJ=>aF (a5 .Mod iG (L.int 20) fJ) λmy iw=>aF (a5 .Add (L.int 1) my iw) λnS i1=>aF (a5 .Mult vS nS i1) λq2 y0=>aF (cH (.type "bytes") [q2] y0) λSV rl=>bB False C nx [kd,SV] rl λanv ro=>k anv ro
theorem Za(h:let C:=aw n;aF (a5 .Mod fg (L.int 2) H) λgK cM=>aF (cj fG (.at_ gK) cM) λl1 eD=>aF (a5 .FloorDiv fg (L.int 2) eD) λgB cx=>eq cx (.tup [l1,gB]) λnU gi=>kz nU gi 2 λJw=>fP Jw λfT vt=>fP vt λdY Jr=>aF (a5 .Mod dY (L.int 5) gi) λh2 fb=>aj (bW .Eq h2 (L.int 4) fb) λHb=>dU Hb (aj (bx fT (z "truncate") fb) λnw=>bB False C nw [] fb λtS g3=>k tS g3) (WJ C fT fb dY k)):aw (n+1) 910 [fG,fg] H k:=bZ (by kernel_rfl) h
def lF:ds:=(dO (bf 44)).names
def Fg:aU:=nO (bw (aW (bf 44)) 4)
def WK(C:cL)(pair:L)(gD:an)(ev e3 fG b0 ep kO il sm so:L)(k:b3):Prop:=lp pair gD λafB=>gR False lF Fg (λm H q=>b1 False C (eh (bw (aW (bf 44)) 4)) lF m H q) (.lst afB) f6 0 [(dP,ev),(eB,e3),(eO,fG),(cu,b0),(ew,ep),(iq,pair),(gC,kO),(io,il),(ey,sm),(eX,so)] gD (ed C ((aW (bf 44)).drop 5) lF (dM k))
def WL(C:cL)(e3:L)(g5:an)(pair ev fG b0 ep kO il sm so:L)(k:b3):Prop:=aj (aV e3 hl g5) λpT=>aj (bx pT sB g5) λov=>bB False C ov [] g5 λvE fC=>aj (aV e3 hl fC) λMf=>C 917 [Mf] fC λKO gD=>aj (ky KO) λrS=>dU rS (k (L.bool aA) gD) (WK C pair gD ev e3 fG b0 ep kO il sm so k)
theorem Zb(h:let C:=aw n;eq H (.list []) λgK cM=>eq cM (.list []) λl1 eD=>eq eD (.list []) λgB cx=>aj (aV ev eX cx) λmE=>eq cx (.tup [gK,l1,gB,mE]) λi9 dN=>kz i9 dN 4 λDO=>fP DO λkO Jq=>fP Jq λil Rb=>fP Rb λsm agl=>fP agl λso asK=>aj (aV e3 hl dN) λsx=>aj (bx sx sB dN) λnx=>bB False C nx [] dN λxv g5=>WL C e3 g5 pair ev fG b0 ep kO il sm so k):aw (n+1) 922 [ev,e3,fG,b0,ep,pair] H k:=bZ (by kernel_rfl) h
def WM(C:cL)(i6:L)(iw:an)(b0 ep fg cZ ev e3 fG pair gS h3:L)(q:ez):Prop:=aj (bx i6 l4 iw) λzY=>C 903 [b0,ep,fg,cZ] iw λBh kC=>bB False C zY [Bh] kC λSU nj=>q .next [(dP,ev),(eB,e3),(eO,fG),(cu,b0),(ew,ep),(iq,pair),(gC,gS),(io,i6),(ey,cZ),(eX,h3),(fV,fg)] nj
theorem LW(h:let C:=aw n;aj (bx gS l4 H) λzX=>C 910 [fG,fg] H λD7 fJ=>bB False C zX [D7] fJ λBg iw=>WM C i6 iw b0 ep fg cZ ev e3 fG pair gS h3 q):b1 False (aw n) (eh (bw (aW (bf 44)) 4)) lF [(dP,ev),(eB,e3),(eO,fG),(cu,b0),(ew,ep),(iq,pair),(gC,gS),(io,i6),(ey,cZ),(eX,h3),(fV,fg)] H q:=bZ (by kernel_rfl) h
theorem ai8{ct:List cD}(h:aj (aV e3 hl H) λL7=>aj (bx L7 (z "end") H) λHd=>bB False C Hd [] H λanp kU=>aj (bW .NotEq gS i6 kU) λHe=>bo .Or He (K (.ret (L.bool aA)) [(dP,ev),(eB,e3),(eO,fG),(cu,b0),(ew,ep),(iq,pair),(gC,gS),(io,i6),(ey,cZ),(eX,h3),(fV,fg)] kU) (aj (aV ev eX kU) λL8=>aj (bW .NotEq L8 h3 kU) λHf=>bo .Or Hf (K (.ret (L.bool aA)) [(dP,ev),(eB,e3),(eO,fG),(cu,b0),(ew,ep),(iq,pair),(gC,gS),(io,i6),(ey,cZ),(eX,h3),(fV,fg)] kU) (aj (aV e3 hl kU) λL9=>aj (bx L9 (z "left") kU) λHg=>bB False C Hg [] kU λKC Fw=>aF (cH (.type "set") [cZ] Fw) λKD Fx=>aF (cH (.builtin "len") [KD] Fx) λKF Fy=>aF (a5 .Sub (L.int 8) KF Fy) λLu o1=>aj (bW .NotEq KC Lu o1) λHh=>bo .Or Hh (K (.ret (L.bool aA)) [(dP,ev),(eB,e3),(eO,fG),(cu,b0),(ew,ep),(iq,pair),(gC,gS),(io,i6),(ey,cZ),(eX,h3),(fV,fg)] o1) (aj (aV e3 hl o1) λMa=>aj (bx Ma (z "end") o1) λHi=>bB False C Hi [] o1 λanr yZ=>aj (aV ev eX yZ) λMb=>aF (a5 .Add h3 (L.int 2) yZ) λLv Fz=>aF (cH (.type "set") [cZ] Fz) λKG FA=>aF (cH (.builtin "len") [KG] FA) λKH FC=>aF (a5 .Mult (L.int 2) KH FC) λLw FD=>aF (a5 .Add Lv Lw FD) λLx rj=>aj (bW .NotEq Mb Lx rj) λHj=>bo .Or Hj (K (.ret (L.bool aA)) [(dP,ev),(eB,e3),(eO,fG),(cu,b0),(ew,ep),(iq,pair),(gC,gS),(io,i6),(ey,cZ),(eX,h3),(fV,fg)] rj) (aj (aV ev pX rj) λMd=>eq rj (.list []) λLy rk=>aj (bW .NotEq Md Ly rk) λHk=>bo .Or Hk (K (.ret (L.bool aA)) [(dP,ev),(eB,e3),(eO,fG),(cu,b0),(ew,ep),(iq,pair),(gC,gS),(io,i6),(ey,cZ),(eX,h3),(fV,fg)] rk) (aj (bx ev (z "read") rk) λHl=>bB False C Hl [(L.int 2)] rk λKJ FE=>jJ (eA L.none) (eA (L.int 4)) λLm q0=>aF (cj KJ (.sl Lm q0) FE) λLz FF=>aF (cH (.type "bytes") [(L.int 4)] FF) λKL uh=>aj (bW .NotEq Lz KL uh) λHm=>bo .Or Hm (K (.ret (L.bool aA)) [(dP,ev),(eB,e3),(eO,fG),(cu,b0),(ew,ep),(iq,pair),(gC,gS),(io,i6),(ey,cZ),(eX,h3),(fV,fg)] uh) (b1 False C ct lF [(dP,ev),(eB,e3),(eO,fG),(cu,b0),(ew,ep),(iq,pair),(gC,gS),(io,i6),(ey,cZ),(eX,h3),(fV,fg)] uh K))))))):b1 False C (bw (aW (bf 44)) 5::bw (aW (bf 44)) 6::bw (aW (bf 44)) 7::bw (aW (bf 44)) 8::ct) lF [(dP,ev),(eB,e3),(eO,fG),(cu,b0),(ew,ep),(iq,pair),(gC,gS),(io,i6),(ey,cZ),(eX,h3),(fV,fg)] H K:=bZ (by kernel_rfl) h
theorem Xb(h:let C:=aw n;aj (aV e3 hl H) λL7=>aj (bx L7 (z "end") H) λHd=>bB False C Hd [] H λanp kU=>aj (bW .NotEq gS i6 kU) λHe=>bo .Or He ((dM k) (.ret (L.bool aA)) [(dP,ev),(eB,e3),(eO,fG),(cu,b0),(ew,ep),(iq,pair),(gC,gS),(io,i6),(ey,cZ),(eX,h3),(fV,fg)] kU) (aj (aV ev eX kU) λL8=>aj (bW .NotEq L8 h3 kU) λHf=>bo .Or Hf ((dM k) (.ret (L.bool aA)) [(dP,ev),(eB,e3),(eO,fG),(cu,b0),(ew,ep),(iq,pair),(gC,gS),(io,i6),(ey,cZ),(eX,h3),(fV,fg)] kU) (aj (aV e3 hl kU) λL9=>aj (bx L9 (z "left") kU) λHg=>bB False C Hg [] kU λKC Fw=>aF (cH (.type "set") [cZ] Fw) λKD Fx=>aF (cH (.builtin "len") [KD] Fx) λKF Fy=>aF (a5 .Sub (L.int 8) KF Fy) λLu o1=>aj (bW .NotEq KC Lu o1) λHh=>bo .Or Hh ((dM k) (.ret (L.bool aA)) [(dP,ev),(eB,e3),(eO,fG),(cu,b0),(ew,ep),(iq,pair),(gC,gS),(io,i6),(ey,cZ),(eX,h3),(fV,fg)] o1) (aj (aV e3 hl o1) λMa=>aj (bx Ma (z "end") o1) λHi=>bB False C Hi [] o1 λanr yZ=>aj (aV ev eX yZ) λMb=>aF (a5 .Add h3 (L.int 2) yZ) λLv Fz=>aF (cH (.type "set") [cZ] Fz) λKG FA=>aF (cH (.builtin "len") [KG] FA) λKH FC=>aF (a5 .Mult (L.int 2) KH FC) λLw FD=>aF (a5 .Add Lv Lw FD) λLx rj=>aj (bW .NotEq Mb Lx rj) λHj=>bo .Or Hj ((dM k) (.ret (L.bool aA)) [(dP,ev),(eB,e3),(eO,fG),(cu,b0),(ew,ep),(iq,pair),(gC,gS),(io,i6),(ey,cZ),(eX,h3),(fV,fg)] rj) (aj (aV ev pX rj) λMd=>eq rj (.list []) λLy rk=>aj (bW .NotEq Md Ly rk) λHk=>bo .Or Hk ((dM k) (.ret (L.bool aA)) [(dP,ev),(eB,e3),(eO,fG),(cu,b0),(ew,ep),(iq,pair),(gC,gS),(io,i6),(ey,cZ),(eX,h3),(fV,fg)] rk) (aj (bx ev (z "read") rk) λHl=>bB False C Hl [(L.int 2)] rk λKJ FE=>jJ (eA L.none) (eA (L.int 4)) λLm q0=>aF (cj KJ (.sl Lm q0) FE) λLz FF=>aF (cH (.type "bytes") [(L.int 4)] FF) λKL uh=>aj (bW .NotEq Lz KL uh) λHm=>bo .Or Hm ((dM k) (.ret (L.bool aA)) [(dP,ev),(eB,e3),(eO,fG),(cu,b0),(ew,ep),(iq,pair),(gC,gS),(io,i6),(ey,cZ),(eX,h3),(fV,fg)] uh) (b1 False C ((aW (bf 44)).drop 9) lF [(dP,ev),(eB,e3),(eO,fG),(cu,b0),(ew,ep),(iq,pair),(gC,gS),(io,i6),(ey,cZ),(eX,h3),(fV,fg)] uh (dM k)))))))):(let C:=aw n;ed C ((aW (bf 44)).drop 5) lF (dM k) .next [(dP,ev),(eB,e3),(eO,fG),(cu,b0),(ew,ep),(iq,pair),(gC,gS),(io,i6),(ey,cZ),(eX,h3),(fV,fg)] H):=XX (ss:=bw (aW (bf 44)) 5::bw (aW (bf 44)) 6::bw (aW (bf 44)) 7::bw (aW (bf 44)) 8::((aW (bf 44)).drop 9)) (by kernel_rfl) (ai8 h)
end
end Mine.Internal.P
end
noncomputable section
open PySem PySem.W PyProof.Rows PySem.Calls
namespace Mine.Internal.P
section
variable {A B:Prop}{H:an}{b:Bool}
noncomputable abbrev bh:=Nat×Nat
noncomputable abbrev bh.scr:bh:=(0,0)
noncomputable abbrev bh.c:bh:=(1,0)
noncomputable abbrev bh.d:bh:=(2,0)
noncomputable abbrev bh.j:bh:=(3,0)
noncomputable abbrev bh.s:bh:=(4,0)
noncomputable abbrev bh.n:bh:=(5,0)
noncomputable abbrev bh.row:bh:=(6,0)
noncomputable abbrev bh.bn:bh:=(7,0)
noncomputable abbrev bh.la:bh:=(8,0)
noncomputable abbrev bh.ke:bh:=(9,0)
noncomputable abbrev bh.un:bh:=(10,0)
noncomputable abbrev bh.ns:bh:=(11,0)
noncomputable abbrev bh.nt:bh:=(12,0)
noncomputable abbrev bh.tp:bh:=(13,0)
noncomputable abbrev bh.bo(k:Nat):bh:=(14,k)
noncomputable abbrev bh.bd(k:Nat):bh:=(15,k)
noncomputable abbrev bh.nd(k:Nat):bh:=(16,k)
noncomputable abbrev bh.pl(k:Nat):bh:=(17,k)
noncomputable abbrev bh.im:bh:=(18,0)
noncomputable abbrev bh.ir(k:Nat):bh:=(19,k)
noncomputable abbrev bh.fd(k:Nat):bh:=(20,k)
noncomputable abbrev bh.fp(k:Nat):bh:=(21,k)
noncomputable abbrev bh.to:bh:=(22,0)
noncomputable abbrev bh.tb:bh:=(23,0)
noncomputable abbrev bh.fs:bh:=(24,0)
noncomputable abbrev bh.x(k:Nat):bh:=(25,k)
theorem aC{a b:bh}(e:kG a.1 b.1=aA):¬a=b:=λh=>by subst h;exact b8 (e.symm.trans (Nat.beq_refl a.1))
abbrev dB:=List (bh×bt)
noncomputable def ao(K:dB):an:=K.map (·.2)
section
variable {K:dB}{i j:Nat}{r fR:bh}{o o' vy:bt}{C:cL}
theorem mo:(ao K).length=K.length:=d0 ..
theorem d8(e:K[i]? =J (r,o)):(ao K)[i]? =J o:=by unfold ao;exact G kY (G e rfl)
theorem adf(e:K[i]? =J (r,vy)):(ao K).set i o=ao (K.set i (r,o)):=by unfold ao;(exact G MS rfl)
theorem nB:ao K++[o]=ao (K++[(r,o)]):=by unfold ao;exact G p7 rfl
theorem A1(e:K[i]? =J (r,o)):i<K.length:=(kF.mp e).1
theorem aI(e:K[i]? =J (r,vy))(e2:K[j]? =J (fR,o'))(h:¬r=fR):(K.set i (r,o))[j]? =J (fR,o'):=by
 exact G (MO (λz=>h (by subst z;rw [e] at e2;cases e2;rfl))) e2
theorem fo(e:K[i]? =J (r,vy)):(K.set i (r,o))[i]? =J (r,o):=Vg (A1 e)
theorem cf(e:K[i]? =J (r,o)){l:dB}:(K++l)[i]? =J (r,o):=G (sL (A1 e)) e
theorem c2:(K++[(r,o)])[K.length]? =J (r,o):=by simp
def gW(K:dB):Prop:=∃o,K[0]? =J (.scr,o)
theorem gW.set(fk:gW K)(e:K[i]? =J (r,vy))(h:¬r=.scr):gW (K.set i (r,o)):=cm fk λo z=>⟨o,aI e z h⟩
theorem gW.app(fk:gW K){l:dB}:gW (K++l):=cm fk λo z=>⟨o,cf z⟩
theorem q4(fk:gW K)(e:K[i]? =J (r,vy))(h:¬r=.scr):wr (ao K) i o=J (ao (K.set i (r,o))):=by
 unfold wr;(exact G (a8 (λz=>by subst z;obtain⟨o,z⟩:=fk;rw [e] at z;cases z;exact h rfl)) (G (adf e) rfl))
theorem au{ay:Type}{p:Option ay}{a:ay}{k:ay->Prop}(e:p=J a)(h:k a):aj p k:=by subst e;exact h
theorem a3{ay bF:Type}{p:Option (ay×bF)}{a:ay}{b:bF}{k:ay->bF->Prop}(e:p=J (a,b))(h:k a b):aF p k:=by subst e;exact h
theorem gz(r:bh){k:b3}(h:k (.new K.length) (ao (K++[(r,o)]))):eq (ao K) o k:=by unfold eq;exact G mo (G (nB (r:=r)) h)
theorem nQ{l:List L}{n:Nat}{k:List L->Prop}(e:K[i]? =J (r,.tup l))(aQ:l.length=n)(h:k l):kz (.new i) (ao K) n k:=by
 unfold kz;simp only [d8 e,aQ,if_true];exact h
theorem pG{l:List L}{k:Nat->Prop}(e:K[i]? =J (r,.list l))(h:k i):lp (.new i) (ao K) k:=by
 have e:listOf (.new i) (ao K)=J i:=by
  show(((ao K)[i]?.bind AX).bind λ_=>J i)=_
  rw [d8 e];rfl
 unfold lp;rw [e];exact h
theorem jq(e:b=ae)(h:A):dU b A B:=by subst e;exact h
theorem g7(e:b=aA)(h:B):dU b A B:=by subst e;exact h
theorem lr(e:b=aA)(h:B):bo .Or b A B:=by subst e;exact h
theorem ai0(e:b=ae)(h:A):bo .Or b A B:=by subst e;exact h
theorem ph(e:b=ae)(h:B):bo .And b A B:=by subst e;exact h
theorem oq(e:b=aA)(h:A):bo .And b A B:=by subst e;exact h
noncomputable def ail:L->Bool
 | .st _=>aA
 |_=>ae
variable {c:a1}{l:List (Str×L)}{x:Str}{v:L}
theorem aN(e:K[i]? =J (r,.inst c l))(e2:cy l x=J v)(aP:ail v=ae):aV (.new i) x (ao K)=J v:=by
 unfold aV;simp only [d8 e,e2];rcases v<;>first |rfl|exact b8 aP
theorem c1{f:a1}(e:K[i]? =J (r,.inst c l))(e2:cy l x=ac)(aP:cy (qu c) x=J f):bx (.new i) x (ao K)=J (.fn f [.new i]):=by
 unfold bx;simp only [d8 e,e2,aP];rfl
theorem iV{l':List (Str×L)}(fk:gW K)(e:K[i]? =J (r,.inst c l))(h:¬r=.scr)(aQ:bH l.length=ae)(e2:fA l x v=l'):ft (.new i) x v (ao K)=J (ao (K.set i (r,.inst c l'))):=by
 unfold ft;simp only [d8 e,aQ,if_true,e2];exact q4 fk e h
theorem CW{l:List (L×L)}(e:K[i]? =J (r,.dict l)):bx (.new i) "get" (ao K)=J (.me (.new i) "get"):=by
 unfold bx;simp only [d8 e];rfl
theorem qt{l:List L}(e:K[i]? =J (r,.list l)):bx (.new i) "append" (ao K)=J (.me (.new i) "append"):=by
 unfold bx;simp only [d8 e];rfl
theorem abP{l:List L}(e:K[i]? =J (r,.list l)):bx (.new i) "remove" (ao K)=J (.me (.new i) "remove"):=by
 unfold bx;simp only [d8 e];rfl
theorem abI{l:dI}(e:K[i]? =J (r,.ba l)):bx (.new i) "extend" (ao K)=J (.me (.new i) "extend"):=by
 unfold bx;simp only [d8 e];rfl
variable {k:b3}{u w:L}
theorem lS{o:L}{n:Str}{vs:List L}{bb:an}(e:lT o n vs H=J (v,bb))(h:k v bb):bB False C (.me o n) vs H k:=by
 unfold bB;simp only [e];exact h
theorem JH{l:List (L×L)}(e:K[i]? =J (r,.dict l))(hk:fX u=ae):lT (.new i) "get" [u] (ao K)=J ((dV l u).getD .none,ao K):=by
 unfold lT;simp only [d8 e];refine G (aY trivial) ?_;simp only [hk,if_true]
theorem ahD{l:List (L×L)}(e:K[i]? =J (r,.dict l))(hk:fX u=ae):lT (.new i) "get" [u,w] (ao K)=J ((dV l u).getD w,ao K):=by
 unfold lT;simp only [d8 e];refine G (aY trivial) ?_;simp only [hk,if_true]
theorem tN{l:List L}(fk:gW K)(e:K[i]? =J (r,.list l))(h:¬r=.scr)(aQ:bH l.length=ae):lT (.new i) "append" [u] (ao K)=J (.none,ao (K.set i (r,.list (l++[u])))):=by
 unfold lT;simp only [d8 e];refine G (aY trivial) ?_;simp only [aQ,if_true,q4 fk e h];rfl
theorem ahC{l b:dI}(fk:gW K)(e:K[i]? =J (r,.ba l))(h:¬r=.scr)(aQ:bH (l.length+b.length)=ae):lT (.new i) "extend" [.bytes b] (ao K)=J (.none,ao (K.set i (r,.ba (l++b)))):=by
 unfold lT;simp only [d8 e];refine G (aY trivial) ?_;simp only [aQ,if_true,q4 fk e h];rfl
theorem ahE{l:List L}{q:Nat}(fk:gW K)(e:K[i]? =J (r,.list l))(h:¬r=.scr)(aQ:bH l.length=ae)(hb:l.all (oD (ao K))=ae)(aq:ty (.new j) l=J q):
  lT (.new i) "remove" [.new j] (ao K)=J (.none,ao (K.set i (r,.list (l.eraseIdx q)))):=by
 unfold lT;simp only [d8 e];refine G (a8 (by decide)) (G (aY trivial) ?_)
 simp only [aQ,hb,aq,Mw,if_true,M9,q4 fk e h];rfl
theorem fE{n:Nat}(h:n<=65536):bH n=ae:=decide_eq_true h
theorem pD{l:List L}(e:K[i]? =J (r,.list l))(aQ:bH l.length=ae):cH (.builtin "len") [.new i] (ao K)=J (.int l.length,ao K):=by
 show((ao K)[i]?).bind _=_
 rw [d8 e];exact aY aQ
theorem ag8{l:List L}(e:K[i]? =J (r,.set l))(aQ:bH l.length=ae):cH (.builtin "len") [.new i] (ao K)=J (.int l.length,ao K):=by
 show((ao K)[i]?).bind _=_
 rw [d8 e];exact aY aQ
theorem JC{l:dI}(e:K[i]? =J (r,.ba l))(aQ:bH l.length=ae):cH (.builtin "len") [.new i] (ao K)=J (.int l.length,ao K):=by
 show((ao K)[i]?).bind _=_
 rw [d8 e];exact aY aQ
theorem AW{l:dI}(aQ:bH l.length=ae):cH (.builtin "len") [.bytes l] H=J (.int l.length,H):=
 aY aQ
theorem Pc{l:dI}(e:K[i]? =J (r,.ba l))(aQ:bH l.length=ae):cH (.type "bytes") [.new i] (ao K)=J (.bytes l,ao K):=by
 show((ao K)[i]?).bind _=_
 rw [d8 e];exact aY aQ
theorem Pd{l:dI}(aQ:bH l.length=ae):cH (.type "bytes") [.bytes l] H=J (.bytes l,H):=
 aY aQ
theorem G6{l:List L}{b:dI}(e:K[i]? =J (r,.list l))(aQ:bH l.length=ae)(aR:bR l=J b):cH (.type "bytes") [.new i] (ao K)=J (.bytes b,ao K):=by
 show((ao K)[i]?).bind _=_
 rw [d8 e];show(if bH l.length then(bR l).map (L.bytes ·,ao K) else ac)=_
 exact G (aY aQ) (G aR rfl)
theorem CQ{n:Int}(h:0<=n/\n<=65536):cH (.type "bytes") [.int n] H=J (.bytes (f9 n.toNat 0),H):=
 aY h
theorem Zn{l:dI}(aQ:bH l.length=ae)(r:bh):cH (.type "bytearray") [.bytes l] (ao K)=J (.new K.length,ao (K++[(r,.ba l)])):=by
 show(if bH l.length then J (L.new (ao K).length,ao K++[.ba l]) else ac)=_
 (exact G (aY aQ) (G (nB (r:=r)) (G mo rfl)))
end
end
variable {H:an}{K:dB}{i j:Nat}{r:bh}{o o':bt}{C:cL}{v u:L}
section
variable {S:bh->Bool}{l:List (L×L)}
theorem DZ{ay:Type}[DecidableEq ay]:∀ {l m:List ay},l.Nodup->(∀x∈l,x∈m)->l.length<=m.length
 | [],_,_,_=>hf _
 |x::l,m,hn,h=>by
  have aO:=h x fK;have cO:=DZ (m:=m.erase x) (n4.mp hn).2 λy hy=>(List.mem_erase_of_ne (λz=>(n4.mp hn).1 (by exact cU z hy))).mpr (h y (f8 _ hy))
  exact G sN (XA (List.length_erase_of_mem aO▸cO) (List.length_pos_of_mem aO))
theorem C7(l:List (L×L))(k v fO:L):dV (g9 l k v) fO=if k=fO then J v else dV l fO:=by
 induction l with
 |nil=>rfl
 |cons p l ih=>
  obtain⟨y,u⟩:=p;rw [tv];by_cases h:y=k
  ·refine G (aY h) ?_;subst h;refine G oy (G (oy (v:=u)) ?_);by_cases ak:y=fO
   ·(exact G (aY ak) (G (aY ak) rfl))
   ·(exact G (a8 ak) (G (a8 ak) (G (a8 ak) rfl)))
  ·refine G (a8 h) (G oy (G oy ?_));by_cases ak:y=fO
   ·(exact G (aY ak) (G (aY ak) (G (a8 (λz=>h (ak.trans z.symm))) rfl)))
   ·(exact G (a8 ak) (G (a8 ak) (G ih rfl)))
theorem PV(l:List (L×L))(k v:L):(g9 l k v).map (·.1)=if k∈l.map (·.1) then l.map (·.1) else l.map (·.1)++[k]:=by
 induction l with
 |nil=>rfl
 |cons p l ih=>
  obtain⟨y,u⟩:=p;rw [tv];by_cases h:y=k
  ·exact G (aY h) (G (aY (by rw [h9];exact h▸fK)) rfl)
  ·refine G (a8 h) (G h9 (G ih (G h9 ?_)));have e:(k∈y::l.map (·.1))=(k∈l.map (·.1)):=propext ⟨λz=>(fw.mp z).resolve_left λq=>h q.symm,λz=>f8 _ z⟩
   simp only [e];by_cases ak:k∈l.map (·.1)
   ·(exact G (aY ak) (G (aY ak) rfl))
   ·exact G (a8 ak) (G (a8 ak) rfl)
theorem PS{k:L}(h:k∉l.map (·.1)):dV l k=ac:=by
 induction l with
 |nil=>rfl
 |cons p l ih=>
  refine G oy ?_;rw [h9,fw,not_or] at h;(exact G (a8 (λz=>h.1 z.symm)) (G (ih h.2) rfl))
theorem PN(l:List (L×L))(k:L):(li l k).map (·.1)=(l.map (·.1)).erase k:=by
 induction l with
 |nil=>rfl
 |cons p l ih=>
  obtain⟨y,u⟩:=p;rw [PM];refine G h9 (G List.erase_cons ?_);by_cases h:y=k
  ·(exact G (aY h) (G (aY (by simpa using h)) rfl))
  ·(exact G (a8 h) (G (a8 (by simpa using h)) (G h9 (G ih rfl))))
theorem acl{k fO:L}(hn:(l.map (·.1)).Nodup):dV (li l k) fO=if k=fO then ac else dV l fO:=by
 induction l with
 |nil=>exact(ite_self _).symm
 |cons p l ih=>
  obtain⟨y,u⟩:=p;rw [h9,n4] at hn;rw [PM];by_cases h:y=k
  ·refine G (aY h) ?_;subst h;by_cases ak:y=fO
   ·refine G (aY ak) ?_;subst ak;exact PS hn.1
   ·refine G (a8 ak) (G (oy (v:=u)) ?_);(exact G (a8 ak) rfl)
  ·refine G (a8 h) (G oy (G oy ?_));by_cases ak:y=fO
   ·(exact G (aY ak) (G (aY ak) (G (a8 (λz=>h (ak.trans z.symm))) rfl)))
   ·(exact G (a8 ak) (G (a8 ak) (G (ih hn.2) rfl)))
def Jo:List L:=(nn 22).map λ(n:Nat)=>.int (n:Int)
structure jj(l:List (L×L)):Prop where
 nd:(l.map (·.1)).Nodup
 sub:∀x∈l.map (·.1),x∈Jo
theorem agc{n:Nat}(h:n<22):L.int (n:Int)∈Jo:=hQ.mpr ⟨n,MT.mpr h,rfl⟩
theorem jj.le(h:jj l):l.length<=22:=by
 have :=DZ h.nd h.sub;rwa [d0] at this
theorem jj.fits(h:jj l):bH l.length=ae:=fE (cQ h.le (by decide))
theorem jj.put(h:jj l){n:Nat}(hn:n<22)(v:L):jj (g9 l (.int n) v):=by
 constructor
 ·refine G (PV ..) ?_;split
  ·exact h.nd
  ·rename_i ak;exact F5.mpr ⟨h.nd,by simp,λa ha b hb=>G (jk.mp hb) (λz=>ak (z▸ha))⟩
 ·refine G (PV ..) ?_;split
  ·exact h.sub
  ·exact λx aO=>by
    rcases md.mp aO with aO|aO
    ·exact h.sub x aO
    ·exact G (jk.mp aO) (agc hn)
theorem jj.del(h:jj l)(k:L):jj (li l k):=by
 constructor
 ·exact G (PN ..) (h.nd.erase _)
 ·exact G (PN ..) (λx aO=>h.sub x (List.mem_of_mem_erase aO))
theorem xe{a b:Nat}(h:¬a=b):¬L.int (a:Int)=L.int (b:Int):=λz=>h (by injection z with z;exact Int.ofNat.inj z)
structure g1 where
 (s d c j n row bn la ke tb:Nat)
structure e6 where
 (o dt num:Nat) (data:dI) (ho pi:Int)
structure hq where
 (hits reads cw:Int) (bs:List e6) (bnl:List (L×L)) (held:Option Nat) (pd:List Nat)
structure gj where
 (lal kel:List (L×L)) (un:Nat) (unl:List (Nat×Nat×List UInt8)) (writes flushes:Int) (ns:Nat) (nums:List Nat) (nt:Nat) (ntl:List (L×L)) (calls commits:Int)
abbrev an7:bt:=.inst 192 [(iY,.int 48),(mG,.int 22),(z "inodes",.int 4),(z "log",.int 9),(lA,.int 2),(jc,.int 24),(eO,.int 2),(z "indirect",.int 12),(z "log_start",.int 2),(BM,.int 11),(BL,.int 13),(v7,.int 14)]
abbrev CU(A:g1)(al:hq):bt:=.inst 658 [(dP,.new A.d),(nY,.int 14),(dH,.int 48),(jc,.new A.row),(sC,.new A.bn),(z "hits",.int al.hits),(z "reads",.int al.reads),(eX,.int al.cw)]
abbrev HW(A:g1)(re:gj):bt:=.inst 754 [(mG,.int 22),(dH,.int 48),(z "kept",.new A.ke),(z "latest",.new A.la),(pX,.new re.un),(eX,.int re.writes),(pW,.int re.flushes),(z "last",.none),(yP,.none),(z "is_dead",.bool aA)]
abbrev DK(A:g1)(re:gj):bt:=.inst 865 [(fU,.new A.c),(q7,.int 2),(dH,.int 9),(eC,.int 8),(nY,.int 8),(z "each",.int 4),(e5,.new re.ns),(t0,.new re.nt),(mH,.int re.calls),(sD,.int re.commits)]
abbrev ahV(A:g1):bt:=.inst 441 [(hl,.new A.j),(fU,.new A.c),(hO,.new A.s),(z "table",.new A.tb)]
abbrev wP(b:e6):bt:=.inst 539 [(bS,.int b.num),(gf,.new b.dt),(iZ,.int b.ho),(nc,.int b.pi)]
structure bP(A:g1)(al:hq)(re:gj)(K:dB):Prop where
 z:gW K
 s:K[A.s]? =J (.s,an7)
 n:K[A.n]? =J (.n,ahV A)
 c:K[A.c]? =J (.c,CU A al)
 d:K[A.d]? =J (.d,HW A re)
 j:K[A.j]? =J (.j,DK A re)
 row:K[A.row]? =J (.row,.list (al.bs.map λb=>.new b.o))
 bn:K[A.bn]? =J (.bn,.dict al.bnl)
 la:K[A.la]? =J (.la,.dict re.lal)
 ke:K[A.ke]? =J (.ke,.dict re.kel)
 un:K[re.un]? =J (.un,.list (re.unl.map λt=>.new t.1))
 ut:∀t∈re.unl,K[t.1]? =J (.tp,.tup [.int (t.2.1:Nat),.bytes t.2.2])
 ns:K[re.ns]? =J (.ns,.list (re.nums.map λ(n:Nat)=>.int (n:Int)))
 nt:K[re.nt]? =J (.nt,.dict re.ntl)
 bo:∀b∈al.bs,K[b.o]? =J (.bo b.num,wP b)
 bd:∀b∈al.bs,K[b.dt]? =J (.bd b.num,.ba b.data)
theorem O7{n a b:Nat}(h:a<=b)(e:Cg n b=aA):Cg n a=aA:=by
 rcases aB:Cg n a
 ·rfl
 ·exact b8 (e.symm.trans (Nat.ble_eq_true_of_le (cQ (mQ aB) h)))
noncomputable def fN(r:bh):Bool:=Cg r.1 16
def Fr(S:bh->Bool)(K aX:dB):Prop:=∀(i:Nat) (r:bh) (o:bt),K[i]? =J (r,o)->S r=aA->aX[i]? =J (r,o)
theorem Fr.refl(K:dB):Fr S K K:=λ_ _ _ e _=>e
theorem Fr.trans{K cn dZ:dB}(a:Fr S K cn)(b:Fr S cn dZ):Fr S K dZ:=λi r o e h=>b i r o (a i r o e h) h
theorem Fr.app(K l:dB):Fr S K (K++l):=λ_ _ _ e _=>cf e
theorem Fr.set{K:dB}{i:Nat}{r:bh}{o o':bt}(e:K[i]? =J (r,o))(h:S r=ae):Fr S K (K.set i (r,o')):=λj fR el e2 ak=>aI e e2 λz=>by rw [z,ak] at h;exact b8 h
section
variable {A:g1}{al:hq}{re:gj}
theorem bP.app(S:bP A al re K)(l:dB):bP A al re (K++l):=
 ⟨S.z.app,cf S.s,cf S.n,cf S.c,cf S.d,cf S.j,cf S.row,cf S.bn,cf S.la,cf S.ke,cf S.un,λt h=>cf (S.ut t h),cf S.ns,cf S.nt,λb h=>cf (S.bo b h),λb h=>cf (S.bd b h)⟩
theorem lR{r fR:bh}(h:fN r=aA)(ak:fN fR=ae):¬r=fR:=λz=>by rw [z,ak] at h;exact b8 h.symm
theorem bP.set(S:bP A al re K)(e:K[i]? =J (r,o))(h:fN r=aA):bP A al re (K.set i (r,o')):=
 ⟨S.z.set e (lR h rfl),aI e S.s (lR h rfl),aI e S.n (lR h rfl),aI e S.c (lR h rfl),aI e S.d (lR h rfl),aI e S.j (lR h rfl),aI e S.row (lR h rfl),aI e S.bn (lR h rfl),
  aI e S.la (lR h rfl),aI e S.ke (lR h rfl),aI e S.un (lR h rfl),λt q=>aI e (S.ut t q) (lR h rfl),aI e S.ns (lR h rfl),aI e S.nt (lR h rfl),λb q=>aI e (S.bo b q) (lR h rfl),λb q=>aI e (S.bd b q) (lR h rfl)⟩
theorem bP.setC(S:bP A al re K)(AE Bi cw:Int):bP A {al with hits:=AE,reads:=Bi,cw:=cw} re (K.set A.c (.c,CU A {al with hits:=AE,reads:=Bi,cw:=cw})):=
 ⟨S.z.set S.c (aC rfl),aI S.c S.s (aC rfl),aI S.c S.n (aC rfl),fo S.c,aI S.c S.d (aC rfl),aI S.c S.j (aC rfl),aI S.c S.row (aC rfl),aI S.c S.bn (aC rfl),aI S.c S.la (aC rfl),aI S.c S.ke (aC rfl),aI S.c S.un (aC rfl),λt q=>aI S.c (S.ut t q) (aC rfl),
  aI S.c S.ns (aC rfl),aI S.c S.nt (aC rfl),λb q=>aI S.c (S.bo b q) (aC rfl),λb q=>aI S.c (S.bd b q) (aC rfl)⟩
theorem bP.setD(S:bP A al re K)(h3 Qe:Int):bP A al {re with writes:=h3,flushes:=Qe} (K.set A.d (.d,HW A {re with writes:=h3,flushes:=Qe})):=
 ⟨S.z.set S.d (aC rfl),aI S.d S.s (aC rfl),aI S.d S.n (aC rfl),aI S.d S.c (aC rfl),fo S.d,aI S.d S.j (aC rfl),aI S.d S.row (aC rfl),aI S.d S.bn (aC rfl),aI S.d S.la (aC rfl),aI S.d S.ke (aC rfl),aI S.d S.un (aC rfl),λt q=>aI S.d (S.ut t q) (aC rfl),
  aI S.d S.ns (aC rfl),aI S.d S.nt (aC rfl),λb q=>aI S.d (S.bo b q) (aC rfl),λb q=>aI S.d (S.bd b q) (aC rfl)⟩
theorem bP.setUn(S:bP A al re K){u:Nat}(e:K[u]? =J (.un,.list [])):bP A al {re with un:=u,unl:=[]} (K.set A.d (.d,HW A {re with un:=u,unl:=[]})):=
 ⟨S.z.set S.d (aC rfl),aI S.d S.s (aC rfl),aI S.d S.n (aC rfl),aI S.d S.c (aC rfl),fo S.d,aI S.d S.j (aC rfl),aI S.d S.row (aC rfl),aI S.d S.bn (aC rfl),aI S.d S.la (aC rfl),aI S.d S.ke (aC rfl),aI S.d e (aC rfl),(λ_ h=>absurd h jl),
  aI S.d S.ns (aC rfl),aI S.d S.nt (aC rfl),λb q=>aI S.d (S.bo b q) (aC rfl),λb q=>aI S.d (S.bd b q) (aC rfl)⟩
theorem bP.setJ(S:bP A al re K)(calls C4:Int):bP A al {re with calls:=calls,commits:=C4} (K.set A.j (.j,DK A {re with calls:=calls,commits:=C4})):=
 ⟨S.z.set S.j (aC rfl),aI S.j S.s (aC rfl),aI S.j S.n (aC rfl),aI S.j S.c (aC rfl),aI S.j S.d (aC rfl),fo S.j,aI S.j S.row (aC rfl),aI S.j S.bn (aC rfl),aI S.j S.la (aC rfl),aI S.j S.ke (aC rfl),aI S.j S.un (aC rfl),λt q=>aI S.j (S.ut t q) (aC rfl),
  aI S.j S.ns (aC rfl),aI S.j S.nt (aC rfl),λb q=>aI S.j (S.bo b q) (aC rfl),λb q=>aI S.j (S.bd b q) (aC rfl)⟩
theorem bP.setNs(S:bP A al re K){u:Nat}(e:K[u]? =J (.ns,.list [])):bP A al {re with ns:=u,nums:=[]} (K.set A.j (.j,DK A {re with ns:=u,nums:=[]})):=
 ⟨S.z.set S.j (aC rfl),aI S.j S.s (aC rfl),aI S.j S.n (aC rfl),aI S.j S.c (aC rfl),aI S.j S.d (aC rfl),fo S.j,aI S.j S.row (aC rfl),aI S.j S.bn (aC rfl),aI S.j S.la (aC rfl),aI S.j S.ke (aC rfl),aI S.j S.un (aC rfl),λt q=>aI S.j (S.ut t q) (aC rfl),
  aI S.j e (aC rfl),aI S.j S.nt (aC rfl),λb q=>aI S.j (S.bo b q) (aC rfl),λb q=>aI S.j (S.bd b q) (aC rfl)⟩
theorem bP.setNt(S:bP A al re K){u:Nat}(e:K[u]? =J (.nt,.dict [])):bP A al {re with nt:=u,ntl:=[]} (K.set A.j (.j,DK A {re with nt:=u,ntl:=[]})):=
 ⟨S.z.set S.j (aC rfl),aI S.j S.s (aC rfl),aI S.j S.n (aC rfl),aI S.j S.c (aC rfl),aI S.j S.d (aC rfl),fo S.j,aI S.j S.row (aC rfl),aI S.j S.bn (aC rfl),aI S.j S.la (aC rfl),aI S.j S.ke (aC rfl),aI S.j S.un (aC rfl),λt q=>aI S.j (S.ut t q) (aC rfl),
  aI S.j S.ns (aC rfl),aI S.j e (aC rfl),λb q=>aI S.j (S.bo b q) (aC rfl),λb q=>aI S.j (S.bd b q) (aC rfl)⟩
theorem bP.setRow(S:bP A al re K){bs:List e6}(ai:∀b∈bs,K[b.o]? =J (.bo b.num,wP b))(ak:∀b∈bs,K[b.dt]? =J (.bd b.num,.ba b.data)):bP A {al with bs:=bs} re (K.set A.row (.row,.list (bs.map λb=>.new b.o))):=
 ⟨S.z.set S.row (aC rfl),aI S.row S.s (aC rfl),aI S.row S.n (aC rfl),aI S.row S.c (aC rfl),aI S.row S.d (aC rfl),aI S.row S.j (aC rfl),fo S.row,aI S.row S.bn (aC rfl),aI S.row S.la (aC rfl),aI S.row S.ke (aC rfl),aI S.row S.un (aC rfl),λt q=>aI S.row (S.ut t q) (aC rfl),
  aI S.row S.ns (aC rfl),aI S.row S.nt (aC rfl),λb q=>aI S.row (ai b q) (aC rfl),λb q=>aI S.row (ak b q) (aC rfl)⟩
theorem bP.setBn(S:bP A al re K)(l:List (L×L)):bP A {al with bnl:=l} re (K.set A.bn (.bn,.dict l)):=
 ⟨S.z.set S.bn (aC rfl),aI S.bn S.s (aC rfl),aI S.bn S.n (aC rfl),aI S.bn S.c (aC rfl),aI S.bn S.d (aC rfl),aI S.bn S.j (aC rfl),aI S.bn S.row (aC rfl),fo S.bn,aI S.bn S.la (aC rfl),aI S.bn S.ke (aC rfl),aI S.bn S.un (aC rfl),λt q=>aI S.bn (S.ut t q) (aC rfl),
  aI S.bn S.ns (aC rfl),aI S.bn S.nt (aC rfl),λb q=>aI S.bn (S.bo b q) (aC rfl),λb q=>aI S.bn (S.bd b q) (aC rfl)⟩
theorem bP.setLa(S:bP A al re K)(l:List (L×L)):bP A al {re with lal:=l} (K.set A.la (.la,.dict l)):=
 ⟨S.z.set S.la (aC rfl),aI S.la S.s (aC rfl),aI S.la S.n (aC rfl),aI S.la S.c (aC rfl),aI S.la S.d (aC rfl),aI S.la S.j (aC rfl),aI S.la S.row (aC rfl),aI S.la S.bn (aC rfl),fo S.la,aI S.la S.ke (aC rfl),aI S.la S.un (aC rfl),λt q=>aI S.la (S.ut t q) (aC rfl),
  aI S.la S.ns (aC rfl),aI S.la S.nt (aC rfl),λb q=>aI S.la (S.bo b q) (aC rfl),λb q=>aI S.la (S.bd b q) (aC rfl)⟩
theorem bP.setKe(S:bP A al re K)(l:List (L×L)):bP A al {re with kel:=l} (K.set A.ke (.ke,.dict l)):=
 ⟨S.z.set S.ke (aC rfl),aI S.ke S.s (aC rfl),aI S.ke S.n (aC rfl),aI S.ke S.c (aC rfl),aI S.ke S.d (aC rfl),aI S.ke S.j (aC rfl),aI S.ke S.row (aC rfl),aI S.ke S.bn (aC rfl),aI S.ke S.la (aC rfl),fo S.ke,aI S.ke S.un (aC rfl),λt q=>aI S.ke (S.ut t q) (aC rfl),
  aI S.ke S.ns (aC rfl),aI S.ke S.nt (aC rfl),λb q=>aI S.ke (S.bo b q) (aC rfl),λb q=>aI S.ke (S.bd b q) (aC rfl)⟩
theorem bP.addUn(S:bP A al re K)(t:Nat×Nat×List UInt8)(e:K[t.1]? =J (.tp,.tup [.int (t.2.1:Nat),.bytes t.2.2])):bP A al {re with unl:=re.unl++[t]} (K.set re.un (.un,.list ((re.unl++[t]).map λt=>.new t.1))):=
 ⟨S.z.set S.un (aC rfl),aI S.un S.s (aC rfl),aI S.un S.n (aC rfl),aI S.un S.c (aC rfl),aI S.un S.d (aC rfl),aI S.un S.j (aC rfl),aI S.un S.row (aC rfl),aI S.un S.bn (aC rfl),aI S.un S.la (aC rfl),aI S.un S.ke (aC rfl),fo S.un,
  λvM q=>by
   rcases md.mp q with q|q
   ·exact aI S.un (S.ut vM q) (aC rfl)
   ·refine G (jk.mp q) ?_;exact aI S.un e (aC rfl),
  aI S.un S.ns (aC rfl),aI S.un S.nt (aC rfl),λb q=>aI S.un (S.bo b q) (aC rfl),λb q=>aI S.un (S.bd b q) (aC rfl)⟩
theorem bP.addNs(S:bP A al re K)(n:Nat):bP A al {re with nums:=re.nums++[n]} (K.set re.ns (.ns,.list ((re.nums++[n]).map λ(n:Nat)=>.int (n:Int)))):=
 ⟨S.z.set S.ns (aC rfl),aI S.ns S.s (aC rfl),aI S.ns S.n (aC rfl),aI S.ns S.c (aC rfl),aI S.ns S.d (aC rfl),aI S.ns S.j (aC rfl),aI S.ns S.row (aC rfl),aI S.ns S.bn (aC rfl),aI S.ns S.la (aC rfl),aI S.ns S.ke (aC rfl),aI S.ns S.un (aC rfl),λt q=>aI S.ns (S.ut t q) (aC rfl),
  fo S.ns,aI S.ns S.nt (aC rfl),λb q=>aI S.ns (S.bo b q) (aC rfl),λb q=>aI S.ns (S.bd b q) (aC rfl)⟩
theorem bP.putNt(S:bP A al re K)(l:List (L×L)):bP A al {re with ntl:=l} (K.set re.nt (.nt,.dict l)):=
 ⟨S.z.set S.nt (aC rfl),aI S.nt S.s (aC rfl),aI S.nt S.n (aC rfl),aI S.nt S.c (aC rfl),aI S.nt S.d (aC rfl),aI S.nt S.j (aC rfl),aI S.nt S.row (aC rfl),aI S.nt S.bn (aC rfl),aI S.nt S.la (aC rfl),aI S.nt S.ke (aC rfl),aI S.nt S.un (aC rfl),λt q=>aI S.nt (S.ut t q) (aC rfl),
  aI S.nt S.ns (aC rfl),fo S.nt,λb q=>aI S.nt (S.bo b q) (aC rfl),λb q=>aI S.nt (S.bd b q) (aC rfl)⟩
noncomputable def hB(n:Nat)(f:e6->e6)(bs:List e6):List e6:=bs.map λb=>if b.num=n then f b else b
theorem bP.setBo(S:bP A al re K)(hn:(al.bs.map (·.num)).Nodup){b:e6}(hb:b∈al.bs)(aR SH:Int):bP A {al with bs:=hB b.num (λb=> {b with ho:=aR,pi:=SH}) al.bs} re (K.set b.o (.bo b.num,wP {b with ho:=aR,pi:=SH})):=by
 have e:=S.bo b hb;have key:∀ck∈al.bs,ck.num=b.num->ck=b:=λck av q=>by
  obtain⟨i,hi,rfl⟩:=ux hb;obtain⟨j,cY,rfl⟩:=ux av;have :=(MP (h₀:=by exact G (d0 ..) cY) (h₁:=by exact G (d0 ..) hi) hn (i:=j) (j:=i)).mp (G (zn ..) (G (zn ..) q))
  simp only [this]
 refine⟨S.z.set e (aC rfl),aI e S.s (aC rfl),aI e S.n (aC rfl),aI e S.c (aC rfl),aI e S.d (aC rfl),aI e S.j (aC rfl),?_,aI e S.bn (aC rfl),aI e S.la (aC rfl),aI e S.ke (aC rfl),aI e S.un (aC rfl),λt q=>aI e (S.ut t q) (aC rfl),aI e S.ns (aC rfl),aI e S.nt (aC rfl),λck q=>?_,λck q=>?_⟩
 ·refine G (aI e S.row (aC rfl)) ?_;simp only [hB,B8];congr 4
  funext ck
  simp only [yW];split<;>rfl
 ·refine bT (hQ.mp q) λhH bu alD=>?_;obtain rfl:=alD
  by_cases h:hH.num=b.num
  ·exact G (aY h) (G (key hH bu h) (fo e))
  ·exact G (a8 h) (aI e (S.bo hH bu) λz=>h (congrArg rz z).symm)
 ·refine bT (hQ.mp q) λhH bu alE=>?_;obtain rfl:=alE
  by_cases h:hH.num=b.num
  ·exact G (aY h) (G (key hH bu h) (aI e (S.bd b hb) (aC rfl)))
  ·exact G (a8 h) (aI e (S.bd hH bu) (aC rfl))
theorem bP.setBd(S:bP A al re K)(hn:(al.bs.map (·.num)).Nodup){b:e6}(hb:b∈al.bs)(x:dI):bP A {al with bs:=hB b.num (λb=> {b with data:=x}) al.bs} re (K.set b.dt (.bd b.num,.ba x)):=by
 have e:=S.bd b hb;have key:∀ck∈al.bs,ck.num=b.num->ck=b:=λck av q=>by
  obtain⟨i,hi,rfl⟩:=ux hb;obtain⟨j,cY,rfl⟩:=ux av;have :=(MP (h₀:=by exact G (d0 ..) cY) (h₁:=by exact G (d0 ..) hi) hn (i:=j) (j:=i)).mp (G (zn ..) (G (zn ..) q))
  simp only [this]
 refine⟨S.z.set e (aC rfl),aI e S.s (aC rfl),aI e S.n (aC rfl),aI e S.c (aC rfl),aI e S.d (aC rfl),aI e S.j (aC rfl),?_,aI e S.bn (aC rfl),aI e S.la (aC rfl),aI e S.ke (aC rfl),aI e S.un (aC rfl),λt q=>aI e (S.ut t q) (aC rfl),aI e S.ns (aC rfl),aI e S.nt (aC rfl),λck q=>?_,λck q=>?_⟩
 ·refine G (aI e S.row (aC rfl)) ?_;simp only [hB,B8];congr 4
  funext ck
  simp only [yW];split<;>rfl
 ·refine bT (hQ.mp q) λhH bu alF=>?_;obtain rfl:=alF
  by_cases h:hH.num=b.num
  ·exact G (aY h) (G (key hH bu h) (aI e (S.bo b hb) (aC rfl)))
  ·exact G (a8 h) (aI e (S.bo hH bu) (aC rfl))
 ·refine bT (hQ.mp q) λhH bu alG=>?_;obtain rfl:=alG
  by_cases h:hH.num=b.num
  ·exact G (aY h) (G (key hH bu h) (fo e))
  ·exact G (a8 h) (aI e (S.bd hH bu) λz=>h (congrArg rz z).symm)
end
end
variable {A:g1}{al:hq}{re:gj}
section
variable {f:e6->e6}
noncomputable def jv:List UInt8:=f9 48 0
noncomputable def e0(re:gj)(n:Nat):List UInt8:=match dV re.lal (.int n) with
 |J (.bytes x)=>x
 |_=>jv
noncomputable def gP(n:Nat)(bs:List e6):Option e6:=bs.find? (λb=>b.num==n)
noncomputable def cnt(al:hq)(re:gj)(n:Nat):List UInt8:=match gP n al.bs with
 |J b=>b.data
 |ac=>e0 re n
structure Inv(al:hq)(re:gj):Prop where
 nd:(al.bs.map (·.num)).Nodup
 lt:∀b∈al.bs,b.num<22
 len:∀b∈al.bs,b.data.length=48
 cap:al.bs.length<=14
 bn:∀n:Nat,dV al.bnl (.int n)=(gP n al.bs).map λb=>.new b.o
 bnk:jj al.bnl
 lak:jj re.lal
 kek:jj re.kel
 ntk:jj re.ntl
 lav:∀(n:Nat) (v:L),dV re.lal (.int n)=J v->∃x,v=.bytes x/\x.length=48
 ntv:∀n:Nat,(dV re.ntl (.int n)).isSome=re.nums.contains n
 pdd:al.pd.Nodup
 pd8:al.pd.length<=8
 pdb:∀n∈al.pd,∃b∈al.bs,b.num=n
 pin:∀b∈al.bs,b.pi=if b.num∈al.pd then 1 else 0
 ho:∀b∈al.bs,b.ho=if al.held=J b.num then 1 else 0
 coh:∀b∈al.bs,b.num∉al.pd->al.held≠J b.num->b.data=e0 re b.num
 unb:∀t∈re.unl,t.2.1<22
section
variable {k:b3}{n m:Nat}{b ck:e6}{bs:List e6}
theorem w1(e:gP m bs=J b):b∈bs/\b.num=m:=⟨List.mem_of_find?_eq_some e,by have :=List.find?_some e;simpa using this⟩
theorem Df(e:gP m bs=ac):∀b∈bs,¬b.num=m:=λb hb=>by have :=List.find?_eq_none.mp e b hb;simpa using this
theorem xC(hn:(bs.map (·.num)).Nodup)(hb:b∈bs)(tD:ck∈bs)(q:ck.num=b.num):ck=b:=by
 obtain⟨i,hi,rfl⟩:=ux hb;obtain⟨j,cY,rfl⟩:=ux tD;have :=(MP (h₀:=by exact G (d0 ..) cY) (h₁:=by exact G (d0 ..) hi) hn (i:=j) (j:=i)).mp (G (zn ..) (G (zn ..) q))
 simp only [this]
theorem u6(hn:(bs.map (·.num)).Nodup)(hb:b∈bs):gP b.num bs=J b:=by
 cases e:gP b.num bs with
 |none=>exact absurd rfl (Df e b hb)
 |some ck=>refine cz (w1 e) λai ak=>?_;(exact G (xC hn hb ai ak) rfl)
theorem Ik(h:∀b∈bs,¬b.num=m):gP m bs=ac:=List.find?_eq_none.mpr λb hb=>by simpa using h b hb
theorem HZ(am:Inv al re):(e0 re m).length=48:=by
 unfold e0;cases e:dV re.lal (.int m) with
 |none=>rfl
 |some v=>refine bT (am.lav m v e) λx alH aO=>?_;obtain rfl:=alH;exact aO
theorem C2(am:Inv al re):(cnt al re m).length=48:=by
 unfold cnt;cases e:gP m al.bs with
 |none=>exact HZ am
 |some b=>exact am.len b (w1 e).1
theorem u0(am:Inv al re)(hb:b∈al.bs):cnt al re b.num=b.data:=by unfold cnt;(exact G (u6 am.nd hb) rfl)
noncomputable def kx(n:Nat)(bs:List e6):List e6:=bs.filter λb=>b.num !=n
theorem m2:b∈kx m bs↔b∈bs/\ ¬b.num=m:=by unfold kx;refine fB List.mem_filter ?_;simp
theorem S8(hn:(bs.map (·.num)).Nodup):((kx m bs).map (·.num)).Nodup:=Vd (List.Sublist.map _ List.filter_sublist) hn
theorem H7:∀ {bs:List e6} {p:Nat},(bs.map (·.num)).Nodup->bs[p]? =J b->bs.eraseIdx p=kx b.num bs
 | [],_,_,e=>by simp at e
 |a::bs,0,hn,e=>by
  simp at e;subst e
  rw [h9,n4] at hn;show bs=List.filter _ (a::bs)
  refine G kE (G (a8 (by simp)) ?_)
  exact(Vf.mpr λb hb=>by simpa using λz=>hn.1 (hQ.mpr ⟨b,hb,z⟩)).symm
 |a::bs,p+1,hn,e=>by
  rw [h9,n4] at hn;have cT:bs[p]? =J b:=by simpa using e
  show a::bs.eraseIdx p=List.filter _ (a::bs)
  refine G kE (G (aY (by simpa using λz=>hn.1 (hQ.mpr ⟨b,zr cT,z.symm⟩))) (G (H7 hn.2 cT) ?_))
  rfl
theorem Dg:gP n (kx m bs)=if n=m then ac else gP n bs:=by
 by_cases h:n=m
 ·exact G (aY h) (Ik λb hb=>h▸(m2.mp hb).2)
 ·refine G (a8 h) ?_;unfold gP kx;refine G List.find?_filter ?_;congr 1
  funext b
  by_cases q:b.num=n
  ·simp [q,h]
  ·simp [q]
theorem HD(S:bP A al re K)(h:k .none (ao K)):aw (n+1) 683 [.new A.d] (ao K) k:=YQ (au (aN S.d rfl rfl) h)
theorem QZ{i:Int}{H:an}:cH (.builtin "isinstance") [.int i,(L.st (.type "int"))] H=J (.bool ae,H):=by rfl
theorem Rm{m:Nat}:eo ((0:Int)<=(m:Int))=ae:=decide_eq_true (ht m)
theorem RC(bc:m<22):(!eo ((m:Int)<22))=aA:=G (decide_eq_true (mc.mpr ‹_›)) rfl
theorem Pj(S:bP A al re K)(bc:m<22)(h:k .none (ao K)):aw (n+1) 690 [.new A.d,.int m] (ao K) k:=by
 refine YR (a3 QZ (au rfl (lr rfl (au rfl (jq Rm ?_)))));exact au (aN S.d rfl rfl) (au rfl (lr (RC bc) h))
theorem aa6(S:bP A al re K)(bc:m<22)(h:k .none (ao K)):aw (n+1) 564 [.new A.c,.int m] (ao K) k:=by
 refine YF (a3 QZ (au rfl (lr rfl (au rfl (jq Rm ?_)))));exact au (aN S.c rfl rfl) (au (aN S.d rfl rfl) (au rfl (lr (RC bc) h)))
theorem acB(am:Inv al re):(dV re.lal (.int m)).getD (.bytes (f9 (48:Int).toNat 0))=.bytes (e0 re m):=by
 unfold e0;cases e:dV re.lal (.int m) with
 |none=>rfl
 |some v=>refine bT (am.lav m v e) λx alI _=>?_;obtain rfl:=alI;rfl
theorem HE(S:bP A al re K)(am:Inv al re)(bc:m<22)(h:k (.bytes (e0 re m)) (ao K)):aw (n+2) 697 [.new A.d,.int m] (ao K) k:=by
 refine YS (au (c1 S.d rfl rfl) (HD S (au (c1 S.d rfl rfl) (Pj S bc ?_))));refine au (aN S.d rfl rfl) (au (CW S.la) (au (aN S.d rfl rfl) (a3 (CQ ⟨by decide,by decide⟩) ?_)))
 exact lS (ahD S.la rfl) (G (acB am) (h))
theorem aa1{i:Nat}{r:bh}(e:K[i]? =J (r,wP b))(h:k (.bool (b.ho==0&&b.pi==0)) (ao K)):aw (n+1) 466 [.new i] (ao K) k:=by
 refine YB (au (aN e rfl rfl) (au (a:=b.ho==0) rfl ?_));cases q:b.ho==0
 ·rw [q] at h;exact h
 ·rw [q] at h;exact au (aN e rfl rfl) (au rfl h)
theorem afV{i:Nat}{r:bh}{c:a1}{l:List (Str×L)}(e:K[i]? =J (r,.inst c l)):bW .IsNot (.new i) (.new i) (ao K)=J aA:=by
 show(if qJ (ao K) i&&qJ (ao K) i then J (i==i) else ac).map (!·)=_
 have :qJ (ao K) i=ae:=by unfold qJ;(exact G (d8 e) rfl)
 refine G this ?_;simp
theorem Pa(am:Inv al re)(hb:b∈al.bs):(dV al.bnl (.int b.num)).getD .none=.new b.o:=by(refine G (am.bn ..) ?_;rw [u6 am.nd hb]);rfl
theorem CS(S:bP A al re K)(am:Inv al re)(hb:b∈al.bs)(a6:al.held=J b.num)(h:k .none (ao K)):aw (n+1) 571 [.new A.c,.new b.o] (ao K) k:=by
 refine YG (au (aN S.c rfl rfl) (au (CW S.bn) (au (aN (S.bo b hb) rfl rfl) (lS (JH S.bn rfl) ?_))));refine G (Pa am hb) (au (afV (S.bo b hb)) (lr rfl (au (aN (S.bo b hb) rfl rfl) (au (a:=b.ho==0) rfl (lr ?_ h)))));exact G (am.ho b hb) (G (aY a6) rfl)
theorem Pg(S:bP A al re K)(am:Inv al re)(hb:b∈al.bs)(h:k (.bytes b.data) (ao K)):aw (n+1) 473 [.new b.o] (ao K) k:=
 YC (au (aN (S.bo b hb) rfl rfl) (a3 (Pc (S.bd b hb) (G (am.len b hb) rfl)) h))
theorem TP(aq:∀b,(f b).num=b.num):(hB m f bs).map (·.num)=bs.map (·.num):=by
 unfold hB;refine G B8 ?_;congr 1;funext b;simp only [yW];split;exact aq b;rfl
theorem q1{x:e6}(h:x∈hB m f bs):∃b∈bs,x=if b.num=m then f b else b:=bT (hQ.mp h) λb ai ak=>⟨b,ai,ak.symm⟩
theorem ER(aq:∀b,(f b).num=b.num):gP n (hB m f bs)=(gP n bs).map λb=>if b.num=m then f b else b:=by
 unfold gP hB;refine G List.find?_map ?_;congr 2
 funext b
 simp only [yW];split
 ·(exact G (aq b) rfl)
 ·rfl
theorem Inv.turn(am:Inv al re){f:e6->e6}(aq:∀b,(f b).num=b.num)(bA:∀b,(f b).data=b.data/\(f b).o=b.o){held:Option Nat}{pd:List Nat}{re':gj}(c9:∀x,e0 re' x=e0 re x)
  (d1:jj re'.lal) (g2:jj re'.kel) (hx:jj re'.ntl) (u9:∀(n:Nat) (v:L),dV re'.lal (.int n)=J v->∃x,v=.bytes x/\x.length=48) (qA:∀n:Nat,(dV re'.ntl (.int n)).isSome=re'.nums.contains n) (At:∀t∈re'.unl,t.2.1<22)
  (p1:pd.Nodup) (p2:pd.length<=8) (ka:∀n∈pd,∃b∈al.bs,b.num=n)
  (aM:∀b∈al.bs,(if b.num=m then f b else b).pi=if b.num∈pd then 1 else 0) (a7:∀b∈al.bs,(if b.num=m then f b else b).ho=if held=J b.num then 1 else 0)
  (q3:∀b∈al.bs,b.num∉pd->held≠J b.num->b.data=e0 re b.num):Inv {al with bs:=hB m f al.bs,held:=held,pd:=pd} re':=by
 have N:∀b:e6,(if b.num=m then f b else b).num=b.num:=λb=>by split;exact aq b;rfl
 have D:∀b:e6,(if b.num=m then f b else b).data=b.data:=λb=>by split;exact(bA b).1;rfl
 refine⟨by refine G (TP aq) ?_;exact am.nd,?_,?_,by unfold hB;refine G (d0 ..) ?_;exact am.cap,λx=>?_,am.bnk,d1,g2,hx,u9,qA,p1,p2,?_,?_,?_,?_,At⟩
 ·rintro x aO;refine bT (q1 aO) λb hb alJ=>?_;obtain rfl:=alJ;refine G (N ..) ?_;exact am.lt b hb
 ·rintro x aO;refine bT (q1 aO) λb hb alK=>?_;obtain rfl:=alK;exact G (D ..) (am.len b hb)
 ·refine G (ER aq) (G (am.bn ..) (G (Option.map_map ..) ?_));congr 1;funext b;simp only [yW];split
  ·(exact G ((bA b).2) rfl)
  ·rfl
 ·rintro x aO;refine bT (ka x aO) λb hb e=>?_;exact⟨_,rr hb,G (N ..) e⟩
 ·rintro x aO;refine bT (q1 aO) λb hb alL=>?_;obtain rfl:=alL;exact G (N ..) (aM b hb)
 ·rintro x aO;refine bT (q1 aO) λb hb alM=>?_;obtain rfl:=alM;exact G (N ..) (a7 b hb)
 ·rintro x aO;refine bT (q1 aO) λb hb alN=>?_;obtain rfl:=alN;exact G (N ..) (G (D ..) (G (c9 ..) (q3 b hb)))
theorem C3(aq:∀b,(f b).num=b.num)(bA:∀b,(f b).data=b.data){held:Option Nat}{pd:List Nat}{re':gj}(c9:∀x,e0 re' x=e0 re x)(x:Nat):cnt {al with bs:=hB m f al.bs,held:=held,pd:=pd} re' x=cnt al re x:=by
 unfold cnt;simp only [ER aq,c9];cases gP x al.bs with
 |none=>rfl
 |some b=>simp only [Cn];split;exact bA b;rfl
end
end
variable {n m:Nat}{b ck:e6}{bs:List e6}
section
variable {l:List L}{p:Nat}
section
variable {k:b3}
theorem acm{l:List (L×L)}(fk:gW K)(e:K[i]? =J (r,.dict l))(h:¬r=.scr)(ai:fX u=ae)(ak:bH l.length=ae)(aZ:(dV l u).isSome=ae):pt (.new i) u (ao K)=J (ao (K.set i (r,.dict (li l u)))):=by
 unfold pt;simp only [d8 e,ai,ak,aZ,Mw,if_true,q4 fk e h]
theorem acn{q:Nat}(fk:gW K)(e:K[i]? =J (r,.list l))(h:¬r=.scr)(ak:bH l.length=ae)(aZ:q<l.length):pt (.new i) (.int q) (ao K)=J (ao (K.set i (r,.list (l.eraseIdx q)))):=by
 unfold pt;simp only [d8 e];exact G (aY ⟨ak,ht _,mc.mpr ‹_›⟩) (q4 fk e h)
theorem vH{l:List (L×L)}(fk:gW K)(e:K[i]? =J (r,.dict l))(h:¬r=.scr)(ai:fX u=ae)(ak:bH l.length=ae):fS (.new i) (.at_ u) v (ao K)=J (ao (K.set i (r,.dict (g9 l u v)))):=by
 unfold fS;simp only [d8 e,ai,ak,Mw,if_true,q4 fk e h]
theorem D9(am:Inv al re){ay:Type}{f:e6->ay}:bH (al.bs.map f).length=ae:=G (d0 ..) (fE (cQ am.cap (by decide)))
theorem Inv.rm(am:Inv al re)(hb:b∈al.bs)(ai:b.num∉al.pd)(ak:al.held≠J b.num):Inv {al with bs:=kx b.num al.bs,bnl:=li al.bnl (.int b.num)} re/\(∀x,cnt {al with bs:=kx b.num al.bs,bnl:=li al.bnl (.int b.num)} re x=cnt al re x)/\(kx b.num al.bs).length<al.bs.length:=by
 refine⟨⟨S8 am.nd,λx aO=>am.lt x (m2.mp aO).1,λx aO=>am.len x (m2.mp aO).1,cQ (F2 _ _) am.cap,λx=>?_,am.bnk.del _,am.lak,am.kek,am.ntk,am.lav,am.ntv,am.pdd,am.pd8,λx aO=>?_,
  λx aO=>am.pin x (m2.mp aO).1,λx aO=>am.ho x (m2.mp aO).1,λx aO=>am.coh x (m2.mp aO).1,am.unb⟩,λx=>?_,?_⟩
 ·refine G (acl am.bnk.nd) (G Dg ?_);by_cases q:x=b.num
  ·subst q;exact G (aY rfl) (G (aY rfl) rfl)
  ·(exact G ((a8 (xe λz=>q z.symm)) ..) (G (a8 q) (G (am.bn ..) rfl)))
 ·exact bT (am.pdb x aO) λy hy e=>⟨y,m2.mpr ⟨hy,λz=>ai (z▸e▸aO)⟩,e⟩
 ·unfold cnt;simp only [Dg];by_cases q:x=b.num
  ·subst q;exact G (aY rfl) (G (u6 am.nd hb) ((am.coh b hb ai ak).symm))
  ·(exact G (a8 q) rfl)
 ·refine Ci (F2 _ _) λz=>?_
  have :=Vh.mp z b hb;simp at this
theorem JI{ay bF:Type}(f:ay->bF):∀ {l:List ay} {p:Nat},(l.map f).eraseIdx p=(l.eraseIdx p).map f
 | [],_=>rfl
 |_::_,0=>rfl
 |_::l,p+1=>congrArg _ (JI f (l:=l) (p:=p))
noncomputable def Aq(b:e6):Bool:=b.ho==0&&b.pi==0
theorem aoA(am:Inv al re)(a6:al.held=ac)(aD:9<=al.bs.length):∃(p:Nat) (b:e6),al.bs[p]? =J b/\Aq b=ae:=by
 have :∃b∈al.bs,b.num∉al.pd:=by
  refine Uu λh=>?_
  have av:∀x∈al.bs.map (·.num),x∈al.pd:=λx aO=>by
   refine bT (hQ.mp aO) λb hb alO=>?_;obtain rfl:=alO
   exact Uu λz=>h ⟨b,hb,z⟩
  have :=DZ am.nd av;rw [d0] at this;have :=am.pd8;lia
 refine bT this λb hb hp=>?_
 obtain⟨p,iR,rfl⟩:=ux hb;refine⟨p,_,iy iR,?_⟩;unfold Aq;exact G (am.ho _ hb) (G (am.pin _ hb) (G (a8 hp) (G a6 (G (a8 (by nofun)) rfl))))
theorem Zs{a:L}:eu ru BN (.pair u v) [(bQ,a)] H=J [(bQ,a),(dQ,u),(oY,v)]:=by kernel_rfl
theorem Zt{a ef aJ:L}:eu ru BN (.pair u v) [(bQ,a),(dQ,ef),(oY,aJ)] H=J [(bQ,a),(dQ,u),(oY,v)]:=by kernel_rfl
theorem iQ{ax:ds}{t:aU}{body:Loc->an->(jw->Loc->an->Prop)->Prop}{s:kI}{f:Nat}{mm mm':Loc}{q:ez}{it:n3}(e1:itemAt s p H=J (J it))(e2:eu ax t it mm H=J mm')
  (h:body mm' H λdn m H=>match dn with
   | .next| .cont=>gR False ax t body s f (p+1) m H q
   | .brk=>q .next m H
   | .ret v=>q (.ret v) m H):gR False ax t body s (f+1) p mm H q:=by
 show(match itemAt s p H with |ac=>False|J ac=>q .next mm H|J (J it)=>match eu ax t it mm H with |ac=>False|J m=>body m H λdn m H=>match dn with
  | .next| .cont=>gR False ax t body s f (p+1) m H q
  | .brk=>q .next m H
  | .ret v=>q (.ret v) m H)
 refine G e1 ?_;dsimp only;exact G e2 h
theorem mr{ax:ds}{t:aU}{body:Loc->an->(jw->Loc->an->Prop)->Prop}{s:kI}{f:Nat}{mm:Loc}{q:ez}(e1:itemAt s p H=J ac)(h:q .next mm H):gR False ax t body s (f+1) p mm H q:=by
 show(match itemAt s p H with |ac=>False|J ac=>q .next mm H|J (J it)=>match eu ax t it mm H with |ac=>False|J m=>body m H λdn m H=>match dn with
  | .next| .cont=>gR False ax t body s f (p+1) m H q
  | .brk=>q .next m H
  | .ret v=>q (.ret v) m H)
 exact G e1 h
theorem vp(e:K[i]? =J (r,.list l))(e2:l[p]? =J v):itemAt (.enum i) p (ao K)=J (J (.pair (.int p) v)):=by
 unfold itemAt;simp only [d8 e,e2,Cn]
theorem nF(e:K[i]? =J (r,.list l))(e2:l[p]? =J v):itemAt (.lst i) p (ao K)=J (J (.one v)):=by
 unfold itemAt;simp only [d8 e,e2,Cn]
theorem Jg(e:K[i]? =J (r,.list l))(e2:l.length<=p):itemAt (.enum i) p (ao K)=J ac:=by
 unfold itemAt;simp only [d8 e,mP e2,Option.map_none]
theorem qL(e:K[i]? =J (r,.list l))(e2:l.length<=p):itemAt (.lst i) p (ao K)=J ac:=by
 unfold itemAt;simp only [d8 e,mP e2,Option.map_none]
abbrev N3(A:g1)(al:hq)(re:gj)(K:dB)(k:b3):Prop:=∀bJ aX,bP A bJ re aX->Inv bJ re->bJ.held=ac->bJ.pd=al.pd->bJ.bs.length<14->(∀x,cnt bJ re x=cnt al re x)->(∀x,gP x al.bs=ac->gP x bJ.bs=ac)->Fr fN K aX->k .none (ao aX)
theorem ahQ(S:bP A al re K)(am:Inv al re)(a6:al.held=ac)(h:N3 A al re K k):∀(f p:Nat) (mm:Loc),(mm=[(bQ,.new A.c)]\/ ∃u v,mm=[(bQ,.new A.c),(dQ,u),(oY,v)])->(∃(q:Nat) (b:e6),p<=q/\q<p+f/\al.bs[q]? =J b/\Aq b=ae)->
    gR False ru BN (λm H q=>b1 False (aw (n+1)) (eh (bw (aW (aL 26 4)) 1)) ru m H q) (.enum A.row) f p mm (ao K) (ed (aw (n+1)) ((aW (aL 26 4)).drop 2) ru (dM k))
 :=by
  intro f;induction f with
  |zero=>
   exact λp mm _ z=>by
    obtain⟨q,b,ai,ak,_⟩:=z;lia
  |succ f ih=>
   exact λp mm bc eH=>by
    refine tY eH λq b ai ak aZ cC=>?_
    have lP:p<al.bs.length:=eI ai (kF.mp aZ).1;have hp:al.bs[p]? =J al.bs[p]:=iy lP;have hb:al.bs[p]∈al.bs:=zo lP;have aQ:(al.bs.map λb=>L.new b.o)[p]? =J (.new al.bs[p].o):=G kY (G hp rfl)
    refine iQ (vp S.row aQ) (mm':=[(bQ,.new A.c),(dQ,.int p),(oY,.new al.bs[p].o)]) ?_ ?_
    ·rcases bc with rfl|⟨u,v,rfl⟩
     ·exact Zs
     ·exact Zt
    refine aqB (au (c1 (S.bo _ hb) rfl rfl) (aa1 (S.bo _ hb) (au rfl ?_)));cases aq:Aq al.bs[p]
    ·refine g7 aq (ih (p+1) _ (.inr ⟨_,_,rfl⟩) ⟨q,b,?_,rO ak,aZ,cC⟩);rcases Nat.eq_or_lt_of_le ai with z|z
     ·subst z;rw [hp] at aZ;obtain rfl:=ci aZ;rw [aq] at cC;exact b8 cC
     ·exact z
    ·refine jq aq ?_;have n1:al.bs[p].num∉al.pd:=λz=>by
      unfold Aq at aq;rw [am.pin _ hb,aY z,he] at aq;cases aq.2
     have n2:al.held≠J al.bs[p].num:=by refine G a6 ?_;nofun
     refine dS (am.rm hb n1 n2) λkD aD xc=>au (aN S.c rfl rfl) (au (aN (S.bo _ hb) rfl rfl) (au (acm S.z S.bn (aC rfl) rfl am.bnk.fits (G (am.bn ..) (G (u6 am.nd hb ..) rfl))) ?_))
     have b6:=S.setBn (li al.bnl (.int al.bs[p].num));refine au (aN b6.c rfl rfl) (au (acn b6.z b6.row (aC rfl) (D9 am) (G (d0 ..) lP)) ?_);have e1:(al.bs.map λb=>L.new b.o).eraseIdx p=(kx al.bs[p].num al.bs).map λb=>L.new b.o:=by(exact G (JI ..) (G (H7 am.nd hp ..) rfl))
     have cc:=b6.setRow (bs:=kx al.bs[p].num al.bs) (λb hb=>b6.bo b (m2.mp hb).1) (λb hb=>b6.bd b (m2.mp hb).1)
     rw [<-e1] at cc;exact h _ _ cc kD a6 rfl (eE xc am.cap) aD (λx q=>by refine G Dg ?_;split;rfl;exact q) ((Fr.set S.bn rfl).trans (Fr.set b6.row rfl))
theorem aa8(S:bP A al re K)(am:Inv al re)(a6:al.held=ac)(h:N3 A al re K k):aw (n+2) 585 [.new A.c] (ao K) k:=by
 refine YI (au (aN S.c rfl rfl) (a3 (pD S.row (D9 am)) (au (aN S.c rfl rfl) (au rfl ?_))));refine G (d0 ..) ?_;by_cases q:al.bs.length<14
 ·refine jq (decide_eq_true (mc.mpr ‹_›)) (h al K S am a6 rfl q (λ_=>rfl) (λ_ x=>x) (.refl K))
 ·refine g7 (decide_eq_false (by lia)) (au (aN S.c rfl rfl) (pG S.row ?_))
  refine mF (aoA am a6 (by lia)) λp b ai ak=>?_
  exact ahQ S am a6 h 1000 0 _ (.inl rfl) ⟨p,b,hf _,by have :=(kF.mp ai).1;have :=am.cap;lia,ai,ak⟩
end
end
variable {l:List L}{p:Nat}
section
variable {k:b3}
theorem mU{a c:Int}{p:Option (L×an)}{v:L}{H:an}(e:p=J (v,H))(h:k v H):kp (.int a) (.int c) p k:=by subst e;exact h
theorem bP.gh(S:bP A al re K)(held:Option Nat)(pd:List Nat):bP A {al with held:=held,pd:=pd} re K:=
 ⟨S.z,S.s,S.n,S.c,S.d,S.j,S.row,S.bn,S.la,S.ke,S.un,S.ut,S.ns,S.nt,S.bo,S.bd⟩
theorem bP.frame{aX:dB}(S:bP A al re K)(h:∀(j:Nat) (fR:bh) (o:bt),K[j]? =J (fR,o)->¬fR=.bo m->aX[j]? =J (fR,o))(bc:∀b∈al.bs,¬b.num=m):bP A al re aX:=
 ⟨cm S.z λo z=>⟨o,h _ _ _ z (aC rfl)⟩,h _ _ _ S.s (aC rfl),h _ _ _ S.n (aC rfl),h _ _ _ S.c (aC rfl),h _ _ _ S.d (aC rfl),h _ _ _ S.j (aC rfl),h _ _ _ S.row (aC rfl),h _ _ _ S.bn (aC rfl),h _ _ _ S.la (aC rfl),h _ _ _ S.ke (aC rfl),h _ _ _ S.un (aC rfl),λt q=>h _ _ _ (S.ut t q) (aC rfl),
  h _ _ _ S.ns (aC rfl),h _ _ _ S.nt (aC rfl),λb q=>h _ _ _ (S.bo b q) λz=>bc b q (congrArg rz z),λb q=>h _ _ _ (S.bd b q) (aC rfl)⟩
theorem aaZ{x:dI}(fk:gW K)(e:K[i]? =J (.bo m,.inst 539 []))(aO:x.length=48)
  (h:∀aX,aX[i]? =J (.bo m,wP ⟨i,K.length,m,x,0,0⟩)->aX[K.length]? =J (.bd m,.ba x)->(∀(j:Nat) (fR:bh) (o:bt),K[j]? =J (fR,o)->¬fR=.bo m->aX[j]? =J (fR,o))->k .none (ao aX)):aw (n+1) 459 [.new i,.int m,.bytes x] (ao K) k:=by
 refine YA (au (iV (l':=[(bS,.int m)]) fk e (aC rfl) rfl rfl) (a3 (Zn (G aO rfl) (.bd m)) ?_));refine G zp ?_;have e1:=cf (fo (o:=.inst 539 [(bS,.int m)]) e) (l:=[(.bd m,.ba x)]);have uL:=(fk.set (o:=.inst 539 [(bS,.int m)]) e (aC rfl)).app (l:=[(.bd m,.ba x)]);refine au (iV (l':=[(bS,.int m),(gf,.new K.length)]) uL e1 (aC rfl) rfl rfl) (au (iV (l':=[(bS,.int m),(gf,.new K.length),(iZ,.int 0)]) (uL.set e1 (aC rfl)) (fo e1) (aC rfl) rfl rfl) (au (iV (l':=[(bS,.int m),(gf,.new K.length),(iZ,.int 0),(nc,.int 0)]) ((uL.set e1 (aC rfl)).set (fo e1) (aC rfl)) (fo (fo e1)) (aC rfl) rfl rfl) (h _ ?_ ?_ ?_)))
 ·have :=fo (o:=wP ⟨i,K.length,m,x,0,0⟩) (fo (o:=.inst 539 [(bS,.int m),(gf,.new K.length),(iZ,.int 0)]) (fo (o:=.inst 539 [(bS,.int m),(gf,.new K.length)]) e1));simpa only [zp] using this
 ·have e2:(K.set i (.bo m,.inst 539 [(bS,.int m)])++[(.bd m,.ba x)])[K.length]? =J (.bd m,.ba x):=by
   have :=c2 (K:=K.set i (.bo m,.inst 539 [(bS,.int m)])) (r:=.bd m) (o:=.ba x);rwa [zp] at this
  exact aI (fo (fo e1)) (aI (fo e1) (aI e1 e2 (aC rfl)) (aC rfl)) nofun
 ·intro j fR o aM a7;have q3:¬bh.bo m=fR:=λz=>a7 z.symm
  exact aI (fo (fo e1)) (aI (fo e1) (aI e1 (cf (aI e aM q3)) q3) q3) q3
theorem Inv.add(am:Inv al re)(Iw:al.bs.length<14)(bc:m<22)(aq:gP m al.bs=ac)(a6:al.held=ac){o dt:Nat}:
  Inv {al with bs:=al.bs++[⟨o,dt,m,e0 re m,0,0⟩],bnl:=g9 al.bnl (.int m) (.new o)} re/\∀x,cnt {al with bs:=al.bs++[⟨o,dt,m,e0 re m,0,0⟩],bnl:=g9 al.bnl (.int m) (.new o)} re x=cnt al re x:=by
 have Am:∀x,gP x (al.bs++[⟨o,dt,m,e0 re m,0,0⟩])=if x=m then J ⟨o,dt,m,e0 re m,0,0⟩ else gP x al.bs:=λx=>by
  unfold gP;refine G List.find?_append ?_;by_cases q:x=m
  ·subst q;refine G (aY rfl) ?_;have :al.bs.find? (λb=>b.num==x)=ac:=aq
   refine G this ?_;simp
  ·refine G (a8 q) ?_;have :([⟨o,dt,m,e0 re m,0,0⟩]:List e6).find? (λb=>b.num==x)=ac:=by simp;exact λz=>q z.symm
   (exact G this (G Option.or_none rfl))
 have JQ:m∉al.pd:=λz=>by refine bT (am.pdb m z) λb hb e=>?_;exact Df aq b hb e
 have pJ:∀(P:e6->Prop),(∀b∈al.bs,P b)->P ⟨o,dt,m,e0 re m,0,0⟩->∀b∈al.bs++[⟨o,dt,m,e0 re m,0,0⟩],P b:=λP ai ak b hb=>by
  rcases md.mp hb with hb|hb
  ·exact ai b hb
  ·exact G (jk.mp hb) ak
 refine⟨⟨?_,pJ _ am.lt bc,pJ _ am.len (HZ am),?_,λx=>?_,am.bnk.put bc _,am.lak,am.kek,am.ntk,am.lav,am.ntv,am.pdd,am.pd8,λx aO=>?_,pJ _ am.pin ?_,pJ _ am.ho ?_,pJ _ am.coh λ_ _=>rfl,am.unb⟩,λx=>?_⟩
 ·refine G p7 (F5.mpr ⟨am.nd,by simp,λa ha c aD z=>?_⟩)
  refine bT (hQ.mp ha) λb hb alR=>?_;obtain rfl:=alR
  have :c=m:=by simpa using aD
  exact Df aq b hb (z.trans this)
 ·exact G iz Iw
 ·refine G (C7 ..) (G (Am ..) ?_);by_cases q:x=m
  ·subst q;exact G (aY rfl) (G (aY rfl) rfl)
  ·(exact G ((a8 (xe λz=>q z.symm)) ..) (G (a8 q) (G (am.bn ..) rfl)))
 ·refine bT (am.pdb x aO) λb hb e=>?_;exact⟨b,B9 _ hb,e⟩
 ·show(0:Int)=if m∈al.pd then 1 else 0
  (exact G (a8 JQ) rfl)
 ·show(0:Int)=if al.held=J m then 1 else 0
  (exact G a6 (G (a8 nofun) rfl))
 ·unfold cnt;simp only [Am];by_cases q:x=m
  ·subst q;(exact G (aY rfl) (G aq rfl))
  ·(exact G (a8 q) rfl)
theorem Inv.hold(am:Inv al re)(a6:al.held=ac)(hb:b∈al.bs)(AE Bi cw:Int):
  Inv {al with bs:=hB b.num (λck=> {ck with ho:=1,pi:=b.pi}) al.bs,held:=J b.num,hits:=AE,reads:=Bi,cw:=cw} re/\∀x,cnt {al with bs:=hB b.num (λck=> {ck with ho:=1,pi:=b.pi}) al.bs,held:=J b.num,hits:=AE,reads:=Bi,cw:=cw} re x=cnt al re x:=by
 have X:=am.turn (m:=b.num) (f:=λck=> {ck with ho:=1,pi:=b.pi}) (held:=J b.num) (pd:=al.pd) (re':=re) (λ_=>rfl) (λ_=>⟨rfl,rfl⟩) (λ_=>rfl) am.lak am.kek am.ntk am.lav am.ntv am.unb am.pdd am.pd8 am.pdb ?_ ?_ ?_
 ·exact⟨⟨X.nd,X.lt,X.len,X.cap,X.bn,X.bnk,X.lak,X.kek,X.ntk,X.lav,X.ntv,X.pdd,X.pd8,X.pdb,X.pin,X.ho,X.coh,X.unb⟩,λx=>C3 (f:=λck=> {ck with ho:=1,pi:=b.pi}) (re':=re) (λ_=>rfl) (λ_=>rfl) (λ_=>rfl) x (held:=J b.num) (pd:=al.pd)⟩
 ·intro c aD;split
  ·rename_i q;exact G (xC am.nd hb aD q) (am.pin b hb)
  ·exact am.pin c aD
 ·intro c aD;by_cases q:c.num=b.num
  ·(exact G (aY q) (G (aY (by rw [q])) rfl))
  ·(exact G (a8 q) (G (a8 (λz=>q (by injection z with z;exact z.symm))) (G (am.ho c aD) (G a6 (G (a8 nofun) rfl)))))
 ·exact λc aD ai _=>am.coh c aD ai (by refine G a6 ?_;nofun)
abbrev Uz(A:g1)(al:hq)(re:gj)(K:dB)(m:Nat)(k:b3):Prop:=∀bJ aX b,bP A bJ re aX->Inv bJ re->bJ.held=J m->bJ.pd=al.pd->b∈bJ.bs->b.num=m->(∀x,cnt bJ re x=cnt al re x)->Fr fN K aX->k (.new b.o) (ao aX)
theorem adT{aX:dB}(h:∀(j:Nat) (fR:bh) (o:bt),K[j]? =J (fR,o)->¬fR=.bo m->aX[j]? =J (fR,o)):Fr fN K aX:=λi r o e c9=>h i r o e λz=>by rw [z] at c9;exact b8 c9.symm
theorem uW(S:bP A al re K)(am:Inv al re)(a6:al.held=ac)(bc:m<22)(h:Uz A al re K m k):aw (n+3) 578 [.new A.c,.int m] (ao K) k:=by
 refine YH (au (c1 S.c rfl rfl) (aa6 S bc (au (aN S.c rfl rfl) (au (CW S.bn) (lS (JH S.bn rfl) ?_)))));refine G (am.bn ..) ?_;cases aq:gP m al.bs with
 |some b=>
  refine cz (w1 aq) λhb alS=>?_;obtain rfl:=alS
  have lt:=A1 (S.bo b hb);refine au (a:=aA) (by show(if b.o<(ao K).length then J aA else ac)=_;(exact G mo (G ((aY lt) ..) rfl))) (g7 rfl ?_)
  refine au (aN S.c rfl rfl) (mU rfl (au (iV S.z S.c (aC rfl) rfl rfl) ?_));have b6:=S.setC (al.hits+1) al.reads al.cw;refine au (aN (b6.bo b hb) rfl rfl) (mU rfl (au (iV b6.z (b6.bo b hb) nofun rfl rfl) ?_))
  have cc:=(b6.setBo am.nd hb 1 b.pi).gh (J b.num) al.pd;refine cz (am.hold a6 hb (al.hits+1) al.reads al.cw) λeY aD=>?_
  have e1:b.ho+1=1:=G (am.ho b hb) (G a6 (G (a8 nofun) rfl))
  exact G (e1 ..) (h _ _ {b with ho:=1,pi:=b.pi} cc eY rfl rfl (hQ.mpr ⟨b,hb,aY rfl⟩) rfl aD ((Fr.set S.c rfl).trans (Fr.set (b6.bo b hb) rfl)))
 |none=>
  refine au (a:=ae) rfl (jq rfl ?_);refine au (c1 S.c rfl rfl) (aa8 S am a6 λeK cn b6 d7 ai ak aZ cC gl dJ=>?_)
  refine au (aN b6.c rfl rfl) (au (c1 b6.d rfl rfl) (HE b6 d7 bc ?_));have QB:=gl m aq;show aw (n+2) 459 [.new (ao cn).length,.int m,.bytes (e0 re m)] (ao cn++[.inst 539 []]) _
  refine G mo (G (nB (r:=.bo m)) ?_);refine aaZ b6.z.app c2 (HZ d7) λdZ e1 e2 fH=>?_
  have Uv:=adT (K:=cn++[(.bo m,.inst 539 [])]) fH;have cc:=(b6.app [(.bo m,.inst 539 [])]).frame fH (Df QB);refine au (aN cc.c rfl rfl) (mU rfl (au (iV cc.z cc.c (aC rfl) rfl rfl) ?_));have eb:=cc.setC eK.hits (eK.reads+1) eK.cw;refine au (aN eb.c rfl rfl) (au (vH eb.z eb.bn (aC rfl) rfl d7.bnk.fits) ?_);have gV:=eb.setBn (g9 eK.bnl (.int m) (.new cn.length));refine au (aN gV.c rfl rfl) (au (qt gV.row) (lS (tN gV.z gV.row (aC rfl) (D9 d7)) ?_));have aQ:(cn++[(bh.bo m,bt.inst 539 [])]).length=cn.length+1:=by simp
  rw [aQ] at e1 e2;have ch:=aI eb.bn (aI cc.c e1 (aC rfl):(dZ.set A.c (.c,CU A {eK with hits:=eK.hits,reads:=eK.reads+1,cw:=eK.cw}))[cn.length]? =_) (aC rfl) (o:=.dict (g9 eK.bnl (.int m) (.new cn.length)))
  have cd:=aI eb.bn (aI cc.c e2 (aC rfl):(dZ.set A.c (.c,CU A {eK with hits:=eK.hits,reads:=eK.reads+1,cw:=eK.cw}))[cn.length+1]? =_) (aC rfl) (o:=.dict (g9 eK.bnl (.int m) (.new cn.length)))
  have lb:=gV.setRow (bs:=eK.bs++[⟨cn.length,cn.length+1,m,e0 re m,0,0⟩])
   (λb hb=>by rcases md.mp hb with hb|hb;exact gV.bo b hb;exact G (jk.mp hb) ch)
   (λb hb=>by rcases md.mp hb with hb|hb;exact gV.bd b hb;exact G (jk.mp hb) cd)
  rw [p7] at lb;refine cz (d7.add (o:=cn.length) (dt:=cn.length+1) aZ bc QB ai) λjy aeH=>?_
  have hb:(⟨cn.length,cn.length+1,m,e0 re m,0,0⟩:e6)∈eK.bs++[⟨cn.length,cn.length+1,m,e0 re m,0,0⟩]:=Ca _ fK;refine au (aN (lb.bo _ hb) rfl rfl) (mU rfl (au (iV lb.z (lb.bo _ hb) (aC rfl) rfl rfl) ?_));refine cz (jy.hold ai hb eK.hits (eK.reads+1) eK.cw) λU2 aeI=>?_
  have ol:=(lb.setBo jy.nd hb 1 0).gh (J m) eK.pd;exact h _ _ ⟨cn.length,cn.length+1,m,e0 re m,1,0⟩ ol U2 rfl ak (hQ.mpr ⟨_,hb,aY rfl⟩) rfl (λx=>(aeI x).trans ((aeH x).trans (cC x)))
   ((dJ.trans (Fr.app _ _)).trans (Uv.trans ((Fr.set cc.c rfl).trans ((Fr.set eb.bn rfl).trans ((Fr.set gV.row rfl).trans (Fr.set (lb.bo _ hb) rfl))))))
end
section
variable {k:b3}
theorem Qc{v:L}:∀ {l:List L},v∈l->∃q,ty v l=J q/\l[q]? =J v
 |x::l,h=>by
  by_cases e:x=v
  ·exact⟨0,by refine G Ie ?_;(exact G (aY e) rfl),by simp [e]⟩
  ·exact bT (Qc ((fw.mp h).resolve_left λz=>e z.symm)) λq ai ak=>⟨q+1,G Ie (G (a8 e) (G ai rfl)),by simpa using ak⟩
theorem XY(S:bP A al re K):(al.bs.map λb=>L.new b.o).all (oD (ao K))=ae:=by
 refine G List.all_map (fB i3 ?_);intro b hb;show oD (ao K) (.new b.o)=ae
 unfold oD;simp only [d8 (S.bo b hb)];rfl
theorem Inv.last(am:Inv al re)(hb:b∈al.bs):Inv {al with bs:=kx b.num al.bs++[b]} re/\∀x,cnt {al with bs:=kx b.num al.bs++[b]} re x=cnt al re x:=by
 have pJ:∀x∈kx b.num al.bs++[b],x∈al.bs:=λx aO=>by
  rcases md.mp aO with aO|aO
  ·exact(m2.mp aO).1
  ·exact G (jk.mp aO) hb
 have Am:∀x,gP x (kx b.num al.bs++[b])=gP x al.bs:=λx=>by
  unfold gP;refine G List.find?_append ?_;have :=Dg (n:=x) (m:=b.num) (bs:=al.bs);unfold gP at this;refine G this ?_;by_cases q:x=b.num
  ·subst q;have :=u6 am.nd hb;unfold gP at this;refine G (aY rfl) (G this ?_);simp
  ·refine G (a8 q) ?_;have :([b]:List e6).find? (λb=>b.num==x)=ac:=by simp;exact λz=>q z.symm
   (exact G this (G Option.or_none rfl))
 refine⟨⟨?_,λx aO=>am.lt x (pJ x aO),λx aO=>am.len x (pJ x aO),?_,λx=>by refine G (Am ..) ?_;exact am.bn x,am.bnk,am.lak,am.kek,am.ntk,am.lav,am.ntv,am.pdd,am.pd8,λx aO=>?_,λx aO=>am.pin x (pJ x aO),λx aO=>am.ho x (pJ x aO),λx aO=>am.coh x (pJ x aO),am.unb⟩,λx=>by unfold cnt;simp only [Am]⟩
 ·refine G p7 (F5.mpr ⟨S8 am.nd,by simp,λa ha c aD z=>?_⟩)
  refine bT (hQ.mp ha) λy hy alQ=>?_;obtain rfl:=alQ
  have :c=b.num:=by simpa using aD
  exact(m2.mp hy).2 (z.trans this)
 ·have :(kx b.num al.bs).length<al.bs.length:=Ci (F2 _ _) λz=>by
   have :=Vh.mp z b hb;simp at this
  have :=am.cap;show(kx b.num al.bs++[b]).length<=14
  refine G iz ?_;simp only [zq];exact cQ (by assumption) (by assumption)
 ·refine bT (am.pdb x aO) λy hy e=>?_
  by_cases q:y.num=b.num
  ·exact⟨b,Ca _ fK,q.symm.trans e⟩
  ·exact⟨y,B9 _ (m2.mpr ⟨hy,q⟩),e⟩
abbrev VH(A:g1)(al:hq)(re:gj)(K:dB)(k:b3):Prop:=∀bJ aX,bP A bJ re aX->Inv bJ re->bJ.held=ac->bJ.pd=al.pd->(∀x,cnt bJ re x=cnt al re x)->Fr fN K aX->k .none (ao aX)
theorem Hz(S:bP A al re K)(am:Inv al re)(hb:b∈al.bs)(a6:al.held=J b.num)(aD:b.num∉al.pd->b.data=e0 re b.num)(h:VH A al re K k):aw (n+2) 592 [.new A.c,.new b.o] (ao K) k:=by
 refine YJ (au (c1 S.c rfl rfl) (CS S am hb a6 (au (aN (S.bo b hb) rfl rfl) (mU rfl (au (iV S.z (S.bo b hb) nofun rfl rfl) ?_)))))
 have dg:b.ho - 1=0:=G (am.ho b hb) (G a6 (G (aY rfl) rfl));refine G dg ?_;have b6:=(S.setBo am.nd hb 0 b.pi).gh ac al.pd;have d7:=am.turn (m:=b.num) (f:=λck=> {ck with ho:=0,pi:=b.pi}) (held:=ac) (pd:=al.pd) (re':=re) (λ_=>rfl) (λ_=>⟨rfl,rfl⟩) (λ_=>rfl) am.lak am.kek am.ntk am.lav am.ntv am.unb am.pdd am.pd8 am.pdb
  (λc aD=>by
   split
   ·rename_i q;exact G (xC am.nd hb aD q) (am.pin b hb)
   ·exact am.pin c aD)
  (λc aD=>by
   by_cases q:c.num=b.num
   ·(exact G (aY q) (G (a8 nofun) rfl))
   ·(exact G (a8 q) (G (a8 nofun) (G (am.ho c aD) (G (a8 (by rw [a6];exact λz=>q (by injection z with z;exact z.symm))) rfl)))))
  (λc jH ai _=>by
   by_cases q:c.num=b.num
   ·exact G (xC am.nd hb jH q) (aD (by refine cU q ?_;exact ai))
   ·exact am.coh c jH ai (G a6 (λz=>q (by injection z with z;exact z.symm))))
 have dv:∀x,cnt {al with bs:=hB b.num (λck=> {ck with ho:=0,pi:=b.pi}) al.bs,held:=ac,pd:=al.pd} re x=cnt al re x:=λx=>C3 (f:=λck=> {ck with ho:=0,pi:=b.pi}) (re':=re) (λ_=>rfl) (λ_=>rfl) (λ_=>rfl) x (held:=ac) (pd:=al.pd)
 have j3:({b with ho:=0}:e6)∈hB b.num (λck=> {ck with ho:=0,pi:=b.pi}) al.bs:=hQ.mpr ⟨b,hb,aY rfl⟩
 refine au (aN (b6.bo {b with ho:=0} j3) rfl rfl) (au (a:=ae) rfl (jq rfl (au (aN b6.c rfl rfl) (au (abP b6.row) ?_))))
 refine bT (Qc (rr (f:=λb:e6=>L.new b.o) j3)) λq ch cd=>?_
 rw [kY] at cd;refine bT (ry.mp cd) λc ee jE=>?_
 have tE:=zr ee;have ig:c.num=b.num:=by
  have az:=b6.bo c tE;have aT:=b6.bo {b with ho:=0} j3
  injection jE with jE
  rw [jE,aT] at az;exact(congrArg rz (NC (ci az)).1).symm
 refine lS (ahE b6.z b6.row (aC rfl) (D9 d7) (XY b6) ch) (G (JI ..) (G (H7 d7.nd ee ..) (G (ig ..) ?_)));refine cz (d7.last j3) λeY dy=>?_
 have cc:=b6.setRow (bs:=kx b.num (hB b.num (λck=> {ck with ho:=0,pi:=b.pi}) al.bs)) (λb hb=>b6.bo b (m2.mp hb).1) (λb hb=>b6.bd b (m2.mp hb).1)
 refine au (aN cc.c rfl rfl) (au (qt cc.row) (lS (tN cc.z cc.row (aC rfl) (G (d0 ..) (fE (cQ (F2 _ _) (cQ d7.cap (by decide)))))) ?_))
 have eb:=cc.setRow (bs:=kx b.num (hB b.num (λck=> {ck with ho:=0,pi:=b.pi}) al.bs)++[{b with ho:=0}])
  (λx aO=>by rcases md.mp aO with aO|aO;exact cc.bo x aO;exact G (jk.mp aO) (aI b6.row (b6.bo {b with ho:=0} j3) (aC rfl)))
  (λx aO=>by rcases md.mp aO with aO|aO;exact cc.bd x aO;exact G (jk.mp aO) (aI b6.row (b6.bd {b with ho:=0} j3) (aC rfl)))
 rw [p7] at eb;exact h _ _ eb eY rfl rfl (λx=>(dy x).trans (dv x)) ((Fr.set (S.bo b hb) rfl).trans ((Fr.set b6.row rfl).trans (Fr.set cc.row rfl)))
end
section
variable {k:b3}
theorem K9{l x l':dI}{u v:Option Int}(fk:gW K)(e:K[i]? =J (r,.ba l))(h:¬r=.scr)(ak:bH (l.length+x.length)=ae)(aZ:vK l u v x=J l'):fS (.new i) (.sl u v) (.bytes x) (ao K)=J (ao (K.set i (r,.ba l'))):=by
 unfold fS;simp only [d8 e,ak,if_true,aZ,M9,q4 fk e h]
theorem Q4{k:Option Int->Option Int->Prop}(h:k ac ac):jJ (eA L.none) (eA L.none) k:=h
theorem Inv.data(am:Inv al re)(hb:b∈al.bs)(a6:al.held=J b.num){x:dI}(aO:x.length=48):Inv {al with bs:=hB b.num (λb=> {b with data:=x}) al.bs} re/\∀y,cnt {al with bs:=hB b.num (λb=> {b with data:=x}) al.bs} re y=if y=b.num then x else cnt al re y:=by
 have N:∀c:e6,(if c.num=b.num then {c with data:=x} else c).num=c.num:=λc=>by split<;>rfl
 refine⟨⟨by refine G (TP (f:=λb=> {b with data:=x}) (λ_=>rfl)) ?_;exact am.nd,?_,?_,by unfold hB;refine G (d0 ..) ?_;exact am.cap,λy=>?_,am.bnk,am.lak,am.kek,am.ntk,am.lav,am.ntv,am.pdd,am.pd8,?_,?_,?_,?_,am.unb⟩,λy=>?_⟩
 ·rintro y hy;refine bT (q1 hy) λc aD alT=>?_;obtain rfl:=alT;refine G (N ..) ?_;exact am.lt c aD
 ·rintro y hy;refine bT (q1 hy) λc aD alU=>?_;obtain rfl:=alU;split;exact aO;exact am.len c aD
 ·show dV al.bnl (.int y)=(gP y (hB b.num (λb=> {b with data:=x}) al.bs)).map _
  refine G (ER (f:=λb=> {b with data:=x}) (λ_=>rfl)) (G (am.bn ..) (G (Option.map_map ..) ?_))
  congr 1;funext c;simp only [yW];split<;>rfl
 ·rintro y hy;refine bT (am.pdb y hy) λc aD e=>?_;exact⟨_,rr aD,G (N ..) e⟩
 ·rintro y hy;refine bT (q1 hy) λc aD alV=>?_;obtain rfl:=alV;refine G (N ..) ?_;refine Eq.trans ?_ (am.pin c aD);split<;>rfl
 ·rintro y hy;refine bT (q1 hy) λc aD alW=>?_;obtain rfl:=alW;refine G (N ..) ?_;refine Eq.trans ?_ (am.ho c aD);split<;>rfl
 ·rintro y hy ai ak;refine bT (q1 hy) λc aD alX=>?_;obtain rfl:=alX
  rw [N] at ai ak⊢;refine G (a8 (λz=>ak (by rw [z];exact a6))) ?_
  exact am.coh c aD ai ak
 ·unfold cnt;simp only [ER (m:=b.num) (f:=λb=> {b with data:=x}) (λ_=>rfl)]
  by_cases q:y=b.num
  ·subst q;refine G (u6 am.nd hb) ?_;simp
  ·refine G (a8 q) ?_;cases e:gP y al.bs with
   |none=>rfl
   |some c=>simp only [Cn];(exact G (a8 (by rw [(w1 e).2];exact q)) rfl)
abbrev Fi(A:g1)(al:hq)(re:gj)(K:dB)(b:e6)(x:dI)(P:hq->dB->Prop):Prop:=∀bJ aX,bP A bJ re aX->Inv bJ re->bJ.held=al.held->bJ.pd=al.pd-> {b with data:=x}∈bJ.bs->(∀y,cnt bJ re y=if y=b.num then x else cnt al re y)->Fr fN K aX->P bJ aX
theorem PK(S:bP A al re K)(am:Inv al re)(hb:b∈al.bs)(a6:al.held=J b.num){x:dI}(aO:x.length=48){P:hq->dB->Prop}(h:Fi A al re K b x P):P {al with bs:=hB b.num (λb=> {b with data:=x}) al.bs} (K.set b.dt (.bd b.num,.ba x)):=by
 exact cz (am.data hb a6 aO) λd7 dv=>h _ _ (S.setBd am.nd hb x) d7 rfl rfl (hQ.mpr ⟨b,hb,aY rfl⟩) dv (Fr.set (S.bd b hb) rfl)
theorem aa3(S:bP A al re K)(am:Inv al re)(hb:b∈al.bs)(a6:al.held=J b.num){x:dI}(aO:x.length=48)(h:Fi A al re K b x λ_ aX=>k .none (ao aX)):aw (n+1) 501 [.new b.o,.bytes x] (ao K) k:=by
 refine YD (a3 (AW (G aO rfl)) (au (aN (S.bo b hb) rfl rfl) (a3 (JC (S.bd b hb) (G (am.len b hb) rfl)) (au (a:=aA) ?_ (g7 rfl (au (aN (S.bo b hb) rfl rfl) (Q4 (au (K9 S.z (S.bd b hb) (aC rfl) (G (am.len b hb) (G aO rfl)) (l':=x) ?_) ?_))))))))
 ·exact G aO (G (am.len b hb) rfl)
 ·exact(aY (aO.trans (am.len b hb).symm):(if x.length=b.data.length then J x else ac)=J x)
 ·exact PK S am hb a6 aO h
theorem aa4(S:bP A al re K)(am:Inv al re)(hb:b∈al.bs)(a6:al.held=J b.num)(h:Fi A al re K b jv λ_ aX=>k .none (ao aX)):aw (n+1) 508 [.new b.o] (ao K) k:=by
 have aO:jv.length=48:=rfl;refine YE (au (aN (S.bo b hb) rfl rfl) (a3 (JC (S.bd b hb) (G (am.len b hb) rfl)) ?_));refine G (am.len b hb) (a3 (CQ ⟨by decide,by decide⟩) (au (aN (S.bo b hb) rfl rfl) (Q4 (au (K9 S.z (S.bd b hb) (aC rfl) (G (am.len b hb) rfl) (l':=jv) ?_) ?_))))
 ·exact(aY ((am.len b hb).symm):(if jv.length=b.data.length then J jv else ac)=J jv)
 ·exact PK S am hb a6 aO h
theorem aa9(S:bP A al re K)(am:Inv al re)(hb:b∈al.bs)(a6:al.held=J b.num)(hp:b.num∉al.pd)(gI:al.pd.length<8)
  (h:∀bJ aX,bP A bJ re aX->Inv bJ re->bJ.held=al.held->bJ.pd=al.pd++[b.num]-> {b with pi:=1}∈bJ.bs->(∀y,cnt bJ re y=cnt al re y)->Fr fN K aX->k .none (ao aX)):aw (n+2) 599 [.new A.c,.new b.o] (ao K) k:=by
 refine YK (au (c1 S.c rfl rfl) (CS S am hb a6 (au (aN (S.bo b hb) rfl rfl) (mU rfl (au (iV S.z (S.bo b hb) (aC rfl) rfl rfl) ?_)))));have dg:b.pi+1=1:=G (am.pin b hb) (G (a8 hp) rfl);refine G dg ?_;have b6:=(S.setBo am.nd hb b.ho 1).gh al.held (al.pd++[b.num]);have d7:=am.turn (m:=b.num) (f:=λck=> {ck with ho:=b.ho,pi:=1}) (held:=al.held) (pd:=al.pd++[b.num]) (re':=re) (λ_=>rfl) (λ_=>⟨rfl,rfl⟩) (λ_=>rfl) am.lak am.kek am.ntk am.lav am.ntv am.unb
  (F5.mpr ⟨am.pdd,by simp,λa ha c aD z=>hp (cU (jk.mp aD) (cU z ha))⟩) (G iz gI)
  (λy hy=>by
   rcases md.mp hy with hy|hy
   ·exact am.pdb y hy
   ·exact G (jk.mp hy) (⟨b,hb,rfl⟩))
  (λc aD=>by
   by_cases q:c.num=b.num
   ·(exact G (aY q) (G (aY (by rw [q];exact Ca _ fK)) rfl))
   ·refine G (a8 q) (G (am.pin c aD) ?_);have :(c.num∈al.pd++[b.num])=(c.num∈al.pd):=propext ⟨λz=>(md.mp z).resolve_right λz=>q (jk.mp z),λz=>B9 _ z⟩
    simp only [this])
  (λc aD=>by
   split
   ·rename_i q;exact G (xC am.nd hb aD q) (am.ho b hb)
   ·exact am.ho c aD)
  (λc aD ai ak=>am.coh c aD (λz=>ai (B9 _ z)) ak)
 have dv:∀x,cnt {al with bs:=hB b.num (λck=> {ck with ho:=b.ho,pi:=1}) al.bs,held:=al.held,pd:=al.pd++[b.num]} re x=cnt al re x:=λx=>C3 (f:=λck=> {ck with ho:=b.ho,pi:=1}) (re':=re) (λ_=>rfl) (λ_=>rfl) (λ_=>rfl) x (held:=al.held) (pd:=al.pd++[b.num])
 exact h _ _ b6 d7 rfl rfl (hQ.mpr ⟨b,hb,aY rfl⟩) dv (Fr.set (S.bo b hb) rfl)
theorem aba (S : bP A al re K) (am : Inv al re) (a6 : al.held = ac) (bc : m ∈ al.pd) (aD : ∀ x, cnt al re x = e0 re x)
    (h : ∀ bJ aX, bP A bJ re aX → Inv bJ re → bJ.held = ac → bJ.pd = al.pd.erase m → (∀ y, cnt bJ re y = cnt al re y) → Fr fN K aX → k .none (ao aX)) : aw (n + 2) 606 [.new A.c, .int m] (ao K) k := by
  refine bT (am.pdb m bc) fun b hb alY => ?_; obtain rfl := alY
  refine YL (au (aN S.c rfl rfl) (au (CW S.bn) (lS (JH S.bn rfl) ?_)))
  refine G (Pa am hb) ?_
  refine au (a := aA) (by show (if b.o < (ao K).length then J aA else ac) = _; (exact G mo (G (aY (A1 (S.bo b hb))) rfl))) (lr rfl (au (aN (S.bo b hb) rfl rfl) (au (a := b.pi == 0) rfl (lr (G (am.pin b hb) (G (aY bc) rfl)) ?_))))
  refine au (aN (S.bo b hb) rfl rfl) (mU rfl (au (iV S.z (S.bo b hb) (aC rfl) rfl rfl) ?_))
  have dg : b.pi - 1 = 0 := G (am.pin b hb) (G (aY bc) rfl)
  refine G dg ?_
  have b6 := (S.setBo am.nd hb b.ho 0).gh ac (al.pd.erase b.num)
  have me : ∀ x, (x ∈ al.pd.erase b.num) = (x ∈ al.pd ∧ ¬ x = b.num) := fun x => propext (fB (List.Nodup.mem_erase_iff am.pdd) (⟨fun z => ⟨z.2, z.1⟩, fun z => ⟨z.2, z.1⟩⟩))
  have d7 := am.turn (m := b.num) (f := fun ck => { ck with ho := b.ho, pi := 0 }) (held := ac) (pd := al.pd.erase b.num) (re' := re) (fun _ => rfl) (fun _ => ⟨rfl, rfl⟩) (fun _ => rfl) am.lak am.kek am.ntk am.lav am.ntv am.unb
    (am.pdd.erase _) (cQ (List.length_erase_le) am.pd8)
    (fun y hy => am.pdb y (by rw [me] at hy; exact hy.1))
    (fun c aD => by
      simp only [me]
      by_cases q : c.num = b.num
      · rw [aY q, a8 (fun z => z.2 q)]
      · refine G (a8 q) (G (am.pin c aD) ?_)
        have : (c.num ∈ al.pd ∧ ¬ c.num = b.num) = (c.num ∈ al.pd) := propext ⟨fun z => z.1, fun z => ⟨z, q⟩⟩
        simp only [this])
    (fun c aD => by refine cU a6 ?_; split; · rename_i q; exact G (xC am.nd hb aD q) (am.ho b hb)
                    · exact am.ho c aD)
    (fun c jH ai ak => by exact cU (u0 am jH) (aD _))
  have dv : ∀ x, cnt { al with bs := hB b.num (fun ck => { ck with ho := b.ho, pi := 0 }) al.bs, held := ac, pd := al.pd.erase b.num } re x = cnt al re x := fun x => C3 (f := fun ck => { ck with ho := b.ho, pi := 0 }) (re' := re) (fun _ => rfl) (fun _ => rfl) (fun _ => rfl) x (held := ac) (pd := al.pd.erase b.num)
  exact h _ _ b6 d7 rfl rfl dv (Fr.set (S.bo b hb) rfl)
abbrev mB(re:gj)(m:Nat)(x:dI)(t:Nat):gj:= {re with writes:=re.writes+1,lal:=g9 re.lal (.int m) (.bytes x),unl:=re.unl++[(t,m,x)]}
theorem wZ{x:dI}{t:Nat}(y:Nat):e0 (mB re m x t) y=if y=m then x else e0 re y:=by
 unfold e0;refine G (C7 ..) ?_;by_cases q:y=m
 ·subst q;(exact G ((aY rfl) ..) (G ((aY rfl) ..) rfl))
 ·(exact G (a8 (xe λz=>q z.symm)) (G ((a8 q) ..) rfl))
theorem Inv.wr(am:Inv al re)(bc:m<22)(a6:al.held=J m){x:dI}(aO:x.length=48){t:Nat}:Inv al (mB re m x t):=by
 refine⟨am.nd,am.lt,am.len,am.cap,am.bn,am.bnk,am.lak.put bc _,am.kek,am.ntk,λy v e=>?_,am.ntv,am.pdd,am.pd8,am.pdb,am.pin,am.ho,λc aD ai ak=>?_,λvM ce=>?_⟩
 ·rw [C7] at e;split at e
  ·injection e with e;exact⟨x,e.symm,aO⟩
  ·exact am.lav y v e
 ·exact G (wZ ..) (G ((a8 (λz=>ak (by rw [z];exact a6))) ..) (am.coh c aD ai ak))
 ·rcases md.mp ce with ce|ce
  ·exact am.unb vM ce
  ·exact G (jk.mp ce) bc
theorem abd(S:bP A al re K)(am:Inv al re)(bc:m<22){x:dI}(aO:x.length=48)(bU:re.unl.length<=60000)(h:∀aX t,bP A al (mB re m x t) aX->Fr fN K aX->k .none (ao aX)):aw (n+2) 704 [.new A.d,.int m,.bytes x] (ao K) k:=by
 refine YT (au (c1 S.d rfl rfl) (HD S (au (c1 S.d rfl rfl) (Pj S bc (a3 (AW (G aO rfl)) (au (aN S.d rfl rfl) (au (a:=aA) (G aO rfl) (g7 rfl ?_))))))));refine au (aN S.d rfl rfl) (au rfl (oq rfl (au (aN S.d rfl rfl) (mU rfl (au (iV S.z S.d (aC rfl) rfl rfl) (a3 (Pd (G aO rfl)) ?_))))));have b6:=S.setD (re.writes+1) re.flushes;refine au (aN b6.d rfl rfl) (au (vH b6.z b6.la (aC rfl) rfl am.lak.fits) ?_);have cc:=b6.setLa (g9 re.lal (.int m) (.bytes x));refine au (aN cc.d rfl rfl) (au (qt cc.un) (a3 (Pd (G aO rfl)) (gz .tp ?_)));have eb:=cc.app [(.tp,.tup [.int m,.bytes x])];refine lS (tN eb.z eb.un (aC rfl) (G (d0 ..) (fE (cQ bU (by decide))))) ?_
 have gV:=eb.addUn (_,m,x) c2;rw [p7] at gV;exact h _ _ gV ((Fr.set S.d rfl).trans ((Fr.set b6.la rfl).trans ((Fr.app _ _).trans (Fr.set eb.un rfl))))
end
section
variable {k:b3}
theorem Zu:∃p1 p2 q ka,Fa=.Tuple [.Name "number" p1,.Name "octets" p2] q ka:=⟨_,_,_,_,rfl⟩
theorem ZJ{ax:ds}{t:aU}{a c:Str}{mm mm':Loc}{u v:L}(rX:∃p1 p2 q ka,t=.Tuple [.Name a p1,.Name c p2] q ka)(gn:hZ ax a=ae)(fY:hZ ax c=ae)(e:K[j]? =J (r,.tup [u,v]))(hJ:fA (fA mm a u) c v=mm'):eu ax t (.one (.new j)) mm (ao K)=J mm':=by
 refine asc rX λp1 p2 q ka al0=>?_;obtain rfl:=al0
 show((Lj (ao K)[j]?).bind λw=>if hZ ax a&&hZ ax c then J (fA (fA mm a w.1) c w.2) else ac)=_
 refine G (d8 e) ?_;show(if hZ ax a&&hZ ax c then J (fA (fA mm a u) c v) else ac)=_
 exact G gn (G fY (G hJ rfl))
theorem adI{q:ez}:∀(f p:Nat) (mm:Loc) (K:dB) (re:gj),bP A al re K->Inv al re->(mm=[(bQ,.new A.d)]\/ ∃u v,mm=[(bQ,.new A.d),(bS,u),(d2,v)])->re.unl.length<p+f->p<=re.unl.length->
   (∀aX ln mm,bP A al {re with kel:=ln} aX->jj ln->Fr fN K aX->(mm=[(bQ,.new A.d)]\/ ∃u v,mm=[(bQ,.new A.d),(bS,u),(d2,v)])->q .next mm (ao aX))->
   gR False sQ Fa (λm H q=>b1 False (aw n) (eh (bw (aW (aL 28 6)) 3)) sQ m H q) (.lst re.un) f p mm (ao K) q:=by
 intro f;induction f with
 |zero=>
  exact @λp mm K re S am bc aq hp h=>by
   exact absurd aq (n8.mpr hp)
 |succ f ih=>
  exact @λp mm K re S am bc aq iR h=>by
   by_cases hp:p<re.unl.length
   ·have e1:(re.unl.map λt=>L.new t.1)[p]? =J (.new re.unl[p].1):=by exact G kY (G (iy hp) rfl)
    have ce:=zo hp;refine iQ (mm':=[(bQ,.new A.d),(bS,.int (re.unl[p].2.1:Nat)),(d2,.bytes re.unl[p].2.2)]) (nF S.un e1) (ZJ Zu (by kernel_rfl) (by kernel_rfl) (S.ut _ ce) ?_) ?_
    ·rcases bc with rfl|⟨u,v,rfl⟩<;>rfl
    refine aqC (au (aN S.d rfl rfl) (au (vH S.z S.ke (aC rfl) rfl am.kek.fits) ?_));have b6:=S.setKe (g9 re.kel (.int (re.unl[p].2.1:Nat)) (.bytes re.unl[p].2.2));have k1:=am.kek.put (am.unb _ ce) (.bytes re.unl[p].2.2);have d7:Inv al {re with kel:=g9 re.kel (.int (re.unl[p].2.1:Nat)) (.bytes re.unl[p].2.2)}:=⟨am.nd,am.lt,am.len,am.cap,am.bn,am.bnk,am.lak,k1,am.ntk,am.lav,am.ntv,am.pdd,am.pd8,am.pdb,am.pin,am.ho,am.coh,am.unb⟩
    exact ih (p+1) _ _ {re with kel:=g9 re.kel (.int (re.unl[p].2.1:Nat)) (.bytes re.unl[p].2.2)} b6 d7 (.inr ⟨_,_,rfl⟩) (by show re.unl.length<_;exact rO aq) hp λaX ln mm g6 hk a9 i7=>h aX ln mm g6 hk ((Fr.set S.ke rfl).trans a9) i7
   ·exact mr (qL S.un (G (d0 ..) (wo (by assumption)))) (h K re.kel mm S am.kek (.refl K) bc)
theorem abe(S:bP A al re K)(am:Inv al re)(bU:re.unl.length<=900)(h:∀aX ln un,bP A al {re with kel:=ln,un:=un,unl:=[],flushes:=re.flushes+1} aX->jj ln->Fr fN K aX->k .none (ao aX)):aw (n+2) 718 [.new A.d] (ao K) k:=by
 refine YU (au (c1 S.d rfl rfl) (HD S (au (aN S.d rfl rfl) (au rfl (oq rfl (au (aN S.d rfl rfl) (mU rfl (au (iV S.z S.d (aC rfl) rfl rfl) ?_))))))));have b6:=S.setD re.writes (re.flushes+1);have d7:Inv al {re with flushes:=re.flushes+1}:=⟨am.nd,am.lt,am.len,am.cap,am.bn,am.bnk,am.lak,am.kek,am.ntk,am.lav,am.ntv,am.pdd,am.pd8,am.pdb,am.pin,am.ho,am.coh,am.unb⟩
 refine au (aN b6.d rfl rfl) (pG b6.un ?_);refine adI 1000 0 _ _ _ b6 d7 (.inl rfl) (by show re.unl.length<_;exact eI (by assumption) (by decide)) (hf _) λaX ln mm g6 hk a9 bc=>?_
 have cc:=g6.app [(.un,.list [])];have eb:=cc.setUn c2;have j1:eq (ao aX) (.list []) λLC mb=>aj (ft (.new A.d) pX LC mb) λfJ=>k L.none fJ:=by
  refine gz .un (au (iV cc.z cc.d (aC rfl) rfl rfl) ?_);exact h _ _ _ eb hk ((Fr.set S.d rfl).trans (a9.trans ((Fr.app _ _).trans (Fr.set cc.d rfl))))
 rcases bc with rfl|⟨u,v,rfl⟩
 ·exact WX j1
 ·exact WY j1
theorem HB(S:bP A al re K)(am:Inv al re)(bU:re.unl.length<=900)(h:∀aX ln un,bP A al {re with kel:=ln,un:=un,unl:=[],flushes:=re.flushes+1} aX->jj ln->Fr fN K aX->k .none (ao aX)):aw (n+3) 620 [.new A.c] (ao K) k:=
 YN (au (aN S.c rfl rfl) (au (c1 S.d rfl rfl) (abe S am bU h)))
theorem Inv.flushed(am:Inv al re){ln:List (L×L)}{un:Nat}(hk:jj ln):Inv al {re with kel:=ln,un:=un,unl:=[],flushes:=re.flushes+1}:=
 ⟨am.nd,am.lt,am.len,am.cap,am.bn,am.bnk,am.lak,hk,am.ntk,am.lav,am.ntv,am.pdd,am.pd8,am.pdb,am.pin,am.ho,am.coh,(λ_ h=>absurd h jl)⟩
theorem abb(S:bP A al re K)(am:Inv al re)(hb:b∈al.bs)(a6:al.held=J b.num)(bU:re.unl.length<=60000)
  (h:∀aX t cw,bP A {al with cw:=cw} (mB re b.num b.data t) aX->Fr fN K aX->k .none (ao aX)):aw (n+3) 613 [.new A.c,.new b.o] (ao K) k:=by
 refine YM (au (c1 S.c rfl rfl) (CS S am hb a6 (au (aN S.c rfl rfl) (au (c1 S.d rfl rfl) (au (aN (S.bo b hb) rfl rfl) (au (c1 (S.bo b hb) rfl rfl) (Pg S am hb ?_)))))));refine abd S am (am.lt b hb) (am.len b hb) bU λaX t g6 a9=>au (aN g6.c rfl rfl) (mU rfl (au (iV g6.z g6.c nofun rfl rfl) ?_))
 exact h _ t (al.cw+1) (g6.setC al.hits al.reads (al.cw+1)) (a9.trans (Fr.set g6.c rfl))
theorem Inv.cw(am:Inv al re)(cw:Int):Inv {al with cw:=cw} re:=⟨am.nd,am.lt,am.len,am.cap,am.bn,am.bnk,am.lak,am.kek,am.ntk,am.lav,am.ntv,am.pdd,am.pd8,am.pdb,am.pin,am.ho,am.coh,am.unb⟩
theorem Ph(S:bP A al re K)(am:Inv al re)(a6:al.held=ac)(bc:m<22)
  (h:∀bJ aX,bP A bJ re aX->Inv bJ re->bJ.held=ac->bJ.pd=al.pd->(∀x,cnt bJ re x=cnt al re x)->Fr fN K aX->k (.bytes (cnt al re m)) (ao aX)):aw (n+4) 627 [.new A.c,.int m] (ao K) k:=by
 refine YO (au (c1 S.c rfl rfl) (uW S am a6 bc λeK cn b b6 d7 ai ak hb hn aD a9=>?_))
 subst hn;refine au (c1 (b6.bo b hb) rfl rfl) (Pg b6 d7 hb (au (c1 b6.c rfl rfl) (Hz b6 d7 hb ai ?_ λca2 dZ cc eY d1 g2 hx fH=>?_)))
 ·intro hp;rw [ak] at hp;refine cU (u0 d7 hb) (G (aD ..) ?_);unfold cnt;cases e:gP b.num al.bs with
  |none=>rfl
  |some c=>refine cz (w1 e) λaz aT=>?_;have :=am.coh c az (G aT hp) (by refine G a6 ?_;nofun);rw [aT] at this;exact this
 ·have :=h ca2 dZ cc eY d1 (g2.trans ak) (λx=>(hx x).trans (aD x)) (a9.trans fH)
  rw [<-aD,u0 d7 hb] at this;exact this
theorem HC(S:bP A al re K)(am:Inv al re)(a6:al.held=ac)(bc:m<22){x:dI}(aO:x.length=48)(bU:re.unl.length<=60000)
  (h:∀bJ aX t,bP A bJ (mB re m x t) aX->Inv bJ (mB re m x t)->bJ.held=ac->bJ.pd=al.pd->(∀y,cnt bJ (mB re m x t) y=if y=m then x else cnt al re y)->Fr fN K aX->k .none (ao aX)):aw (n+4) 634 [.new A.c,.int m,.bytes x] (ao K) k:=by
 refine YP (au (c1 S.c rfl rfl) (uW S am a6 bc λeK cn b b6 d7 ai ak hb hn aD a9=>?_))
 subst hn;refine au (c1 (b6.bo b hb) rfl rfl) (aa3 b6 d7 hb ai aO λca2 dZ cc eY d1 g2 f5 hx fH=>?_)
 refine au (c1 cc.c rfl rfl) (abb (b:= {b with data:=x}) cc eY f5 (d1.trans ai) bU λgu t cw eb f7=>?_)
 have o4:=(eY.cw cw).wr bc (d1.trans ai) aO (t:=t);refine au (c1 eb.c rfl rfl) (Hz (b:= {b with data:=x}) eb o4 f5 (d1.trans ai) (λ_=>by(exact G (wZ ..) (G ((aY rfl) ..) rfl))) λpq jR gV rq ch cd ee n0=>?_)
 refine h pq jR t gV rq ch (cd.trans (g2.trans ak)) (λy=>?_) (a9.trans (fH.trans (f7.trans n0)))
 have e1:cnt {ca2 with cw:=cw} (mB re b.num x t) y=if y=b.num then x else cnt ca2 re y:=by
  unfold cnt;by_cases q:y=b.num
  ·subst q;refine G (show gP b.num ca2.bs=J {b with data:=x} from u6 (b:= {b with data:=x}) eY.nd f5) ?_
   first |done|(exact G (aY rfl) rfl)
  ·show(match gP y ca2.bs with |J b=>b.data|ac=>e0 (mB re b.num x t) y)=_
   refine G (wZ ..) (G ((a8 q) ..) (G (a8 q) ?_));first |done|rfl
 refine G (ee ..) (G (e1 ..) (G (hx ..) (G (aD ..) ?_)));split<;>rfl
end
section
variable {k:b3}
def gY(m:Nat):Prop:=m<2\/11<=m
theorem abg(S:bP A al re K)(bc:gY m)(h:k (.bool aA) (ao K)):aw (n+1) 785 [.new A.j,.int m] (ao K) k:=by
 refine YW (au (aN S.j rfl rfl) (au rfl ?_));by_cases q:2<=m
 ·refine jq (decide_eq_true (sI.mpr ‹_›)) (au (aN S.j rfl rfl) (au (aN S.j rfl rfl) (a3 rfl (au (a:=aA) ?_ h))));show J (eo ((m:Int)<2+9))=J aA
  (exact G (decide_eq_false (by unfold gY at bc;lia)) rfl)
 ·exact g7 (decide_eq_false (by lia)) h
theorem xp{l:List Nat}(h:l.length<=8){f:Nat->L}:bH (l.map f).length=ae:=G (d0 ..) (fE (cQ h (by decide)))
theorem abh(S:bP A al re K)(gI:re.nums.length<=8)(hs:cG (re.calls+1)=ae)(h:k (.bool (eo ((re.nums.length:Int)+(re.calls+1)*4<=8))) (ao K)):aw (n+1) 792 [.new A.j] (ao K) k:=by
 refine YX (au (aN S.j rfl rfl) (a3 (pD S.ns (xp gI)) (au (aN S.j rfl rfl) (a3 rfl (au (aN S.j rfl rfl) (a3 (a:=.int ((re.calls+1)*4)) (b:=ao K) ?_ (a3 rfl (au (aN S.j rfl rfl) (au rfl ?_)))))))))
 ·show(if cG (re.calls+1)&&cG 4 then J (L.int ((re.calls+1)*4),ao K) else ac)=_
  exact G hs rfl
 ·exact G (d0 ..) h
theorem Pk(S:bP A al re K)(gI:re.nums.length<=8)(h:k (.int (8 - (re.nums.length:Int))) (ao K)):aw (n+1) 799 [.new A.j] (ao K) k:=by
 refine YY (au (aN S.j rfl rfl) (au (aN S.j rfl rfl) (a3 (pD S.ns (xp gI)) (a3 rfl ?_))));exact G (d0 ..) h
theorem Inv.calls(am:Inv al re)(calls C4:Int):Inv al {re with calls:=calls,commits:=C4}:=⟨am.nd,am.lt,am.len,am.cap,am.bn,am.bnk,am.lak,am.kek,am.ntk,am.lav,am.ntv,am.pdd,am.pd8,am.pdb,am.pin,am.ho,am.coh,am.unb⟩
theorem Pl(S:bP A al re K)(gI:re.nums.length<=8)(hs:cG (re.calls+1)=ae)(c9:(re.nums.length:Int)+(re.calls+1)*4<=8)
  (h:∀aX,bP A al {re with calls:=re.calls+1} aX->Fr fN K aX->k .none (ao aX)):aw (n+2) 806 [.new A.j] (ao K) k:=by
 refine YZ (au (c1 S.j rfl rfl) (abh S gI hs (au rfl (g7 (G (decide_eq_true c9) rfl) (au (aN S.j rfl rfl) (mU rfl (au (iV S.z S.j (aC rfl) rfl rfl) ?_)))))));exact h _ (S.setJ (re.calls+1) re.commits) (Fr.set S.j rfl)
noncomputable def dT(m:Nat)(l:List Nat):List Nat:=if m∈l then l else l++[m]
theorem afK{l:List (L×L)}{u:L}(e:K[i]? =J (r,.dict l))(hk:fX u=ae):bW .In u (.new i) (ao K)=J (dV l u).isSome:=by
 show(if fX u then(match(ao K)[i]?with |J (.dict l)=>J (dV l u).isSome|_=>ac) else ac)=_
 exact G hk (G (d8 e) rfl)
abbrev U8(A:g1)(al:hq)(re:gj)(K:dB)(b:e6)(k:b3):Prop:=∀bJ d9 aX ck,bP A bJ {re with nums:=dT b.num re.nums,ntl:=d9} aX->Inv bJ {re with nums:=dT b.num re.nums,ntl:=d9}->bJ.held=al.held->bJ.pd=dT b.num re.nums->
 ck∈bJ.bs->ck.o=b.o->ck.num=b.num->ck.data=b.data->(∀y,cnt bJ re y=cnt al re y)->Fr fN K aX->k .none (ao aX)
theorem abj(S:bP A al re K)(am:Inv al re)(hb:b∈al.bs)(a6:al.held=J b.num)(aQ:al.pd=re.nums)(aR:gY b.num)(aD:¬re.calls=0)(gI:b.num∈re.nums\/re.nums.length<8)(h:U8 A al re K b k):aw (n+3) 813 [.new A.j,.new b.o] (ao K) k:=by
 refine Y0 (au (aN S.j rfl rfl) (au (a:=re.calls==0) rfl (g7 (by simpa using aD) (au (c1 S.j rfl rfl) (au (aN (S.bo b hb) rfl rfl) (abg S aR (au rfl (g7 rfl (au (aN (S.bo b hb) rfl rfl) (au (aN S.j rfl rfl) (au (afK S.nt rfl) ?_)))))))))))
 refine G (am.ntv ..) ?_;by_cases q:b.num∈re.nums
 ·refine jq (by simpa using q) (au (aN S.j rfl rfl) (au (c1 S.c rfl rfl) (CS S am hb a6 ?_)))
  have e:dT b.num re.nums=re.nums:=aY q;refine h al re.ntl K b ?_ ?_ rfl ?_ hb rfl rfl rfl (λ_=>rfl) (.refl K)
  ·exact G e S
  ·exact G e am
  ·exact G (e ..) aQ
 ·have Do:=gI.resolve_left q;have e:dT b.num re.nums=re.nums++[b.num]:=a8 q;refine g7 (by simpa using q) (au (aN S.j rfl rfl) (a3 (pD S.ns (xp (jz Do))) (au (aN S.j rfl rfl) (au rfl (g7 ?_ ?_)))))
  ·exact G (d0 ..) (decide_eq_false (by lia))
  refine au (aN S.j rfl rfl) (au (c1 S.c rfl rfl) (aa9 S am hb a6 (G aQ q) (G aQ Do) λeK cn b6 d7 ai ak j3 dv dJ=>?_))
  refine au (aN b6.j rfl rfl) (a3 (pD b6.ns (xp (jz Do))) (au (aN b6.j rfl rfl) (au (aN (b6.bo {b with pi:=1} j3) rfl rfl) (au (vH b6.z b6.nt (aC rfl) rfl d7.ntk.fits) ?_))))
  have cc:=b6.putNt (g9 re.ntl (.int b.num) (.int (re.nums.map λ(n:Nat)=>L.int (n:Int)).length))
  refine au (aN cc.j rfl rfl) (au (qt cc.ns) (au (aN (cc.bo {b with pi:=1} j3) rfl rfl) (lS (tN cc.z cc.ns (aC rfl) (xp (jz Do))) ?_)))
  have eb:=cc.addNs b.num;rw [p7] at eb;refine h eK (g9 re.ntl (.int b.num) (.int (re.nums.map λ(n:Nat)=>L.int (n:Int)).length)) _ {b with pi:=1} ?_ ?_ ai ?_ j3 rfl rfl rfl dv (dJ.trans ((Fr.set b6.nt rfl).trans (Fr.set cc.ns rfl)))
  ·exact G e eb
  ·refine G e (⟨d7.nd,d7.lt,d7.len,d7.cap,d7.bn,d7.bnk,d7.lak,d7.kek,d7.ntk.put (am.lt b hb) _,d7.lav,λy=>?_,d7.pdd,d7.pd8,d7.pdb,d7.pin,d7.ho,d7.coh,d7.unb⟩)
   show(dV (g9 re.ntl (.int b.num) _) (.int y)).isSome=(re.nums++[b.num]).contains y
   refine G (C7 ..) ?_;by_cases a7:y=b.num
   ·subst a7;refine G ((aY rfl) ..) ?_;simp
   ·refine G (a8 (xe λz=>a7 z.symm)) (G (am.ntv ..) ?_);simp [a7]
  ·(exact G ak (G aQ (G e rfl)))
end
section
variable {a c:L}{l:List Nat}
def ek(K aX:dB):Prop:=∀(j:Nat) (r:bh) (o:bt),K[j]? =J (r,o)->aX[j]? =J (r,o)
theorem ek.trans{K cn dZ:dB}(a:ek K cn)(b:ek cn dZ):ek K dZ:=λj r o e=>b j r o (a j r o e)
theorem ek.app(K l:dB):ek K (K++l):=λ_ _ _ e=>cf e
theorem ek.fr{S:bh->Bool}{K aX:dB}(a:ek K aX):Fr S K aX:=λj r o e _=>a j r o e
theorem bP.ex{A:g1}{al:hq}{re:gj}{K aX:dB}(S:bP A al re K)(h:ek K aX):bP A al re aX:=
 ⟨cm S.z λo z=>⟨o,h _ _ _ z⟩,h _ _ _ S.s,h _ _ _ S.n,h _ _ _ S.c,h _ _ _ S.d,h _ _ _ S.j,h _ _ _ S.row,h _ _ _ S.bn,h _ _ _ S.la,h _ _ _ S.ke,h _ _ _ S.un,λt q=>h _ _ _ (S.ut t q),h _ _ _ S.ns,h _ _ _ S.nt,λb q=>h _ _ _ (S.bo b q),λb q=>h _ _ _ (S.bd b q)⟩
section
variable {k:List L->an->Prop}
theorem wV{ax:ds}{t:aU}{cond:Loc->an->(Bool->an->Prop)->Prop}{dW:Loc->an->(L->an->Prop)->Prop}{s:kI}{items:List L}{P:Loc->Prop}{mm:L->Loc}{c:L->Bool}{f:L->L}(hi:∀p,itemAt s p H=J (items[p]?.map .one))
   (hb:∀v m,P m->eu ax t (.one v) m H=J (mm v)) (Qs:∀v,P (mm v)) (aD:∀v∈items,∀q:Bool->an->Prop,q (c v) H->cond (mm v) H q) (bl:∀v∈items,c v=ae->∀q:L->an->Prop,q (f v) H->dW (mm v) H q):
   ∀(c3 p:Nat) (m:Loc) (acc:List L),P m->items.length<p+c3->p<=items.length->k (acc++((items.drop p).filter c).map f) H->jX False ax t cond dW s c3 p m H acc k:=by
 intro c3;induction c3 with
 |zero=>
  exact @λp m acc _ ai ak _=>by
   exact absurd ai (n8.mpr ak)
 |succ c3 ih=>
  exact @λp m acc bc ai ak h=>by
   show(match itemAt s p H with |ac=>False|J ac=>k acc H|J (J it)=>match eu ax t it m H with |ac=>False|J m=>cond m H λb H=>match b with
    |ae=>dW m H λv H=>jX False ax t cond dW s c3 (p+1) m H (acc++[v]) k
    |aA=>jX False ax t cond dW s c3 (p+1) m H acc k)
   refine G (hi ..) ?_;by_cases hp:p<items.length
   ·refine G (iy hp ..) ?_;have hv:=zo hp;show(match eu ax t (.one items[p]) m H with |ac=>False|J m=>_)
    refine G (hb _ _ bc) (aD _ hv _ ?_);rw [B6 hp,kE] at h;cases q:c items[p]
    ·rw [q] at h;exact ih (p+1) _ acc (Qs _) (rO ai) hp h
    ·rw [q,aY rfl,h9] at h;exact bl _ hv q _ (ih (p+1) _ _ (Qs _) (rO ai) hp (G (FW ..) h))
   ·have :p=items.length:=by lia
    subst this;refine G (mP (cW _) ..) ?_;rw [FX] at h;simpa using h
end
theorem mw{a:Nat}(h:a<4000000000000000000):cG (a:Int)=ae:=by unfold cG;simp;exact cQ (by assumption) (by decide)
noncomputable def lg(x a:Nat):Nat:=x/2^(8*a)%256
def hA(x:Nat):List UInt8:=[hV (lg x 0),hV (lg x 1),hV (lg x 2),hV (lg x 3)]
theorem Te(x s:Nat):(x:Int).fdiv (2^s)=((x/2^s:Nat):Int):=by
 refine G (MH _ (by exact_mod_cast hf (2^s))) ?_
 exact_mod_cast rfl
theorem Sv{x a:Nat}{H:an}{q:b3}(ha:a<100)(h:q (.int (lg x a)) H):aF (a5 .Mult (L.int 8) (.int a) H) λBu sG=>aF (a5 .RShift (.int x) Bu sG) λmA wh=>aF (a5 .BitAnd mA (L.int 255) wh) λoW y1=>q oW y1:=by
 refine a3 (a:=.int (8*(a:Int))) (b:=H) ?_ ?_
 ·show(if cG 8&&cG (a:Int) then J (L.int (8*(a:Int)),H) else ac)=_
  exact G (mw (a:=a) (eE ‹_› (by decide))) rfl
 refine a3 (a:=.int ((x/2^(8*a):Nat):Int)) (b:=H) ?_ ?_
 ·show(if(0:Int)<=8*(a:Int) then J (L.int ((x:Int).fdiv (2^(8*(a:Int)).toNat)),H) else ac)=_
  refine G ((aY (ht _)) ..) ?_;have :(8*(a:Int)).toNat=8*a:=rfl;(exact G this (G (Te ..) rfl))
 refine a3 (a:=.int (lg x a)) (b:=H) ?_ h;show J (L.int (wy ((x/2^(8*a):Nat):Int) 255),H)=_
 refine G (bitAnd_m8 ..) ?_;unfold lg;rfl
theorem zU(x a:Nat):lg x a<256:=jo _ (by decide)
theorem vz{i:Nat}(h:i<256):oK (.int i)=J (hV i):=by
 show(if(0:Int)<=i/\(i:Int)<256 then J (hV (i:Int).toNat) else ac)=_
 (exact G ((aY ⟨ht _,mc.mpr ‹_›⟩) ..) (G (h8 ..) rfl))
noncomputable def vF:List L:=[.int (0:Nat),.int (1:Nat),.int (2:Nat),.int (3:Nat)]
theorem S9:lV [L.int 4]=J vF:=by rfl
theorem Ta(h:v∈vF):∃a:Nat,a<4/\v=.int a:=by
 unfold vF at h;simp only [fw,jl,or_false] at h;rcases h with rfl|rfl|rfl|rfl
 ·exact⟨0,by decide,rfl⟩
 ·exact⟨1,by decide,rfl⟩
 ·exact⟨2,by decide,rfl⟩
 ·exact⟨3,by decide,rfl⟩
def vu(x:Nat):List L:=[.int (lg x 0),.int (lg x 1),.int (lg x 2),.int (lg x 3)]
theorem aiP(x:Nat):bR (vu x)=J (hA x):=by
 unfold vu bR bR bR bR bR;refine G (vz (zU x 0)) (G (vz (zU x 1)) (G (vz (zU x 2)) (G (vz (zU x 3)) ?_)));rfl
noncomputable def J9(x:Nat):L->L
 | .int a=>.int (lg x a.toNat)
 |v=>v
theorem Su(x:Nat):(([]:List L)++((vF.drop 0).filter λ_=>ae).map (J9 x))=vu x:=by rfl
section
variable {k:b3}
def tF(l:List Nat):List UInt8:=hA l.length++l.flatMap hA++f9 (48 - 4*(l.length+1)) 0
theorem Qd(l:List Nat):(l.flatMap hA).length=4*l.length:=by
 induction l with
 |nil=>rfl
 |cons a l ih=>(refine G ML (G iz (G ih ?_)));show 4+_=_;refine G sN ?_;lia
theorem aeS(h:l.length<=8):(tF l).length=48:=by
 unfold tF;refine G iz (G iz (G (Qd ..) (G (F3 ..) ?_)));show 4+_+_=48;exact wO h
theorem aeT:tF []=jv:=by decide+kernel
theorem Zv{d:L}{H:an}:eu p9 BO (.one v) [(e5,a),(dH,c),(na,d)] H=J [(e5,a),(dH,c),(na,d),(hm,v)]:=by kernel_rfl
theorem Zw{d aJ:L}{H:an}:eu p9 BO (.one v) [(e5,a),(dH,c),(na,d),(hm,aJ)] H=J [(e5,a),(dH,c),(na,d),(hm,v)]:=by kernel_rfl
theorem ZK{H:an}:eu p3 BP (.one v) [(hm,a)] H=J [(hm,a),(e4,v)]:=by kernel_rfl
theorem ZL{aJ:L}{H:an}:eu p3 BP (.one v) [(hm,a),(e4,aJ)] H=J [(hm,a),(e4,v)]:=by kernel_rfl
theorem abY{x:Nat}{H:an}{k:List L->an->Prop}(h:k (vu x) H):jX False p3 BP (λm H q=>jb False (aw n) (m0 sF) p3 m H q) (λm H q=>bO False (aw n) (j8 sF 0) p3 m H q) (.items vF) f6 0 [(hm,.int x)] H [] k:=
 wV (items:=vF) (P:=λm=>m=[(hm,.int x)]\/ ∃v,m=[(hm,.int x),(e4,v)]) (mm:=λv=>[(hm,.int x),(e4,v)]) (c:=λ_=>ae) (f:=J9 x) (λ_=>rfl)
  (λv m bc=>by rcases bc with rfl|⟨u,rfl⟩;exact ZK;exact ZL) (λv=>.inr ⟨v,rfl⟩) (λv hv q cI=>ado cI)
  (λv hv _ q cI=>by refine bT (Ta hv) λa ha al1=>?_;obtain rfl:=al1;exact acK (Sv (cQ (by assumption) (by decide)) cI)) 1000 0 _ [] (.inl rfl) (by decide) (by decide) (G (Su ..) h)
theorem ajc{f:Nat}{q:ez}:∀(c3 p:Nat) (mm:Loc) (K:dB) (acc:dI),gW K->K[f]? =J (.x 0,.ba acc)->K[i]? =J (.x 1,.list (l.map λ(n:Nat)=>.int (n:Int)))->acc.length<=4*p->
   (mm=[(e5,a),(dH,c),(na,.new f)]\/ ∃v,mm=[(e5,a),(dH,c),(na,.new f),(hm,v)])->l.length<p+c3->p<=l.length->l.length<=9->
   (∀aX mm,gW aX->aX[f]? =J (.x 0,.ba (acc++(l.drop p).flatMap hA))->(∀(j:Nat) (r:bh) (o:bt),¬j=f->K[j]? =J (r,o)->aX[j]? =J (r,o))->(mm=[(e5,a),(dH,c),(na,.new f)]\/ ∃v,mm=[(e5,a),(dH,c),(na,.new f),(hm,v)])->q .next mm (ao aX))->
   gR False p9 BO (λm H q=>b1 False (aw n) (eh (bw (aW (bf 33)) 2)) p9 m H q) (.lst i) c3 p mm (ao K) q:=by
 intro c3;induction c3 with
 |zero=>
  exact @λp mm K acc fk lk dw ha bc ai ak Qr h=>by
   exact absurd ai (n8.mpr ak)
 |succ c3 ih=>
  exact @λp mm K acc fk lk dw ha bc ai ak Qr h=>by
   by_cases hp:p<l.length
   ·have e1:(l.map λ(n:Nat)=>L.int (n:Int))[p]? =J (.int (l[p]:Nat)):=by exact G kY (G (iy hp) rfl)
    refine iQ (mm':=[(e5,a),(dH,c),(na,.new f),(hm,.int (l[p]:Nat))]) (nF dw e1) ?_ ?_
    ·rcases bc with rfl|⟨v,rfl⟩
     ·exact Zv
     ·exact Zw
    refine aqD (au (abI lk) (au S9 (abY (gz (.x 2) (a3 (G6 c2 rfl (aiP _)) ?_)))));have uL:=fk.app (l:=[(.x 2,.list (vu l[p]))]);refine lS (ahC uL (cf lk) (aC rfl) (fE (by show acc.length+4<=_;lia))) ?_
    refine ih (p+1) _ _ (acc++hA l[p]) (uL.set (cf lk) (aC rfl)) (fo (cf lk)) (aI (cf lk) (cf dw) nofun) (by refine G iz ?_;show _+4<=_;lia) (.inr ⟨_,rfl⟩) (rO ai) hp Qr λaX mm' GP cT a9 i7=>h aX mm' GP ?_ ?_ i7
    ·(exact G (cT ..) (G (B6 hp) (G ML (G (FW ..) rfl))))
    ·intro j r o cY e;refine a9 j r o cY (G (MO (λz=>cY z.symm)) (cf e))
   ·have :p=l.length:=by lia
    subst this;refine mr (qL dw (G (d0 ..) (cW _))) (h K mm fk ?_ (λ_ _ _ _ e=>e) bc)
    refine G FX ?_;simpa using lk
theorem xh{H:an}{i:Nat}{l:List L}(e:H[i]? =J (.list l)):listAt H i=J l:=by
 unfold listAt;rw [e];rfl
theorem OO{a c:List L}(e1:K[i]? =J (r,.list a)){fR:bh}(e2:K[j]? =J (fR,.list c))(h:bH (a.length+c.length)=ae)(s:bh):a5 .Add (.new i) (.new j) (ao K)=J (.new K.length,ao (K++[(s,.list (a++c))])):=by
 show((listAt (ao K) i).bind λa=>(listAt (ao K) j).bind λb=>if bH (a.length+b.length) then J (L.new (ao K).length,ao K++[bt.list (a++b)]) else ac)=_
 refine G (xh (d8 e1)) (G (xh (d8 e2)) ?_);show(if bH (a.length+c.length) then J (L.new (ao K).length,ao K++[bt.list (a++c)]) else ac)=_
 (exact G (aY h) (G (nB (r:=s)) (G mo rfl)))
theorem ahv{l:List L}(e:K[i]? =J (r,.list l))(aQ:bH l.length=ae)(s:bh):cH (.type "list") [.new i] (ao K)=J (.new K.length,ao (K++[(s,.list l)])):=by
 show((listAt (ao K) i).bind λl=>if bH l.length then J (L.new (ao K).length,ao K++[bt.list l]) else ac)=_
 refine G (xh (d8 e)) ?_;show(if bH l.length then J (L.new (ao K).length,ao K++[bt.list l]) else ac)=_
 (exact G (aY aQ) (G (nB (r:=s)) (G mo rfl)))
theorem Ze(r:bh):cH (.type "bytearray") [] (ao K)=J (.new K.length,ao (K++[(r,.ba [])])):=by
 show J (L.new (ao K).length,ao K++[bt.ba []])=_
 (exact G (nB (r:=r)) (G mo rfl))
theorem XW{a c:dI}{H:an}(h:bH (a.length+c.length)=ae):a5 .Add (.bytes a) (.bytes c) H=J (.bytes (a++c),H):=by
 show(if bH (a.length+c.length) then J (L.bytes (a++c),H) else ac)=_
 (exact G (aY h) rfl)
theorem abf(fk:gW K)(e:K[i]? =J (r,.list (l.map λ(n:Nat)=>.int (n:Int))))(gI:l.length<=8)(h:∀aX,ek K aX->k (.bytes (tF l)) (ao aX)):aw (n+1) 763 [.new i,.int 48] (ao K) k:=by
 have aq:bH (l.map λ(n:Nat)=>L.int (n:Int)).length=ae:=xp gI
 refine YV (a3 (pD e aq) (a3 rfl (a3 (a:=.int (4*((l.length:Int)+1))) (b:=ao K) ?_ (au rfl (g7 (decide_eq_false (by lia)) (a3 (Ze (.x 0)) (a3 (pD (cf e) aq) ?_)))))))
 ·show(if cG 4&&cG (((l.map λ(n:Nat)=>L.int (n:Int)).length:Int)+1) then J (L.int (4*(((l.map λ(n:Nat)=>L.int (n:Int)).length:Int)+1)),ao K) else ac)=_
  rw [d0,show((l.length:Int)+1)=((l.length+1:Nat):Int) by exact rfl,mw (a:=l.length+1) (by lia)];rfl
 refine gz (.x 3) (a3 (ahv (cf (cf e)) aq (.x 4)) ?_);have e2:(K++[(bh.x 0,bt.ba [])]++[(bh.x 3,bt.list [.int ((l.map λ(n:Nat)=>L.int (n:Int)).length:Int)])]++[(bh.x 4,bt.list (l.map λ(n:Nat)=>L.int (n:Int)))])[(K++[(bh.x 0,bt.ba [])]).length]? =J (bh.x 3,bt.list [.int ((l.map λ(n:Nat)=>L.int (n:Int)).length:Int)]):=cf c2
 refine a3 (OO e2 c2 (by show bH (1+_)=ae;(rw [d0]);exact fE (by lia)) (.x 1)) (pG c2 ?_)
 have GP:=(((fk.app (l:=[(bh.x 0,bt.ba [])])).app (l:=[(bh.x 3,bt.list [.int ((l.map λ(n:Nat)=>L.int (n:Int)).length:Int)])])).app (l:=[(bh.x 4,bt.list (l.map λ(n:Nat)=>L.int (n:Int)))])).app (l:=[(bh.x 1,bt.list ([.int ((l.map λ(n:Nat)=>L.int (n:Int)).length:Int)]++l.map λ(n:Nat)=>L.int (n:Int)))])
 refine ajc (l:=l.length::l) (f:=K.length) 1000 0 _ _ [] GP (cf (cf (cf c2))) (c2.trans (G (d0 ..) rfl)) (hf _) (.inl rfl) (by refine G sN ?_;lia) (hf _) (G sN (eI (by assumption) (by decide))) λaX mm uL cT a9 bc=>?_
 have mZ:([]++((l.length::l).drop 0).flatMap hA).length=4*(l.length+1):=G (zs ..) (Qd (l.length::l));have j1:aF (cH (.type "bytes") [.new K.length] (ao aX)) λKP hr=>aF (cH (.builtin "len") [.new K.length] hr) λsd iI=>aF (a5 .Sub (.int 48) sd iI) λiG fJ=>aF (cH (.type "bytes") [iG] fJ) λBg iw=>aF (a5 .Add KP Bg iw) λnS i1=>k nS i1:=by
  refine a3 (Pc cT (fE (by refine G mZ ?_;lia))) (a3 (JC cT (fE (by refine G mZ ?_;lia))) (a3 rfl ?_))
  refine G mZ (a3 (CQ ⟨by lia,zg (Int.sub_le_self _ (ht _)) (by decide)⟩) (a3 (XW ?_) ?_))
  ·exact G mZ (G F3 (fE (by lia)))
  ·have H3:([]++((l.length::l).drop 0).flatMap hA)++f9 ((48:Int) - ((4*(l.length+1):Nat):Int)).toNat 0=tF l:=by
    rw [zs,zm,ML];congr 2
    lia
   refine G H3 (h aX λj r o q=>a9 j r o (λz=>?_) (cf (cf (cf (cf q)))))
   subst z;have :=A1 q;exact absurd this (jn _)
 rcases bc with rfl|⟨v,rfl⟩
 ·exact WZ j1
 ·exact W0 j1
end
end
variable {a:L}
section
variable {N:List Nat}
section
variable {k:b3}{q:ez}
noncomputable def oF(re:gj):Nat×List Nat×Nat×List (L×L)×Int×Int:=(re.ns,re.nums,re.nt,re.ntl,re.calls,re.commits)
theorem vq{re re':gj}(h:oF re'=oF re):re'.nums=re.nums:=congrArg (·.2.1) h
abbrev WO(A:g1)(al:hq)(re:gj)(K:dB)(l:List Nat)(k:b3):Prop:=∀bJ re' aX,bP A bJ re' aX->Inv bJ re'->bJ.held=ac->bJ.pd=al.pd->oF re'=oF re->re'.writes=re.writes+1->re'.unl=[]->
 (∀y,cnt bJ re' y=if y=2 then tF l else cnt al re y)->(∀y,e0 re' y=if y=2 then tF l else e0 re y)->Fr fN K aX->k .none (ao aX)
theorem Pm(S:bP A al re K)(am:Inv al re)(a6:al.held=ac){l:List Nat}(e:K[i]? =J (r,.list (l.map λ(n:Nat)=>.int (n:Int))))(gI:l.length<=8)(bU:re.unl.length<=800)(h:WO A al re K l k):aw (n+5) 841 [.new A.j,.new i] (ao K) k:=by
 refine Y3 (au (aN S.j rfl rfl) (au (c1 S.c rfl rfl) (au (aN S.j rfl rfl) (au (aN S.j rfl rfl) (au (aN S.c rfl rfl) ?_)))));refine abf S.z e gI λcn az=>?_
 have b6:=S.ex az;refine HC (m:=2) b6 am a6 (by decide) (aeS gI) (cQ (by assumption) (by decide)) λca2 dZ t cc eY ai ak aZ fH=>?_
 refine au (aN cc.j rfl rfl) (au (c1 cc.c rfl rfl) (HB cc eY (by show(re.unl++[_]).length<=900;refine G iz ?_;simp only [zq];exact eI (by assumption) (by decide)) λgu ln un eb hk f7=>?_))
 refine h ca2 _ gu eb (eY.flushed hk) ai ak rfl rfl rfl (λy=>?_) (λy=>wZ (t:=t) (x:=tF l) y) ((az.fr).trans (fH.trans f7))
 exact aZ y
theorem Zz:eu qb BR (.pair u v) [(bQ,a)] H=J [(bQ,a),(dQ,u),(bS,v)]:=by kernel_rfl
theorem ZA{ef aJ:L}:eu qb BR (.pair u v) [(bQ,a),(dQ,ef),(bS,aJ)] H=J [(bQ,a),(dQ,u),(bS,v)]:=by kernel_rfl
structure uz(N:List Nat):Prop where
 le:N.length<=8
 own:∀x∈N,gY x/\x<22
theorem ady(a2:uz N):∀(c3 p:Nat) (mm:Loc) (al:hq) (re:gj) (K:dB),bP A al re K->Inv al re->al.held=ac->re.ns=i->re.nums=N->re.unl.length+N.length<=100+p->
   (mm=[(bQ,.new A.j)]\/ ∃u v,mm=[(bQ,.new A.j),(dQ,u),(bS,v)])->N.length<p+c3->p<=N.length->
   (∀bJ re' aX mm,bP A bJ re' aX->Inv bJ re'->bJ.held=ac->bJ.pd=al.pd->oF re'=oF re->re'.writes=re.writes+((N.length - p:Nat):Int)->re'.unl.length<=100->(∀y,gY y->cnt bJ re' y=cnt al re y/\e0 re' y=e0 re y)->Fr fN K aX->
    (mm=[(bQ,.new A.j)]\/ ∃u v,mm=[(bQ,.new A.j),(dQ,u),(bS,v)])->q .next mm (ao aX))->
   gR False qb BR (λm H q=>b1 False (aw (n+4)) (eh (bw (aW (aL 34 8)) 0)) qb m H q) (.enum i) c3 p mm (ao K) q:=by
 intro c3;induction c3 with
 |zero=>
  exact @λp mm al re K S am a6 dw lj bU bc ai ak h=>by
   exact absurd ai (n8.mpr ak)
 |succ c3 ih=>
  exact @λp mm al re K S am a6 dw lj bU bc ai ak h=>by
   have kK:=S.ns;rw [lj,dw] at kK;by_cases hp:p<N.length
   ·have e1:(N.map λ(n:Nat)=>L.int (n:Int))[p]? =J (.int (N[p]:Nat)):=by exact G kY (G (iy hp) rfl)
    have nE:=a2.own _ (zo hp);have :=a2.le;refine iQ (mm':=[(bQ,.new A.j),(dQ,.int p),(bS,.int (N[p]:Nat))]) (vp kK e1) ?_ ?_
    ·rcases bc with rfl|⟨u,v,rfl⟩
     ·exact Zz
     ·exact ZA
    refine aqF (au (aN S.j rfl rfl) (au (c1 S.c rfl rfl) (au (aN S.j rfl rfl) (a3 rfl (a3 rfl (au (aN S.j rfl rfl) (au (c1 S.c rfl rfl) ?_)))))));refine Ph S am a6 nE.2 λeK cn b6 d7 Dn vb aZ dJ=>?_
    have aP:(2:Int)+1+(p:Int)=((3+p:Nat):Int):=rfl;show bB False _ _ [.int (2+1+(p:Int)),_] _ _
    refine G aP (HC (m:=3+p) b6 d7 Dn (by lia) (C2 am) (by lia) λca2 dZ t cc eY d1 g2 hx fH=>ih (p+1) _ ca2 _ dZ cc eY d1 dw lj ?_ (.inr ⟨_,_,rfl⟩) (rO ai) hp λbJ re' aX mm' g6 kD ch cd ee jE jF mq mM i7=>?_)
    ·show(re.unl++[_]).length+_<=_;refine G iz ?_;simp only [zq];lia
    refine h bJ re' aX mm' g6 kD ch (cd.trans (g2.trans vb)) ee ?_ jF (λy hy=>?_) (dJ.trans (fH.trans mM)) i7
    ·refine G jE ?_;show re.writes+1+_=_;exact OG hp
    ·refine cz (mq y hy) λcA dc=>?_
     have RX:¬y=3+p:=by unfold gY at hy;lia
     exact⟨by(exact G (cA ..) (G (hx ..) (G ((a8 RX) ..) (G (aZ ..) rfl)))),by(exact G (dc ..) (G (wZ ..) (G ((a8 RX) ..) rfl)))⟩
   ·have :p=N.length:=by lia
    subst this;exact mr (Jg kK (G (d0 ..) (cW _))) (h al re K mm S am a6 rfl rfl (by simp) (Vl.mp bU) (λy _=>⟨rfl,rfl⟩) (.refl K) bc)
theorem abn(a2:uz N)(S:bP A al re K)(am:Inv al re)(a6:al.held=ac)(lj:re.nums=N)(bU:re.unl=[])
  (h:∀bJ re' aX,bP A bJ re' aX->Inv bJ re'->bJ.held=ac->bJ.pd=al.pd->oF re'=oF re->re'.writes=re.writes+(N.length:Int)->re'.unl=[]->(∀y,gY y->cnt bJ re' y=cnt al re y/\e0 re' y=e0 re y)->Fr fN K aX->k .none (ao aX)):aw (n+5) 834 [.new A.j] (ao K) k:=by
 have :=a2.le;have kK:=S.ns;rw [lj] at kK;refine Y2 (au (aN S.j rfl rfl) (pG kK ?_));refine ady a2 1000 0 _ al re K S am a6 rfl lj (by refine G bU ?_;simp;exact cQ (by assumption) (by decide)) (.inl rfl) (eI (by assumption) (by decide)) (hf _) λbJ re' aX mm g6 kD ai ak aZ cC gl gH a9 bc=>?_
 have j1:aj (aV (.new A.j) fU (ao aX)) λnV=>aj (bx nV q6 (ao aX)) λnw=>bB False (aw (n+4)) nw [] (ao aX) λtS g3=>k L.none g3:=by
  refine au (aN g6.j rfl rfl) (au (c1 g6.c rfl rfl) (HB g6 kD (cQ (by assumption) (by decide)) λgu ln un eb hk f7=>?_))
  exact h bJ _ gu eb (kD.flushed hk) ai ak aZ cC rfl (λy hy=>gH y hy) (a9.trans f7)
 rcases bc with rfl|⟨u,v,rfl⟩
 ·exact W3 j1
 ·exact W4 j1
theorem ZB{b c:L}:eu np yR (.pair u v) [(bQ,a),(e5,b),(nW,c)] H=J [(bQ,a),(e5,b),(nW,c),(dQ,u),(bS,v)]:=by kernel_rfl
theorem ZC{b c ef aJ w:L}:eu np yR (.pair u v) [(bQ,a),(e5,b),(nW,c),(dQ,ef),(bS,aJ),(d2,w)] H=J [(bQ,a),(e5,b),(nW,c),(dQ,u),(bS,v),(d2,w)]:=by kernel_rfl
abbrev Of(A:g1)(i:Nat)(mm:Loc):Prop:=mm=[(bQ,.new A.j),(e5,.new i),(nW,.bool aA)]\/ ∃u v w,mm=[(bQ,.new A.j),(e5,.new i),(nW,.bool aA),(dQ,u),(bS,v),(d2,w)]
theorem afO(a2:uz N):∀(c3 p:Nat) (mm:Loc) (al:hq) (re:gj) (K:dB),bP A al re K->Inv al re->al.held=ac->re.ns=i->re.nums=N->re.unl.length+N.length<=100+p->
   Of A i mm->N.length<p+c3->p<=N.length->
   (∀bJ re' aX mm,bP A bJ re' aX->Inv bJ re'->bJ.held=ac->bJ.pd=al.pd->oF re'=oF re->re'.writes=re.writes+((N.length - p:Nat):Int)->re'.unl.length<=100->(∀y,cnt bJ re' y=cnt al re y)->(∀y,e0 re' y=if y∈N.drop p then cnt al re y else e0 re y)->Fr fN K aX->
    Of A i mm->q .next mm (ao aX))->
   gR False np yR (λm H q=>b1 False (aw (n+4)) (eh (bw (aW (aL 34 10)) 0)) np m H q) (.enum i) c3 p mm (ao K) q:=by
 intro c3;induction c3 with
 |zero=>
  exact @λp mm al re K S am a6 dw lj bU bc ai ak h=>by
   exact absurd ai (n8.mpr ak)
 |succ c3 ih=>
  exact @λp mm al re K S am a6 dw lj bU bc ai ak h=>by
   have kK:=S.ns;rw [lj,dw] at kK;by_cases hp:p<N.length
   ·have e1:(N.map λ(n:Nat)=>L.int (n:Int))[p]? =J (.int (N[p]:Nat)):=by exact G kY (G (iy hp) rfl)
    have nE:=a2.own _ (zo hp);have :=a2.le;have body:∀ {mm':Loc} {Q:b3},(∀ca2 dZ t,bP A ca2 (mB re N[p] (cnt al re N[p]) t) dZ->Inv ca2 (mB re N[p] (cnt al re N[p]) t)->ca2.held=ac->ca2.pd=al.pd->(∀y,cnt ca2 (mB re N[p] (cnt al re N[p]) t) y=cnt al re y)->Fr fN K dZ->Q (.bytes (cnt al re N[p])) (ao dZ))->
      aj (aV (.new A.j) fU (ao K)) λaT=>aj (bx aT (z "peek") (ao K)) λeT=>aj (ky (.bool aA)) λhX=>dU hX False (bB False (aw (n+4)) eT [.int (N[p]:Nat)] (ao K) λeV fv=>aj (aV (.new A.j) fU fv) λv3=>aj (bx v3 (z "poke") fv) λuT=>bB False (aw (n+4)) uT [.int (N[p]:Nat),eV] fv λe9 g4=>Q eV g4):=λ{mm' Q} jG=>by
     refine au (aN S.j rfl rfl) (au (c1 S.c rfl rfl) (au rfl (g7 rfl ?_)));refine Ph S am a6 nE.2 λeK cn b6 d7 Dn vb aZ dJ=>au (aN b6.j rfl rfl) (au (c1 b6.c rfl rfl) ?_)
     refine HC b6 d7 Dn nE.2 (C2 am) (by lia) λca2 dZ t cc eY d1 g2 hx fH=>jG ca2 dZ t cc eY d1 (g2.trans vb) (λy=>?_) (dJ.trans fH)
     refine G (hx ..) ?_;split
     ·rename_i e;(exact G e rfl)
     ·exact aZ y
    have step:∀ca2 dZ t,bP A ca2 (mB re N[p] (cnt al re N[p]) t) dZ->Inv ca2 (mB re N[p] (cnt al re N[p]) t)->ca2.held=ac->ca2.pd=al.pd->(∀y,cnt ca2 (mB re N[p] (cnt al re N[p]) t) y=cnt al re y)->Fr fN K dZ->
      gR False np yR (λm H q=>b1 False (aw (n+4)) (eh (bw (aW (aL 34 10)) 0)) np m H q) (.enum i) c3 (p+1) [(bQ,.new A.j),(e5,.new i),(nW,.bool aA),(dQ,.int p),(bS,.int (N[p]:Nat)),(d2,.bytes (cnt al re N[p]))] (ao dZ) q:=by
     intro ca2 dZ t cc eY d1 g2 hx fH;refine ih (p+1) _ ca2 _ dZ cc eY d1 dw lj ?_ (.inr ⟨_,_,_,rfl⟩) (rO ai) hp λbJ re' aX mm' g6 kD ch cd ee jE jF mq tw mM i7=>?_
     ·show(re.unl++[_]).length+_<=_;refine G iz ?_;simp only [zq];lia
     refine h bJ re' aX mm' g6 kD ch (cd.trans g2) ee ?_ jF (λy=>(mq y).trans (hx y)) (λy=>?_) (fH.trans mM) i7
     ·refine G jE ?_;show re.writes+1+_=_;exact OG hp
     ·refine G (tw ..) (G (hx ..) (G (wZ ..) (G (B6 hp ..) ?_)));by_cases aM:y∈N.drop (p+1)
      ·(exact G (aY aM) (G (aY (f8 _ aM)) rfl))
      ·refine G (a8 aM) ?_;by_cases a7:y=N[p]
       ·(exact G (aY a7) (G (aY (by rw [a7];exact fK)) (G a7 rfl)))
       ·(exact G (a8 a7) (G (a8 (λz=>(fw.mp z).elim a7 aM)) rfl))
    rcases bc with rfl|⟨u,v,w,rfl⟩
    ·refine iQ (vp kK e1) ZB (aqG ?_);exact body (mm':=[]) (Q:=λr H=>_) step
    ·refine iQ (vp kK e1) ZC (aqH ?_);exact body (mm':=[]) (Q:=λr H=>_) step
   ·have :p=N.length:=by lia
    subst this;exact mr (Jg kK (G (d0 ..) (cW _))) (h al re K mm S am a6 rfl rfl (by simp) (Vl.mp bU) (λy=>rfl) (λy=>by(exact G FX (G (a8 (by simp)) rfl))) (.refl K) bc)
end
end
section
variable {k:b3}{q:ez}
theorem abo{N:List Nat}(a2:uz N)(S:bP A al re K)(am:Inv al re)(a6:al.held=ac)(lj:re.nums=N)(aQ:al.pd=N)(bU:re.unl=[])
  (h:∀bJ re' aX,bP A bJ re' aX->Inv bJ re'->bJ.held=ac->bJ.pd=al.pd->oF re'=oF re->re'.writes=re.writes+(N.length:Int)->re'.unl=[]->(∀y,cnt bJ re' y=cnt al re y)->(∀y,e0 re' y=cnt al re y)->Fr fN K aX->k .none (ao aX)):aw (n+5) 848 [.new A.j,.new re.ns,.bool aA] (ao K) k:=by
 have :=a2.le;have kK:=S.ns;rw [lj] at kK;refine Y4 (pG kK ?_);refine afO a2 1000 0 _ al re K S am a6 rfl lj (by refine G bU ?_;simp;exact cQ (by assumption) (by decide)) (.inl rfl) (eI (by assumption) (by decide)) (hf _) λbJ re' aX mm g6 kD ai ak aZ cC gl gH qC a9 bc=>?_
 have j1:aj (aV (.new A.j) fU (ao aX)) λnV=>aj (bx nV q6 (ao aX)) λnw=>bB False (aw (n+4)) nw [] (ao aX) λtS g3=>k L.none g3:=by
  refine au (aN g6.j rfl rfl) (au (c1 g6.c rfl rfl) (HB g6 kD (cQ (by assumption) (by decide)) λgu ln un eb hk f7=>?_))
  refine h bJ _ gu eb (kD.flushed hk) ai ak aZ cC rfl (λy=>gH y) (λy=>?_) (a9.trans f7)
  have Qq:=qC y;rw [zm] at Qq;refine Eq.trans (b:=e0 re' y) rfl (Qq.trans ?_);split
  ·rfl
  ·rename_i hy;unfold cnt;cases e:gP y al.bs with
   |none=>rfl
   |some b=>refine cz (w1 e) λaz aT=>?_;have :=am.coh b az (G aT (G aQ hy)) (by refine G a6 ?_;nofun);rw [aT] at this;exact this.symm
 rcases bc with rfl|⟨u,v,w,rfl⟩
 ·exact W5 j1
 ·exact W6 j1
theorem Zx{a v:L}{H:an}:eu qa BQ (.one v) [(bQ,a)] H=J [(bQ,a),(bS,v)]:=by kernel_rfl
theorem Zy{a v aJ:L}{H:an}:eu qa BQ (.one v) [(bQ,a),(bS,aJ)] H=J [(bQ,a),(bS,v)]:=by kernel_rfl
theorem apL{N:List Nat}:∀(c3 p:Nat) (mm:Loc) (al:hq) (K:dB),bP A al re K->Inv al re->al.held=ac->re.nums=N->al.pd=N.drop p->(∀y,cnt al re y=e0 re y)->
   (mm=[(bQ,.new A.j)]\/ ∃v,mm=[(bQ,.new A.j),(bS,v)])->N.length<p+c3->p<=N.length->
   (∀bJ aX mm,bP A bJ re aX->Inv bJ re->bJ.held=ac->bJ.pd=[]->(∀y,cnt bJ re y=cnt al re y)->Fr fN K aX->(mm=[(bQ,.new A.j)]\/ ∃v,mm=[(bQ,.new A.j),(bS,v)])->q .next mm (ao aX))->
   gR False qa BQ (λm H q=>b1 False (aw (n+2)) (eh (bw (aW (aL 34 7)) 4)) qa m H q) (.lst re.ns) c3 p mm (ao K) q:=by
 intro c3;induction c3 with
 |zero=>
  exact @λp mm al K S am a6 lj iR aD bc ai ak h=>by
   exact absurd ai (n8.mpr ak)
 |succ c3 ih=>
  exact @λp mm al K S am a6 lj iR aD bc ai ak h=>by
   have kK:=S.ns;rw [lj] at kK;by_cases hp:p<N.length
   ·have e1:(N.map λ(n:Nat)=>L.int (n:Int))[p]? =J (.int (N[p]:Nat)):=by exact G kY (G (iy hp) rfl)
    refine iQ (mm':=[(bQ,.new A.j),(bS,.int (N[p]:Nat))]) (nF kK e1) ?_ ?_
    ·rcases bc with rfl|⟨v,rfl⟩
     ·exact Zx
     ·exact Zy
    have jZ:al.pd=N[p]::N.drop (p+1):=by(exact G iR (G (B6 hp) rfl))
    refine aqE (au (aN S.j rfl rfl) (au (c1 S.c rfl rfl) ?_));exact aba S am a6 (G jZ fK) aD λeK cn b6 d7 d1 g2 hx dJ=>ih (p+1) _ eK cn b6 d7 d1 lj (by(exact G (g2 ..) (G jZ (G (List.erase_cons_head ..) rfl)))) (λy=>(hx y).trans (aD y)) (.inr ⟨_,rfl⟩) (rO ai) hp λbJ aX mm' g6 kD ch cd ee mM i7=>h bJ aX mm' g6 kD ch cd (λy=>(ee y).trans (hx y)) (dJ.trans mM) i7
   ·have :p=N.length:=by lia
    subst this;exact mr (qL kK (G (d0 ..) (cW _))) (h al K mm S am a6 (by(exact G iR (G FX rfl))) (λy=>rfl) (.refl K) bc)
abbrev My(A:g1)(al:hq)(re:gj)(K:dB)(k:b3):Prop:=∀bJ re' aX,bP A bJ re' aX->Inv bJ re'->bJ.held=ac->bJ.pd=[]->re'.nums=[]->re'.calls=re.calls->re'.commits=re.commits+1->re'.writes=re.writes+2+2*(re.nums.length:Int)->re'.unl=[]->
 (∀y,gY y->cnt bJ re' y=cnt al re y/\e0 re' y=cnt al re y)->e0 re' 2=jv->Fr fN K aX->k .none (ao aX)
theorem abm(a2:uz re.nums)(S:bP A al re K)(am:Inv al re)(a6:al.held=ac)(aQ:al.pd=re.nums)(bU:re.unl=[])(h:My A al re K k):aw (n+6) 827 [.new A.j] (ao K) k:=by
 have :=a2.le;refine Y1 (au (c1 S.j rfl rfl) (abn a2 S am a6 rfl bU λeK as3 cn b6 d7 hu jC kn lf qr tf dJ=>?_))
 have PX:=b6.ns;rw [vq kn] at PX;refine au (c1 b6.j rfl rfl) (au (aN b6.j rfl rfl) ?_);refine Pm b6 d7 hu PX a2.le (by refine G qr ?_;decide) λca2 as4 dZ cc eY fy fz jV ot rQ tj asr fH=>?_
 refine au (c1 cc.j rfl rfl) (au (aN cc.j rfl rfl) ?_);refine abo (N:=re.nums) a2 cc eY fy (by(exact G (vq jV) (G (vq kn) rfl))) (fz.trans (jC.trans aQ)) rQ λz2 KX gu eb o4 bf aL wW Aa Ab PJ acf f7=>au (c1 eb.j rfl rfl) (gz (.x 5) ?_)
 have VI:=eb.app [(.x 5,.list [])];refine Pm (l:=[]) VI o4 bf c2 (hf _) (by refine G Ab ?_;decide) λpq tT jR gV rq ch cd ee jE jF mq tw n0=>?_
 have j0:tT.nums=re.nums:=by(exact G (vq ee) (G (vq wW) (G (vq jV) (G (vq kn) rfl))))
 have acQ:=gV.ns;have PD:∀y,cnt pq tT y=e0 tT y:=λy=>by(rewrite [mq];rw [tw]);split;rfl;(exact G (PJ ..) (G (acf ..) rfl))
 refine au (aN gV.j rfl rfl) (pG acQ ?_);refine apL (N:=re.nums) 1000 0 _ pq jR gV rq ch j0 (G cd (G aL (G fz (G jC (G aQ rfl))))) PD (.inl rfl) (eI (by assumption) (by decide)) (hf _) λCV kX mm lb jy d1 g2 hx je bc=>?_
 have j1:eq (ao kX) (.list []) λkd ni=>aj (ft (.new A.j) e5 kd ni) λmN=>eq mN (.dict []) λmx hE=>aj (ft (.new A.j) t0 mx hE) λjh=>aj (aV (.new A.j) sD jh) λzN=>kp zN (L.int 1) (a5 .Add zN (L.int 1) jh) λnR i0=>aj (ft (.new A.j) sD nR i0) λiI=>k L.none iI:=by
  have e7:=lb.app [(.ns,.list [])];refine gz .ns (au (iV e7.z e7.j (aC rfl) rfl rfl) ?_);have VL:=e7.setNs c2;have op:=VL.app [(.nt,.dict [])];refine gz .nt (au (iV op.z op.j (aC rfl) rfl rfl) ?_);have td:=op.setNt c2;refine au (aN td.j rfl rfl) (mU rfl (au (iV td.z td.j (aC rfl) rfl rfl) ?_));have pg:=td.setJ tT.calls (tT.commits+1);have Q6:=ee.trans (wW.trans (jV.trans kn));refine h CV _ _ pg ⟨jy.nd,jy.lt,jy.len,jy.cap,jy.bn,jy.bnk,jy.lak,jy.kek,⟨Cb,(λ_ h=>absurd h jl)⟩,jy.lav,λy=>rfl,jy.pdd,jy.pd8,jy.pdb,jy.pin,jy.ho,jy.coh,jy.unb⟩ d1 g2 rfl ?_ ?_ ?_ jF (λy hy=>?_) ?_ ?_
  ·exact congrArg (·.2.2.2.2.1) Q6
  ·exact congrArg (λz=>z+1) (congrArg (·.2.2.2.2.2) Q6)
  ·show tT.writes=_
   refine G jE (G Aa (G ot (G lf ?_)));lia
  ·have n2:¬y=2:=by unfold gY at hy;lia
   refine cz (tf y hy) λcA dc=>?_
   have e1:cnt pq tT y=cnt al re y:=by(exact G (mq ..) (G ((a8 n2) ..) (G (PJ ..) (G (tj ..) (G (a8 n2) (G cA rfl))))))
   exact⟨(hx y).trans e1,(PD y).symm.trans e1⟩
  ·show e0 tT 2=jv
   (exact G (tw ..) (G ((aY rfl) ..) (G aeT rfl)))
  ·exact dJ.trans (fH.trans (f7.trans ((Fr.app _ _).trans (n0.trans (je.trans ((Fr.app _ _).trans ((Fr.set e7.j rfl).trans ((Fr.app _ _).trans ((Fr.set op.j rfl).trans (Fr.set td.j rfl))))))))))
 rcases bc with rfl|⟨v,rfl⟩
 ·exact W1 j1
 ·exact W2 j1
theorem ahZ{l:List L}{fR:bh}(e:K[i]? =J (r,.list l))(e2:K[j]? =J (fR,.list []))(aQ:l≠ []):bW .NotEq (.new i) (.new j) (ao K)=J ae:=by
 show(match(ao K)[i]?,(ao K)[j]?with
  |J (.list a),J (.list b)|J (.scr a),J (.list b)=>if a.length=b.length then(if a.all hK&&b.all hK then J (a==b) else ac) else J aA
  |_,_=>ac).map (!·)=_
 refine G (d8 e) (G (d8 e2) ?_);show(if l.length=([]:List L).length then _ else J aA).map (!·)=_
 exact G (a8 (show¬l.length=([]:List L).length from λz=>aQ (List.length_eq_zero_iff.mp z))) rfl
theorem abk(S:bP A al re K)(ak:re.calls=2)(h:∀aX,bP A al {re with calls:=1} aX->Fr fN K aX->k .none (ao aX)):aw (n+1) 820 [.new A.j] (ao K) k:=by
 refine OX (au (aN S.j rfl rfl) (au (a:=re.calls==0) rfl (g7 (G ak rfl) (au (aN S.j rfl rfl) (mU rfl (au (iV S.z S.j (aC rfl) rfl rfl) ?_))))));have e:re.calls - 1=1:=U7.mpr ak;refine G e ?_;have b6:=S.setJ 1 re.commits;exact au (aN b6.j rfl rfl) (au (a:=aA) rfl (oq rfl (h _ b6 (Fr.set S.j rfl))))
theorem abl(a2:uz re.nums)(S:bP A al re K)(am:Inv al re)(a6:al.held=ac)(aQ:al.pd=re.nums)(bU:re.unl=[])(ai:re.calls=1)(hn:re.nums≠ [])(h:My A al {re with calls:=0} K k):aw (n+7) 820 [.new A.j] (ao K) k:=by
 refine OX (au (aN S.j rfl rfl) (au (a:=re.calls==0) rfl (g7 (G ai rfl) (au (aN S.j rfl rfl) (mU rfl (au (iV S.z S.j (aC rfl) rfl rfl) ?_))))));have e:re.calls - 1=0:=Int.sub_eq_zero.mpr ai;refine G e ?_;have b6:=S.setJ 0 re.commits;refine au (aN b6.j rfl rfl) (au (a:=ae) rfl (ph rfl (au (aN b6.j rfl rfl) (gz (.x 5) ?_))));have cc:=b6.app [(.x 5,.list [])];refine au (ahZ cc.ns c2 (λz=>hn (List.map_eq_nil_iff.mp z))) (ph rfl (au (c1 cc.j rfl rfl) ?_))
 exact abm (re:= {re with calls:=0}) a2 cc (am.calls 0 re.commits) a6 aQ bU λbJ re' aX g6 kD hu jC kn lf qr tf wN rN zP a9=>h bJ re' aX g6 kD hu jC kn lf qr tf wN rN zP ((Fr.set S.j rfl).trans ((Fr.app _ _).trans a9))
end
section
variable {U:List Nat}{a ap off x:Nat}{l:dI}
structure jx where
 (p0 p1 size:Nat)
structure cR where
 (img:Nat->List UInt8) (fl:Nat->jx) (nums:List Nat)
noncomputable def bm(a b c d:Bool):List UInt8:=255::(if b then(if a then 255 else 191) else(if a then 127 else 63))::(if d then(if c then 3 else 2) else(if c then 1 else 0))::f9 45 0
def ga(U:List Nat):List UInt8:=bm (U.contains 14) (U.contains 15) (U.contains 16) (U.contains 17)
noncomputable def hW(l:dI)(x:Nat):Nat:=(l[x/8]?.getD 0).toNat/2^(x%8)%2
theorem Z3:∀a b c d:Bool,hW (bm a b c d) 14=a.toNat/\hW (bm a b c d) 15=b.toNat/\hW (bm a b c d) 16=c.toNat/\hW (bm a b c d) 17=d.toNat:=by decide+kernel
noncomputable def xD(l:dI)(x:Nat):List UInt8:=l.set (x/8) (hV ((l[x/8]?.getD 0).toNat|||2^(x%8)))
noncomputable def i8(l:dI)(x:Nat):List UInt8:=l.set (x/8) (hV ((l[x/8]?.getD 0).toNat - 2^(x%8)))
theorem Z4:∀a b c d:Bool,xD (bm a b c d) 14=bm ae b c d/\xD (bm a b c d) 15=bm a ae c d/\xD (bm a b c d) 16=bm a b ae d/\xD (bm a b c d) 17=bm a b c ae:=by decide+kernel
theorem Z5:∀a b c d:Bool,i8 (bm ae b c d) 14=bm aA b c d/\i8 (bm a ae c d) 15=bm a aA c d/\i8 (bm a b ae d) 16=bm a b aA d/\i8 (bm a b c ae) 17=bm a b c aA:=by decide+kernel
theorem O9:∀a b c d:Bool,(bm a b c d).length=48:=by decide+kernel
def gG(x:Nat):Prop:=14<=x/\x<=17
theorem HX(h:gG x):x=14\/x=15\/x=16\/x=17:=
 (by decide:∀x,x<18->14<=x->(x=14\/x=15\/x=16\/x=17)) x (MY h.2) h.1
theorem uR(h:gG x):hW (ga U) x=(U.contains x).toNat:=by
 have :=Z3 (U.contains 14) (U.contains 15) (U.contains 16) (U.contains 17);rcases HX h with rfl|rfl|rfl|rfl
 ·exact this.1
 ·exact this.2.1
 ·exact this.2.2.1
 ·exact this.2.2.2
theorem aeD{y:Nat}:(y::U).contains x=(x==y||U.contains x):=uw
theorem O8(h:gG x):xD (ga U) x=ga (x::U):=by
 have :=Z4 (U.contains 14) (U.contains 15) (U.contains 16) (U.contains 17);unfold ga;simp only [aeD];rcases HX h with rfl|rfl|rfl|rfl
 ·exact this.1
 ·exact this.2.1
 ·exact this.2.2.1
 ·exact this.2.2.2
theorem G2{rL:List Nat}(h:∀x,gG x->U.contains x=rL.contains x):ga U=ga rL:=by
 unfold ga;(exact G (h 14 ⟨by decide,by decide⟩) (G (h 15 ⟨by decide,by decide⟩) (G (h 16 ⟨by decide,by decide⟩) (G (h 17 ⟨by decide,by decide⟩) rfl))))
theorem Z2{rL:List Nat}(h:gG x)(ai:U.contains x=ae)(ak:rL.contains x=aA)(aZ:∀y,gG y->¬y=x->U.contains y=rL.contains y):i8 (ga U) x=ga rL:=by
 have :=Z5 (U.contains 14) (U.contains 15) (U.contains 16) (U.contains 17);unfold ga;rcases HX h with rfl|rfl|rfl|rfl
 ·exact G ai (G ak (cU (aZ 15 ⟨by decide,by decide⟩ (by decide)) (cU (aZ 16 ⟨by decide,by decide⟩ (by decide)) (cU (aZ 17 ⟨by decide,by decide⟩ (by decide)) this.1))))
 ·exact G ai (G ak (cU (aZ 14 ⟨by decide,by decide⟩ (by decide)) (cU (aZ 16 ⟨by decide,by decide⟩ (by decide)) (cU (aZ 17 ⟨by decide,by decide⟩ (by decide)) this.2.1))))
 ·exact G ai (G ak (cU (aZ 14 ⟨by decide,by decide⟩ (by decide)) (cU (aZ 15 ⟨by decide,by decide⟩ (by decide)) (cU (aZ 17 ⟨by decide,by decide⟩ (by decide)) this.2.2.1))))
 ·exact G ai (G ak (cU (aZ 14 ⟨by decide,by decide⟩ (by decide)) (cU (aZ 15 ⟨by decide,by decide⟩ (by decide)) (cU (aZ 16 ⟨by decide,by decide⟩ (by decide)) this.2.2.2))))
noncomputable def cF(U:List Nat):Nat:=if U.contains 14=aA then 14 else if U.contains 15=aA then 15 else if U.contains 16=aA then 16 else 17
theorem qx(U:List Nat):gG (cF U):=by
 unfold cF gG;repeat' split
 all_goals omega
theorem adw:∀x,14<=x->x<cF U->U.contains x=ae:=by
 intro x ai ak;unfold cF at ak;split at ak
 ·omega
 ·rename_i a;split at ak
  ·have :x=14:=by exact Nat.eq_of_le_of_lt_succ ai ak
   subst this;simpa using a
  ·rename_i b;split at ak
   ·have :x=14\/x=15:=(by decide:∀x<16,14<=x->x=14\/x=15) x ak ai
    rcases this with rfl|rfl
    ·simpa using a
    ·simpa using b
   ·rename_i c;have :x=14\/x=15\/x=16:=Xn ai ak;rcases this with rfl|rfl|rfl
    ·simpa using a
    ·simpa using b
    ·simpa using c
theorem adx(bu:0∈U)(h:U.length<=4):U.contains (cF U)=aA:=by
 unfold cF;split
 ·assumption
 split
 ·assumption
 split
 ·assumption
 ·rename_i a b c;refine Bool.eq_false_iff.mpr λd=>?_
  have :=DZ (l:=[0,14,15,16,17]) (m:=U) (by decide) λx aO=>by
   simp only [fw,jl,or_false] at aO;rcases aO with rfl|rfl|rfl|rfl|rfl
   ·exact bu
   ·simpa using a
   ·simpa using b
   ·simpa using c
   ·simpa using d
  simp at this;omega
noncomputable def gq(l:dI)(aN:Nat)(x:dI):List UInt8:=l.take aN++x++l.drop (aN+x.length)
theorem xE{x:dI}(h:a+x.length<=l.length):(gq l a x).length=l.length:=by
 unfold gq;(refine G iz (G iz (G o5 (G wl ?_))));rw [pc (cQ (kZ _ _) h)];exact Nat.add_sub_cancel' h
theorem aoF:gq l a []=l:=by unfold gq;simp
theorem Tt{x:dI}{y:UInt8}(h:a+x.length<l.length):(gq l a x).set (a+x.length) y=gq l a (x++[y]):=by
 unfold gq;refine G (List.set_append_right _ _ (by rw [iz,o5];exact wm (sS _ _) _)) ?_
 have e:a+x.length - (l.take a++x).length=0:=by(refine G iz (G o5 ?_));rw [pc (jz (eI (kZ _ _) h))];exact Nat.sub_self _
 refine G e (G (B6 h) (G List.set_cons_zero ?_));simp [zu]
noncomputable def ak(x:Nat):List UInt8:=[hV (x%256),hV (x/256%256)]
theorem agL(x:Nat)(h:x<4294967296):hA x=ak (x%65536)++ak (x/65536%65536):=by
 have dg:lg x 0=x%65536%256:=by show x/1%256=_;(exact G (Nat.div_one ..) (G (Nat.mod_mod_of_dvd x (⟨256,rfl⟩:256∣65536) ..) rfl))
 have e1:lg x 1=x%65536/256%256:=by show x/256%256=_;(exact G (Vo x 256 256 ..) (G (Nat.mod_mod ..) rfl))
 have e2:lg x 2=x/65536%65536%256:=by show x/65536%256=_;(exact G (Nat.mod_mod_of_dvd _ (⟨256,rfl⟩:256∣65536)) rfl)
 have aP:lg x 3=x/65536%65536/256%256:=by show x/(65536*256)%256=_;(exact G (Vo (x/65536) 256 256 ..) (G (Nat.mod_mod ..) (G (Nat.div_div_eq_div_mul ..) rfl)))
 unfold hA ak;exact G dg (G e1 (G e2 (G aP rfl)))
def pN(f:jx):List UInt8:=[2,0,0,0,0,0,1,0]++hA f.size++hA f.p0++hA f.p1++hA 0
theorem Tb(f:jx):(pN f).length=24:=rfl
noncomputable def fq(f:Nat):Nat:=11+f/2
noncomputable def iU(f:Nat):Nat:=f%2*24
noncomputable def upd{ay:Type}(aB:Nat->ay)(x:Nat)(v:ay):Nat->ay:=λy=>if y=x then v else aB y
noncomputable def b2(P:cR):List Nat:=[(P.fl 1).p0,(P.fl 1).p1,(P.fl 2).p0,(P.fl 2).p1]
noncomputable def cJ(s:jx)(ix:Nat):Nat:=if ix=0 then s.p0 else s.p1
noncomputable def eF(s:jx)(ix v:Nat):jx:=if ix=0 then {s with p0:=v} else {s with p1:=v}
def pP(P:cR):cR:= {P with img:=upd (upd P.img 13 (ga (cF (b2 P)::b2 P))) (cF (b2 P)) jv,nums:=dT (cF (b2 P)) (dT 13 P.nums)}
def mn(P:cR)(f ix:Nat):cR:=if cJ (P.fl f) ix=0 then {pP P with fl:=upd P.fl f (eF (P.fl f) ix (cF (b2 P)))} else P
def putP(P:cR)(b a:Nat)(x:dI):cR:= {P with img:=upd P.img b (gq (P.img b) a x),nums:=dT b P.nums}
noncomputable def dp(off len ap:Nat):Nat:=min (48 - (off+ap)%48) (len - ap)
theorem ajb{len:Nat}:dp off len ap<=48:=cQ (sS _ _) (sT _ _)
theorem SF{len:Nat}:(off+ap)%48+dp off len ap<=48:=
 cQ (rv (sS _ _) _) (iB (Nat.add_sub_cancel' (jz (jo _ (by decide)))))
def jN(P:cR)(f off:Nat)(x:dI)(ap:Nat):cR:=
 let fj:=mn P f ((off+ap)/48)
 putP fj (cJ (fj.fl f) ((off+ap)/48)) ((off+ap)%48) ((x.drop ap).take (dp off x.length ap))
noncomputable def gy:Nat->cR->Nat->Nat->List UInt8->Nat->Nat×cR
 |0,P,_,_,_,ap=>(ap,P)
 |n+1,P,f,off,x,ap=>if ap<x.length/\P.nums.length<=4 then gy n (jN P f off x ap) f off x (ap+dp off x.length ap) else(ap,P)
theorem DV{n:Nat}{P:cR}{f:Nat}{x:dI}:gy (n+1) P f off x ap=if ap<x.length/\P.nums.length<=4 then gy n (jN P f off x ap) f off x (ap+dp off x.length ap) else(ap,P):=rfl
def qV(P:cR)(f:Nat):cR:= {P with img:=upd P.img (fq f) (gq (P.img (fq f)) (iU f) (pN (P.fl f))),nums:=dT (fq f) P.nums}
def tz(P:cR)(f n:Nat):cR:= {P with fl:=upd P.fl f {P.fl f with size:=max (P.fl f).size n}}
def pS(P:cR)(f off:Nat)(x:dI):Nat×cR:=
 let r:=gy (x.length+1) P f off x 0
 (r.1,qV (if 0<r.1 then tz r.2 f (off+r.1) else r.2) f)
def dL(P:cR)(x:Nat):cR:=if x=0 then P else {P with img:=upd P.img 13 (i8 (P.img 13) x),nums:=dT 13 P.nums}
def qZ(P:cR)(f:Nat):cR:=qV {dL (dL P (P.fl f).p0) (P.fl f).p1 with fl:=upd P.fl f ⟨0,0,0⟩} f
end
variable {ap off x:Nat}
section
variable {a c:Nat}{l:dI}
section
variable {k:b3}{q:ez}
theorem kr(h:0<c/\c<1000000):a5 .FloorDiv (.int a) (.int c) H=J (.int ((a/c:Nat):Int),H):=by
 show(if(c:Int)=0 then ac else if(c:Int).natAbs<1000000 then J (L.int ((a:Int).fdiv c),H) else ac)=_
 refine G (a8 (B4.mpr h.1)) (G (aY (by rw [Int.natAbs_natCast];exact h.2)) (G (MH _ (ht c)) ?_))
 rfl
theorem ks(h:0<c):a5 .Mod (.int a) (.int c) H=J (.int ((a%c:Nat):Int),H):=by
 show(if(c:Int)=0 then ac else J (L.int ((a:Int).fmod c),H))=_
 refine G (a8 (B4.mpr h)) (G (Int.fmod_eq_emod_of_nonneg _ (ht c)) ?_);rfl
theorem xl(ai:a<1000000)(ak:c<1000000):a5 .Mult (.int a) (.int c) H=J (.int ((a*c:Nat):Int),H):=by
 show(if cG (a:Int)&&cG (c:Int) then J (L.int ((a:Int)*c),H) else ac)=_
 exact G (mw (eE (by assumption) (by decide))) (G (mw (cQ (by assumption) (by decide))) (G (Int.natCast_mul ..) rfl))
theorem f3:a5 .Add (.int a) (.int c) H=J (.int ((a+c:Nat):Int),H):=by
 show J (L.int ((a:Int)+c),H)=_
 (exact G (B3 ..) rfl)
theorem Ef:a5 .RShift (.int a) (.int c) H=J (.int ((a/2^c:Nat):Int),H):=by
 show(if(0:Int)<=c then J (L.int ((a:Int).fdiv (2^(c:Int).toNat)),H) else ac)=_
 (exact G ((aY (ht _)) ..) (G (h8 ..) (G (Te ..) rfl)))
theorem OS:a5 .BitAnd (.int a) (.int 255) H=J (.int ((a%256:Nat):Int),H):=by
 show J (L.int (wy a 255),H)=_
 exact G (bitAnd_m8 ..) rfl
theorem OR:a5 .BitAnd (.int a) (.int 65535) H=J (.int ((a%65536:Nat):Int),H):=by
 show J (L.int (wy a 65535),H)=_
 exact G (bitAnd_m16 ..) rfl
theorem X5:a5 .BitAnd (.int a) (.int 7) H=J (.int ((a%8:Nat):Int),H):=by
 show J (L.int (wy a 7),H)=_
 exact G (bitAnd_m3 ..) rfl
theorem La(h:c<=1000):a5 .LShift (.int 1) (.int c) H=J (.int ((2^c:Nat):Int),H):=by
 show(if(0:Int)<=c/\(c:Int)<=1000/\cG 1=ae then J (L.int (1*2^(c:Int).toNat),H) else ac)=_
 refine G ((aY ⟨ht _,sI.mpr ‹_›,by rfl⟩) ..) (G (h8 ..) (G (Int.one_mul ..) ?_))
 congr 2
theorem aaI(S:bP A al re K){f:Nat}(aq:f=1\/f=2)(h:k (.new K.length) (ao (K++[(.x 0,.tup [.int (fq f),.int (iU f)])]))):aw (n+1) 182 [.new A.s,.int f] (ao K) k:=by
 refine Ym (au (aN S.s rfl rfl) (au (aN S.s rfl rfl) (a3 (kr (a:=f) (c:=2) (by decide)) (a3 (f3 (a:=11)) (au (aN S.s rfl rfl) (a3 (ks (a:=f) (c:=2) (by decide)) (au (aN S.s rfl rfl) (a3 (xl (a:=f%2) (c:=24) (n7 (jo _ (by decide)) (by decide)) (by decide)) (gz (.x 0) ?_)))))))))
 exact h
theorem wS(S:bP A al re K){x:Nat}(aO:x<22)(h:k (.new K.length) (ao (K++[(.x 0,.tup [.int 13,.int (x/8:Nat),.int (2^(x%8):Nat)])]))):aw (n+1) 189 [.new A.s,.int x] (ao K) k:=by
 refine Yn (a3 (Ef (a:=x) (c:=3)) (au (aN S.s rfl rfl) (au (aN S.s rfl rfl) (a3 (kr (a:=x/2^3) (c:=48) (by decide)) (a3 (f3 (a:=13)) (au (aN S.s rfl rfl) (a3 (ks (a:=x/2^3) (c:=48) (by decide)) (a3 X5 (a3 (La (c:=x%8) (by lia)) (gz (.x 0) ?_))))))))))
 have e1:13+x/2^3/48=13:=Xf aO;have e2:x/2^3%48=x/8:=by lia
 refine G e1 (G e2 ?_);exact h
theorem G9(S:bP A al re K)(h:k (.int 14) (ao K)):aw (n+1) 154 [.new A.s] (ao K) k:=Yk (au (aN S.s rfl rfl) (au (aN S.s rfl rfl) (a3 rfl h)))
theorem aaE(S:bP A al re K)(h:k (.int 672) (ao K)):aw (n+2) 161 [.new A.s] (ao K) k:=
 Yl (au (aN S.s rfl rfl) (au (c1 S.s rfl rfl) (G9 S (a3 rfl h))))
theorem Ec{y:Nat}(fk:gW K)(e:K[i]? =J (r,.ba l))(h:¬r=.scr)(aQ:l.length<=48)(hp:p<l.length)(hy:y<256):fS (.new i) (.at_ (.int p)) (.int y) (ao K)=J (ao (K.set i (r,.ba (l.set p (hV y))))):=by
 show(match(ao K)[i]?,L.int (p:Int) with
  |J (.list l),.int k=>if cG k=ae/\0<=k/\k<l.length then wr (ao K) i (.list (l.set k.toNat (.int y))) else ac
  |J (.ba l),.int k=>if bH l.length=ae/\0<=k/\k<l.length then(oK (.int y)).bind λc=>wr (ao K) i (.ba (l.set k.toNat c)) else ac
  |J (.dict l),k=>if fX k&&bH l.length then wr (ao K) i (.dict (g9 l k (.int y))) else ac
  |_,_=>ac)=_
 refine G (d8 e) ?_;show(if bH l.length=ae/\0<=(p:Int)/\(p:Int)<l.length then(oK (.int y)).bind λc=>wr (ao K) i (.ba (l.set (p:Int).toNat c)) else ac)=_
 refine G (aY ⟨fE (cQ (by assumption) (by decide)),ht _,mc.mpr ‹_›⟩) (G (vz hy) (G (h8 ..) ?_))
 exact q4 fk e h
theorem DH{x:UInt8}(e:K[i]? =J (r,.ba l))(hp:p<1000)(aO:l[p]? =J x):cj (.new i) (.at_ (.int p)) (ao K)=J (.int (x.toNat:Int),ao K):=by
 show(match(ao K)[i]?,L.int (p:Int) with
  |J (.list l),.int k=>if cG k then(ij l k).map (·,ao K) else ac
  |J (.tup l),.int k=>if cG k then(ij l k).map (·,ao K) else ac
  |J (.ba l),.int k=>if cG k then(ij l k).map (dh ·,ao K) else ac
  |J (.dict l),k=>if fX k then(dV l k).map (·,ao K) else ac
  |_,_=>ac)=_
 refine G (d8 e) ?_;show(if cG (p:Int) then(ij l (p:Int)).map (dh ·,ao K) else ac)=_
 refine G (mw (eE ‹_› (by decide))) (G (aY rfl) ?_)
 unfold ij;exact G (aY (ht _)) (G (h8 ..) (G (aO ..) rfl))
theorem wR{eW:dI}{v:Nat}(fk:gW K)(e:K[i]? =J (r,.ba (gq l a eW)))(c9:¬r=.scr)(j2:l.length=48)(hp:p=a+eW.length)(mZ:p+2<=48)(h:k .none (ao (K.set i (r,.ba (gq l a (eW++ak v)))))):aw (n+1) 118 [.new i,.int p,.int v] (ao K) k:=by
 subst hp;have hs:(gq l a eW).length=48:=G (xE (by lia)) j2
 refine Yi (a3 OS (au (Ec fk e c9 (iB hs) (by lia) (jo _ (by decide))) ?_))
 refine G (Tt (by lia)) ?_
 have hj:(gq l a (eW++[hV (v%256)])).length=48:=G (xE (by rw [iz];simp only [zq];lia)) j2
 have e1:=fo (o:=.ba (gq l a (eW++[hV (v%256)]))) e;refine a3 (Ef (a:=v) (c:=8)) (a3 OS (a3 (f3 (a:=a+eW.length) (c:=1)) (au (Ec (fk.set e c9) e1 c9 (iB hj) (MX mZ (id (rd hj))) (jo _ (by decide))) ?_)))
 have e2:a+eW.length+1=a+(eW++[hV (v%256)]).length:=G iz rfl;refine G e2 (G (Tt (by rw [iz];simp only [zq];exact MX mZ (id (rd j2)))) (G (sP ..) (G (FW ..) ?_)))
 exact h
theorem CR{eW:dI}{v:Nat}(fk:gW K)(e:K[i]? =J (r,.ba (gq l a eW)))(c9:¬r=.scr)(j2:l.length=48)(hp:p=a+eW.length)(mZ:p+4<=48)(hv:v<4294967296)(h:k .none (ao (K.set i (r,.ba (gq l a (eW++hA v)))))):aw (n+2) 125 [.new i,.int p,.int v] (ao K) k:=by
 refine Yj (a3 OR (wR fk e c9 j2 hp (by lia) (a3 (f3 (a:=p) (c:=2)) (a3 (Ef (a:=v) (c:=16)) (a3 OR ?_)))))
 refine wR (fk.set e c9) (fo e) c9 j2 (by refine G iz (G hp ?_);show _=_+(_+2);exact rfl) (by assumption) ?_
 refine G (sP ..) (G (FW ..) (cU (agL v hv) ?_));exact h
abbrev rZ(A:g1)(f:Nat)(s:jx)(l:Nat):bt:=.inst 281 [(eB,.new A.n),(bS,.int f),(iZ,.int 1),(z "kind",.int 2),(z "major",.int 0),(z "minor",.int 0),(z "links",.int 1),(dH,.int s.size),(eC,.new l)]
noncomputable abbrev lU(s:jx):bt:=.list [.int s.p0,.int s.p1,.int (0:Nat)]
theorem Zp{a b c u v:L}:eu uA E8 (.pair u v) [(bQ,a),(d2,b),(e4,c)] H=J [(bQ,a),(d2,b),(e4,c),(dQ,u),(bS,v)]:=by kernel_rfl
theorem OZ{a b c u v ef aJ:L}:eu uA E8 (.pair u v) [(bQ,a),(d2,b),(e4,c),(dQ,ef),(bS,aJ)] H=J [(bQ,a),(d2,b),(e4,c),(dQ,u),(bS,v)]:=by kernel_rfl
theorem aaK{f:Nat}{s:jx}{o l:Nat}{x:dI}(fk:gW K)(bX:K[o]? =J (.nd f,rZ A f s l))(ei:K[l]? =J (.pl f,lU s))(e:K[i]? =J (r,.ba x))(c9:¬r=.scr)(ai:¬r=.nd f)(vb:¬r=.pl f)(j2:x.length=48)(ha:a+24<=48)
  (hs:s.size<4294967296/\s.p0<4294967296/\s.p1<4294967296) (h:k .none (ao (K.set i (r,.ba (gq x a (pN s)))))):aw (n+3) 229 [.new o,.new i,.int a] (ao K) k:=by
 have dg:K[i]? =J (r,.ba (gq x a [])):=G aoF e;have uM:∀y,gW (K.set i (r,.ba y)):=λy=>fk.set e c9
 have os:∀y,(K.set i (r,.ba y))[o]? =J (.nd f,rZ A f s l):=λy=>aI e bX ai
 have A0:∀y,(K.set i (r,.ba y))[l]? =J (.pl f,lU s):=λy=>aI e ei vb
 have vn:∀y,(K.set i (r,.ba y))[i]? =J (r,.ba y):=λy=>fo e
 refine Yo (au (aN bX rfl rfl) (wR (v:=2) fk dg c9 j2 rfl (by simp;lia) (a3 (f3 (a:=a) (c:=2)) (au (aN (os _) rfl rfl) ?_))))
 refine wR (v:=0) (uM _) (vn _) c9 j2 rfl (by lia) (a3 (f3 (a:=a) (c:=4)) ?_)
 refine G (sP ..) (au (aN (os _) rfl rfl) (wR (v:=0) (uM _) (vn _) c9 j2 rfl (by lia) (a3 (f3 (a:=a) (c:=6)) ?_)))
 refine G (sP ..) (au (aN (os _) rfl rfl) (wR (v:=1) (uM _) (vn _) c9 j2 rfl (by lia) (a3 (f3 (a:=a) (c:=8)) ?_)))
 refine G (sP ..) (au (aN (os _) rfl rfl) (CR (uM _) (vn _) c9 j2 rfl (by lia) hs.1 ?_))
 refine G (sP ..) (au (aN (os _) rfl rfl) (pG (A0 _) ?_));refine iQ (vp (A0 _) rfl) Zp (LR (a3 (f3 (a:=a) (c:=12)) (a3 (xl (a:=4) (c:=0) (by decide) (by decide)) (a3 f3 ?_))))
 refine CR (uM _) (vn _) c9 j2 rfl (by lia) hs.2.1 (G (sP ..) (iQ (vp (A0 _) rfl) OZ (LR (a3 (f3 (a:=a) (c:=12)) (a3 (xl (a:=4) (c:=1) (by decide) (by decide)) (a3 f3 ?_))))))
 refine CR (uM _) (vn _) c9 j2 rfl (by lia) hs.2.2 (G (sP ..) (iQ (vp (A0 _) rfl) OZ (LR (a3 (f3 (a:=a) (c:=12)) (a3 (xl (a:=4) (c:=2) (by decide) (by decide)) (a3 f3 ?_))))))
 exact CR (uM _) (vn _) c9 j2 rfl (by assumption) (by decide) (G (sP ..) (mr (Jg (A0 _) (cW 3)) (WT h)))
theorem Bn{Q:an->Prop}(S:bP A al re K)(am:Inv al re)(hb:b∈al.bs)(a6:al.held=J b.num)(aQ:al.pd=re.nums)(aR:gY b.num)(aD:¬re.calls=0)(gI:b.num∈re.nums\/re.nums.length<8)
  (h:∀bJ d9 aX,bP A bJ {re with nums:=dT b.num re.nums,ntl:=d9} aX->Inv bJ {re with nums:=dT b.num re.nums,ntl:=d9}->bJ.held=ac->bJ.pd=dT b.num re.nums->(∀y,cnt bJ re y=cnt al re y)->Fr fN K aX->Q (ao aX)):
  aj (aV (.new A.n) hl (ao K)) λx=>aj (bx x mK (ao K)) λc=>bB False (aw (n+3)) c [.new b.o] (ao K) λ_ H=>aj (aV (.new A.n) fU H) λaT=>aj (bx aT oZ H) λdy=>bB False (aw (n+3)) dy [.new b.o] H λ_ H=>Q H:=by
 refine au (aN S.n rfl rfl) (au (c1 S.j rfl rfl) (abj S am hb a6 aQ aR aD gI λeK d9 cn fy b6 d7 ai ak j3 e1 e2 aP aZ dJ=>?_))
 refine au (aN b6.n rfl rfl) (au (c1 b6.c rfl rfl) ?_);refine cU e1 ?_;refine Hz b6 d7 j3 (by(exact G ai (G a6 (G e2 rfl)))) (λz=>absurd (by refine G ak (G e2 ?_);unfold dT;split;assumption;exact Ca _ fK) z) λca2 dZ cc eY d1 g2 hx fH=>?_
 exact h ca2 d9 dZ cc eY d1 (g2.trans ak) (λy=>(hx y).trans (aZ y)) (dJ.trans fH)
end
end
section
variable {aX:dB}{f t:Nat}{l:dI}
theorem X6:∀b,b<256->∀k,k<8->(b&&&2^k)=2^k*(b/2^k%2):=by decide+kernel
theorem ai1:∀b,b<256->∀k,k<8->(b|||2^k)+(b&&&2^k)=b+2^k:=by decide+kernel
theorem SC:∀b,b<256->∀k,k<8->(b|||2^k)<256:=by decide+kernel
theorem TB:∀b,b<256->∀k,k<8->b/2^k%2=1->2^k<=b:=by decide+kernel
noncomputable def r4(r:bh):Bool:=Cg r.1 18
theorem Fr.prg{K:dB}(h:Fr fN K aX):Fr r4 K aX:=λi r o e c9=>h i r o e (O7 (by decide) c9)
structure eQ(A:g1)(b7 cO:Nat->Nat)(al:hq)(re:gj)(P:cR)(K:dB):Prop where
 S:bP A al re K
 I:Inv al re
 hh:al.held=ac
 pd:al.pd=re.nums
 nf:∀f,f=1\/f=2->K[b7 f]? =J (.nd f,rZ A f (P.fl f) (cO f))/\K[cO f]? =J (.pl f,lU (P.fl f))
 img:∀y,gY y->cnt al re y=P.img y
 nums:re.nums=P.nums
 calls:¬re.calls=0
section
variable {b7 cO:Nat->Nat}{P:cR}{k:b3}{q:ez}
abbrev oo(A:g1)(b7:Nat->Nat)(re:gj)(K:dB)(P':cR)(Q:an->Prop):Prop:=∀bJ d9 m3 aX,eQ A b7 m3 bJ {re with nums:=P'.nums,ntl:=d9} P' aX->Fr r4 K aX->Q (ao aX)
theorem eQ.ex(aa:eQ A b7 cO al re P K)(h:ek K aX):eQ A b7 cO al re P aX:=⟨aa.S.ex h,aa.I,aa.hh,aa.pd,λf aq=>⟨h _ _ _ (aa.nf f aq).1,h _ _ _ (aa.nf f aq).2⟩,aa.img,aa.nums,aa.calls⟩
theorem hc{v:L}{l:List L}{k:L->List L->Prop}(h:k v l):fP (v::l) k:=h
theorem acC{al:hq}{re:gj}{D2:List Nat}{d9:List (L×L)}(y:Nat):cnt al {re with nums:=D2,ntl:=d9} y=cnt al re y:=rfl
theorem eQ.step{bJ:hq}{d9:List (L×L)}{P':cR}{m3:Nat->Nat}{hH:Nat}{x:dI}(aa:eQ A b7 cO al re P K)(g6:bP A bJ {re with nums:=dT hH re.nums,ntl:=d9} aX)(kD:Inv bJ {re with nums:=dT hH re.nums,ntl:=d9})(ai:bJ.held=ac)(ak:bJ.pd=dT hH re.nums)
  (aD:∀y,cnt bJ re y=if y=hH then x else cnt al re y) (e1:P'.nums=dT hH P.nums) (e2:∀y,gY y->P'.img y=if y=hH then x else P.img y)
  (fh:∀f,f=1\/f=2->aX[b7 f]? =J (.nd f,rZ A f (P'.fl f) (m3 f))/\aX[m3 f]? =J (.pl f,lU (P'.fl f))):eQ A b7 m3 bJ {re with nums:=P'.nums,ntl:=d9} P' aX:=by
 have e:dT hH re.nums=P'.nums:=by(exact G e1 (G aa.nums rfl))
 rw [e] at g6 kD;refine⟨g6,kD,ai,ak.trans e,fh,λy hy=>?_,rfl,aa.calls⟩
 refine G (acC ..) (G (aD ..) (G (e2 y hy ..) ?_));split
 ·rfl
 ·exact aa.img y hy
theorem eQ.room(aa:eQ A b7 cO al re P K){x:Nat}(h:x∈P.nums\/P.nums.length<8):x∈re.nums\/re.nums.length<8:=G aa.nums h
theorem D4(aq:f=1\/f=2):gY (fq f)/\fq f<22/\iU f+24<=48:=by
 rcases aq with rfl|rfl<;>exact⟨.inr (by decide),by decide,by decide⟩
theorem Pf(aq:f=1\/f=2)(aa:eQ A b7 cO al re P K)(hs:(P.fl f).size<4294967296/\(P.fl f).p0<4294967296/\(P.fl f).p1<4294967296)(gI:fq f∈P.nums\/P.nums.length<8)
  (h:oo A b7 re K (qV P f) λH=>k .none H):aw (n+4) 335 [.new A.n,.new (b7 f)] (ao K) k:=by
 refine dS (D4 aq) λdx el r9=>?_
 have b5:=aa.ex (.app K [(.x 0,.tup [.int (fq f),.int (iU f)])]);refine Yr (au (aN aa.S.n rfl rfl) (au (c1 aa.S.s rfl rfl) (au (aN (aa.nf f aq).1 rfl rfl) (aaI aa.S aq (nQ c2 rfl (hc (hc ?_)))))));refine au (aN b5.S.n rfl rfl) (au (c1 b5.S.c rfl rfl) (uW b5.S b5.I b5.hh el λca2 dZ b cc eY ai ak hb hn aD fH=>?_))
 have aB:=b5.nf f aq;have bX:=fH _ _ _ aB.1 rfl;have ei:=fH _ _ _ aB.2 rfl;refine au (c1 bX rfl rfl) (au (aN (cc.bo b hb) rfl rfl) (aaK cc.z bX ei (cc.bd b hb) (aC rfl) (aC rfl) (aC rfl) (eY.len b hb) r9 hs ?_));have f4:(gq b.data (iU f) (pN (P.fl f))).length=48:=G (xE (by rw [eY.len b hb,Tb];exact r9)) (eY.len b hb)
 have eb:=cc.setBd eY.nd hb (gq b.data (iU f) (pN (P.fl f)));refine cz (eY.data hb (by(exact G ai (G hn rfl))) f4) λo4 eT=>?_
 have IB:({b with data:=gq b.data (iU f) (pN (P.fl f))}:e6)∈hB b.num (λc=> {c with data:=gq b.data (iU f) (pN (P.fl f))}) ca2.bs:=hQ.mpr ⟨b,hb,aY rfl⟩
 refine Bn (b:= {b with data:=gq b.data (iU f) (pN (P.fl f))}) (Q:=λH=>k .none H) eb o4 IB (by rw [<-hn] at ai;exact ai) (ak.trans aa.pd) (G hn dx) aa.calls (G hn (aa.room gI)) λpq d9 jR gV rq ch cd ee n0=>?_
 have a9:Fr fN K jR:=(Fr.app K _).trans (fH.trans ((Fr.set (cc.bd b hb) rfl).trans n0));rw [hn] at gV rq cd;refine h pq d9 cO jR (aa.step (x:=gq (P.img (fq f)) (iU f) (pN (P.fl f))) gV rq ch cd (λy=>?_) rfl (λy _=>rfl) λf' lN=>⟨a9 _ _ _ (aa.nf f' lN).1 rfl,a9 _ _ _ (aa.nf f' lN).2 rfl⟩) a9.prg
 refine G (ee ..) (G (eT ..) (G hn ?_));have jZ:b.data=P.img (fq f):=cU (u0 eY hb) (G hn (G (aD ..) (aa.img _ dx)));refine G (jZ ..) ?_;split
 ·rfl
 ·exact aD y
theorem aaQ(ce:14<=t/\t<22)(aa:eQ A b7 cO al re P K)(gI:t∈P.nums\/P.nums.length<8)(h:oo A b7 re K {P with img:=upd P.img t jv,nums:=dT t P.nums} λH=>k .none H):aw (n+4) 377 [.new A.n,.int t] (ao K) k:=by
 have ai2:gY t:=.inr (Ch ce.1);refine Yu (au (aN aa.S.n rfl rfl) (au (c1 aa.S.c rfl rfl) (uW aa.S aa.I aa.hh ce.2 λca2 dZ b cc eY ai ak hb hn aD fH=>?_)))
 rw [<-hn] at ai;refine au (c1 (cc.bo b hb) rfl rfl) (aa4 cc eY hb ai λz2 gu eb o4 d1 g2 IB eT f7=>?_)
 refine Bn (b:= {b with data:=jv}) (Q:=λH=>k .none H) eb o4 IB (d1.trans ai) (g2.trans (ak.trans aa.pd)) (G hn ai2) aa.calls (G hn (aa.room gI)) λpq d9 jR gV rq ch cd ee n0=>?_
 have a9:=fH.trans (f7.trans n0);rw [hn] at gV rq cd;refine h pq d9 cO jR (aa.step (x:=jv) gV rq ch cd (λy=>?_) rfl (λy _=>rfl) λf' lN=>⟨a9 _ _ _ (aa.nf f' lN).1 rfl,a9 _ _ _ (aa.nf f' lN).2 rfl⟩) a9.prg
 refine G (ee ..) (G (eT ..) (G (hn ..) ?_));split
 ·rfl
 ·exact aD y
theorem OY{x:Nat}{c:UInt8}(hp:l[x/8]? =J c):a5 .BitAnd (.int (c.toNat:Int)) (.int ((2^(x%8):Nat):Int)) H=J (.int ((2^(x%8)*hW l x:Nat):Int),H):=by
 show J (L.int (wy _ _),H)=_
 refine G (bitAnd_pp (ht _) (ht _) ..) (G (h8 ..) (G (h8 ..) (G (X6 _ (rM _) _ (jo _ (by decide))) ?_)))
 unfold hW;exact G hp rfl
theorem EW{xG:Loc->an->(Bool->an->Prop)->Prop}{body:Loc->an->(jw->Loc->an->Prop)->Prop}{mm:Loc}{H:an}{q:ez}(h:xG mm H λb H=>match b with
 |aA=>q .next mm H
 |ae=>body mm H λdn m H=>match dn with
  | .next| .cont=>l3 False xG body f m H q
  | .brk=>q .next m H
  | .ret v=>q (.ret v) m H):l3 False xG body (f+1) mm H q:=h
abbrev Od(A:g1)(i x:Nat)(mm:Loc):Prop:=mm=[(bQ,.new A.n),(gf,.new i),(dQ,.int 13),(bS,.int x)]\/ ∃u v w,mm=[(bQ,.new A.n),(gf,.new i),(dQ,.int 13),(bS,.int x),(iY,u),(e4,v),(z "bit",w)]
theorem adu(ce:t<22)(aQ:l.length=48)(aD:hW l t=0):∀(d x c3:Nat) (mm:Loc) (K:dB),bP A al re K->K[i]? =J (r,.ba l)->x+d=t->(∀y,x<=y->y<t->hW l y=1)->Od A i x mm->d<c3->
    (∀aX,ek K aX->k (.int t) (ao aX))->l3 False (λm H q=>ge False (aw (n+1)) (fD (bw (aW (aL 23 10)) 0) 0) (λH k=>bO False (aw (n+1)) (fD (bw (aW (aL 23 10)) 0) 0) jS m H k) jS m H q)
     (λm H q=>b1 False (aw (n+1)) (eh (bw (aW (aL 23 10)) 0)) jS m H q) c3 mm (ao K) (ed (aw (n+1)) ((aW (aL 23 10)).drop 1) jS (dM k))
 :=by
  intro d x c3;induction c3 generalizing d x with
  |zero=>exact λmm K S e bA hb bc aq h=>absurd aq (M0 d)
  |succ c3 ih=>
   exact λmm K S e bA hb bc aq h=>by
    have aO:x<22:=by lia
    have b6:=S.app [(.x 0,.tup [.int 13,.int (x/8:Nat),.int (2^(x%8):Nat)])];have oT:∀ {Q:Bool->an->Prop},Q ae (ao K)->aj (aV (.new A.n) hO (ao K)) λaz=>aj (aV az mG (ao K)) λaT=>aj (bW .Lt (.int x) aT (ao K)) λeT=>Q eT (ao K):=λ{Q} jG=>
     au (aN S.n rfl rfl) (au (aN S.s rfl rfl) (au (a:=ae) (by show J (eo ((x:Int)<22))=_;(exact G (decide_eq_true (mc.mpr ‹_›)) rfl)) jG))
    have body:∀ {R Nx:an->Prop},(d=0->R (ao (K++[(.x 0,.tup [.int 13,.int (x/8:Nat),.int (2^(x%8):Nat)])])))->(¬d=0->Nx (ao (K++[(.x 0,.tup [.int 13,.int (x/8:Nat),.int (2^(x%8):Nat)])])))->
      aF (cj (.new i) (.at_ (.int (x/8:Nat))) (ao (K++[(.x 0,.tup [.int 13,.int (x/8:Nat),.int (2^(x%8):Nat)])]))) λv H=>aF (a5 .BitAnd v (.int (2^(x%8):Nat)) H) λw H=>aj (bW .Eq w (L.int 0) H) λc=>bo .Or c (R H) (Nx H):=λ{R Nx} ai ak=>by
     have hp:l[x/8]? =J (l[x/8]'(GR aO aQ)):=iy _;refine a3 (DH (cf e) (eI (wn ..) (eE ‹_› (by decide))) hp) (a3 (OY hp) ?_)
     refine au (a:=(((2^(x%8)*hW l x:Nat):Int)==0)) rfl ?_;by_cases q:d=0
     ·have :x=t:=by lia
      subst this;exact G aD (ai0 rfl (ai q))
     ·refine G (hb x (cW _) (by lia)) (G (Nat.mul_one ..) ?_)
      refine lr ?_ (ak q);have :=Nat.two_pow_pos (x%8);simp only [beq_eq_false_iff_ne,ne_eq];exact B4.mpr this
    have RW:¬d=0->∀mm',Od A i (x+1) mm'->l3 False (λm H q=>ge False (aw (n+1)) (fD (bw (aW (aL 23 10)) 0) 0) (λH k=>bO False (aw (n+1)) (fD (bw (aW (aL 23 10)) 0) 0) jS m H k) jS m H q)
     (λm H q=>b1 False (aw (n+1)) (eh (bw (aW (aL 23 10)) 0)) jS m H q) c3 mm' (ao (K++[(.x 0,.tup [.int 13,.int (x/8:Nat),.int (2^(x%8):Nat)])])) (ed (aw (n+1)) ((aW (aL 23 10)).drop 1) jS (dM k)):=λAB mm' i7=>
     ih (d - 1) (x+1) mm' _ b6 (cf e) (Xm bA AB) (λy ai ak=>hb y (jz (by assumption)) ak) i7 (Nat.sub_one_lt_of_le (Nat.pos_of_ne_zero AB) (Nat.le_of_lt_succ aq)) λaX aO=>h aX ((ek.app K _).trans aO)
    have cp:d=0->k (.int x) (ao (K++[(.x 0,.tup [.int 13,.int (x/8:Nat),.int (2^(x%8):Nat)])])):=λAB=>by
     have :x=t:=by lia
     subst this;exact h _ (ek.app K _)
    refine EW ?_;rcases bc with rfl|⟨u,v,w,rfl⟩
    ·refine ao1 (oT (Q:=λb H=>_) ?_)
     refine aqx (au (aN S.n rfl rfl) (au (c1 S.s rfl rfl) (wS S aO (nQ c2 rfl (hc (hc (hc (au (a:=aA) rfl (lr rfl ?_)))))))));refine body (R:=λH=>_) (Nx:=λH=>_) (λq=>?_) (λq=>?_)
     ·exact cp q
     ·exact a3 (f3 (a:=x) (c:=1)) (RW q _ (.inr ⟨_,_,_,rfl⟩))
    ·refine ao2 (oT (Q:=λb H=>_) ?_)
     refine aqy (au (aN S.n rfl rfl) (au (c1 S.s rfl rfl) (wS S aO (nQ c2 rfl (hc (hc (hc (au (a:=aA) rfl (lr rfl ?_)))))))));refine body (R:=λH=>_) (Nx:=λH=>_) (λq=>?_) (λq=>?_)
     ·exact cp q
     ·exact a3 (f3 (a:=x) (c:=1)) (RW q _ (.inr ⟨_,_,_,rfl⟩))
theorem aaP(ce:t<22)(Iw:14<=t)(aQ:l.length=48)(aD:hW l t=0)(hb:∀y,14<=y->y<t->hW l y=1)(S:bP A al re K)(e:K[i]? =J (r,.ba l))(h:∀aX,ek K aX->k (.int t) (ao aX)):
  aw (n+2) 370 [.new A.n,.new i,.int 13,.int 14] (ao K) k:=
 Yt (ags (adu ce aQ aD (t - 14) 14 1000 _ K S e (Cf Iw) hb (.inl rfl) (eI (sT ..) (eE ‹_› (by decide))) h))
end
end
variable {f:Nat}{b7 cO:Nat->Nat}{P:cR}
section
variable {k:b3}{q:ez}
theorem Q0{l:List L}{p:Nat}{x:L}(e:K[i]? =J (r,.tup l))(hp:p<1000)(aO:l[p]? =J x):cj (.new i) (.at_ (.int p)) (ao K)=J (x,ao K):=by
 show(match(ao K)[i]?,L.int (p:Int) with
  |J (.list l),.int k=>if cG k then(ij l k).map (·,ao K) else ac
  |J (.tup l),.int k=>if cG k then(ij l k).map (·,ao K) else ac
  |J (.ba l),.int k=>if cG k then(ij l k).map (dh ·,ao K) else ac
  |J (.dict l),k=>if fX k then(dV l k).map (·,ao K) else ac
  |_,_=>ac)=_
 refine G (d8 e) ?_;show(if cG (p:Int) then(ij l (p:Int)).map (·,ao K) else ac)=_
 (refine G (mw (eE ‹_› (by decide))) (G (aY rfl) ?_))
 unfold ij;(refine G (aY (ht _)) (G (h8 ..) (G (aO ..) ?_)));rfl
theorem hL{l:List L}{p:Nat}{x:L}(e:K[i]? =J (r,.list l))(hp:p<1000)(aO:l[p]? =J x):cj (.new i) (.at_ (.int p)) (ao K)=J (x,ao K):=by
 show(match(ao K)[i]?,L.int (p:Int) with
  |J (.list l),.int k=>if cG k then(ij l k).map (·,ao K) else ac
  |J (.tup l),.int k=>if cG k then(ij l k).map (·,ao K) else ac
  |J (.ba l),.int k=>if cG k then(ij l k).map (dh ·,ao K) else ac
  |J (.dict l),k=>if fX k then(dV l k).map (·,ao K) else ac
  |_,_=>ac)=_
 refine G (d8 e) ?_;show(if cG (p:Int) then(ij l (p:Int)).map (·,ao K) else ac)=_
 (refine G (mw (eE ‹_› (by decide))) (G (aY rfl) ?_))
 unfold ij;(refine G (aY (ht _)) (G (h8 ..) (G (aO ..) ?_)));rfl
theorem afZ{l:List L}(e:K[i]? =J (r,.tup l))(h:1<=l.length/\l.length<=10)(s:bh):cj (.new i) (.sl (J 1) ac) (ao K)=J (.new K.length,ao (K++[(s,.tup (l.drop 1))])):=by
 show(match(ao K)[i]?with
  |J (.list l)|J (.scr l)=>if bH l.length then(jY l (J 1) ac).map λl=>(L.new (ao K).length,ao K++[bt.list l]) else ac
  |J (.tup l)=>if 1<=(1:Int)/\(1:Int)<=l.length/\bH l.length=ae then J (L.new (ao K).length,ao K++[bt.tup (l.drop (1:Int).toNat)]) else ac
  |_=>ac)=_
 refine G (d8 e) ?_;show(if 1<=(1:Int)/\(1:Int)<=l.length/\bH l.length=ae then J (L.new (ao K).length,ao K++[bt.tup (l.drop (1:Int).toNat)]) else ac)=_
 exact G (aY ⟨ht _,Int.toNat_le.mp h.1,fE (by lia)⟩) (G (nB (r:=s)) (G mo rfl))
theorem vI{l:List L}{p:Nat}{v:L}(fk:gW K)(e:K[i]? =J (r,.list l))(h:¬r=.scr)(hp:p<l.length)(aQ:l.length<1000):fS (.new i) (.at_ (.int p)) v (ao K)=J (ao (K.set i (r,.list (l.set p v)))):=by
 show(match(ao K)[i]?,L.int (p:Int) with
  |J (.list l),.int k=>if cG k=ae/\0<=k/\k<l.length then wr (ao K) i (.list (l.set k.toNat v)) else ac
  |J (.ba l),.int k=>if bH l.length=ae/\0<=k/\k<l.length then(oK v).bind λc=>wr (ao K) i (.ba (l.set k.toNat c)) else ac
  |J (.dict l),k=>if fX k&&bH l.length then wr (ao K) i (.dict (g9 l k v)) else ac
  |_,_=>ac)=_
 refine G (d8 e) ?_;show(if cG (p:Int)=ae/\0<=(p:Int)/\(p:Int)<l.length then wr (ao K) i (.list (l.set (p:Int).toNat v)) else ac)=_
 refine G (aY ⟨mw (by lia),ht _,mc.mpr ‹_›⟩) (G (h8 ..) ?_)
 exact q4 fk e h
theorem Pb{l:dI}{x:Nat}{c:UInt8}(hp:l[x/8]? =J c):a5 .BitOr (.int (c.toNat:Int)) (.int ((2^(x%8):Nat):Int)) H=J (.int (((l[x/8]?.getD 0).toNat|||2^(x%8):Nat):Int),H):=by
 show J (L.int (Builtin.bitOr _ _),H)=_
 (refine G (bitOr_and ..) (G (bitAnd_pp (ht _) (ht _) ..) (G (h8 ..) (G (h8 ..) ?_))))
 have :=ai1 c.toNat (rM _) (x%8) (jo _ (by decide))
 refine G hp ?_;show J (L.int _,H)=J (L.int ((c.toNat|||2^(x%8):Nat):Int),H)
 congr 2
 congr 1
 exact Xe this
theorem sh{a c:Nat}(h:c<=a):a5 .Sub (.int a) (.int c) H=J (.int ((a - c:Nat):Int),H):=by
 show J (L.int ((a:Int) - c),H)=_
 (exact G (Int.ofNat_sub h) rfl)
theorem uO{x:Nat}{l:List Nat}:(dT x l).length<=l.length+1:=by unfold dT;split;exact kZ l.length 1;(refine G iz ?_);exact cW _
theorem lM:gY 13:=.inr (by decide)
theorem aaO(aa:eQ A b7 cO al re P K)(hb:P.img 13=ga (b2 P))(aq:(b2 P).contains (cF (b2 P))=aA)(hn:P.nums.length<=6)(h:oo A b7 re K (pP P) λH=>k (.int (cF (b2 P))) H):aw (n+6) 363 [.new A.n] (ao K) k:=by
 have ce:=qx (b2 P);unfold gG at ce;refine Ys (au (aN aa.S.n rfl rfl) (au (aN aa.S.s rfl rfl) (agr (EW (f:=999) (ao0 (au (aN aa.S.n rfl rfl) (au (aN aa.S.s rfl rfl) (au (a:=ae) rfl ?_))))))));refine aqw (au (aN aa.S.n rfl rfl) (au (c1 aa.S.s rfl rfl) (wS (x:=14) aa.S (by decide) ?_)))
 have b5:=aa.ex (.app K [(.x 0,.tup [.int 13,.int (14/8:Nat),.int (2^(14%8):Nat)])]);refine a3 (Q0 (p:=0) c2 (by decide) rfl) (au (aN b5.S.n rfl rfl) (au (c1 b5.S.c rfl rfl) (uW (m:=13) b5.S b5.I b5.hh (by decide) λca2 dZ b cc eY ai ak f5 j4 aD fH=>?_)))
 rw [<-j4] at ai;have jZ:b.data=ga (b2 P):=by(exact cU (u0 eY f5 ..) (G j4 (G (aD ..) (G (aa.img 13 lM ..) (G hb rfl)))))
 have dl:b.data.length=48:=eY.len b f5;refine au (c1 cc.n rfl rfl) (au (aN (cc.bo b f5) rfl rfl) (aaP (by lia) ce.1 dl (by(refine G jZ (G (uR (qx _)) (G aq ?_)));rfl) (λy cA dc=>by(refine G jZ (G (uR ⟨cA,by lia⟩) (G (adw y cA dc) ?_)));rfl) cc (cc.bd b f5) λgu te=>?_))
 have eb:=cc.ex te;refine au (aN eb.n rfl rfl) (au (aN eb.s rfl rfl) (au (a:=ae) (by show J (eo ((cF (b2 P):Int)<22))=_;(exact G (decide_eq_true (by lia)) rfl)) (jq rfl (au (aN eb.n rfl rfl) (au (c1 eb.s rfl rfl) (wS eb (by lia) ?_))))))
 have gV:=eb.app [(.x 0,.tup [.int 13,.int (cF (b2 P)/8:Nat),.int (2^(cF (b2 P)%8):Nat)])];refine a3 (Q0 (p:=0) c2 (by decide) rfl) (au (a:=ae) rfl (jq rfl (au (aN gV.n rfl rfl) (au (c1 gV.s rfl rfl) (wS gV (by lia) ?_)))))
 have lb:=gV.app [(.x 0,.tup [.int 13,.int (cF (b2 P)/8:Nat),.int (2^(cF (b2 P)%8):Nat)])];refine a3 (afZ c2 ⟨mQ rfl,mQ rfl⟩ (.x 0)) (nQ c2 rfl (hc (hc ?_)));have ol:=lb.app [(.x 0,.tup [.int (cF (b2 P)/8:Nat),.int (2^(cF (b2 P)%8):Nat)])];have hp:b.data[cF (b2 P)/8]? =J (b.data[cF (b2 P)/8]'(uN ce.2 dl)):=iy _;have m6:=SC (b.data[cF (b2 P)/8]?.getD 0).toNat (rM _) (cF (b2 P)%8) (jo _ (by decide))
 refine au (aN (ol.bo b f5) rfl rfl) (a3 (DH (ol.bd b f5) (CL ce.2) hp) (a3 (Pb hp) (au (aN (ol.bo b f5) rfl rfl) (au (Ec ol.z (ol.bd b f5) (aC rfl) (iB dl) (uN ce.2 dl) m6) ?_))));have Ag:b.data.set (cF (b2 P)/8) (hV ((b.data[cF (b2 P)/8]?.getD 0).toNat|||2^(cF (b2 P)%8)))=ga (cF (b2 P)::b2 P):=by
  have :=O8 (U:=b2 P) (qx (b2 P));rw [<-jZ] at this;exact this
 refine G Ag ?_;have f4:(ga (cF (b2 P)::b2 P)).length=48:=O9 _ _ _ _;have zK:=ol.setBd eY.nd f5 (ga (cF (b2 P)::b2 P));obtain⟨zc,hw⟩:=eY.data f5 ai f4;have Ax:({b with data:=ga (cF (b2 P)::b2 P)}:e6)∈hB b.num (λc=> {c with data:=ga (cF (b2 P)::b2 P)}) ca2.bs:=hQ.mpr ⟨b,f5,aY rfl⟩
 refine Bn (b:= {b with data:=ga (cF (b2 P)::b2 P)}) zK zc Ax ai (ak.trans aa.pd) (G j4 lM) aa.calls (G j4 (aa.room (.inr (eI ‹_› (by decide))))) λz3 d9 sK tc sH ch cd ee yU=>?_
 have a9:Fr fN K sK:=(Fr.app K _).trans (fH.trans (te.fr.trans ((Fr.app gu _).trans ((Fr.app _ _).trans ((Fr.app _ _).trans ((Fr.set (ol.bd b f5) rfl).trans yU))))));rw [j4] at tc sH cd;have MD:eQ A b7 cO z3 {re with nums:=dT 13 P.nums,ntl:=d9} {P with img:=upd P.img 13 (ga (cF (b2 P)::b2 P)),nums:=dT 13 P.nums} sK:=aa.step (P':= {P with img:=upd P.img 13 (ga (cF (b2 P)::b2 P)),nums:=dT 13 P.nums}) (x:=ga (cF (b2 P)::b2 P)) tc sH ch cd (λy=>by refine G (ee ..) (G (hw ..) (G (j4 ..) ?_));split;rfl;exact aD y) rfl (λy _=>rfl) λf' lN=>⟨a9 _ _ _ (aa.nf f' lN).1 rfl,a9 _ _ _ (aa.nf f' lN).2 rfl⟩
 refine jq rfl (au (c1 MD.S.n rfl rfl) (aaQ ⟨Nat.succ_le_of_lt ce.1,by lia⟩ MD (.inr (eI uO (by lia))) λabA aix aie U9 Uy Uw=>?_))
 exact h abA aix aie U9 Uy (a9.prg.trans Uw)
theorem aaS{x:Nat}(aO:gG x)(aa:eQ A b7 cO al re P K)(aeF:hW (P.img 13) x=1)(gI:13∈P.nums\/P.nums.length<8)(h:oo A b7 re K (dL P x) λH=>k .none H):aw (n+4) 384 [.new A.n,.int x] (ao K) k:=by
 unfold gG at aO;refine Yv (au (aN aa.S.n rfl rfl) (au (aN aa.S.s rfl rfl) (au (a:=ae) (by show J (eo ((14:Int)<=x))=_;(exact G (decide_eq_true (Int.toNat_le.mp aO.1)) rfl)) (jq rfl (au (aN aa.S.n rfl rfl) (au (aN aa.S.s rfl rfl) (au (a:=ae) (by show J (eo ((x:Int)<22))=_;(exact G (decide_eq_true (by lia)) rfl)) (g7 rfl ?_))))))))
 refine au (aN aa.S.n rfl rfl) (au (c1 aa.S.s rfl rfl) (wS aa.S (by lia) (nQ c2 rfl (hc (hc (hc ?_))))))
 have b5:=aa.ex (.app K [(.x 0,.tup [.int 13,.int (x/8:Nat),.int (2^(x%8):Nat)])]);refine au (aN b5.S.n rfl rfl) (au (c1 b5.S.c rfl rfl) (uW (m:=13) b5.S b5.I b5.hh (by decide) λca2 dZ b cc eY ai ak f5 j4 aD fH=>?_))
 rw [<-j4] at ai;have jZ:b.data=P.img 13:=by(exact cU (u0 eY f5 ..) (G j4 (G (aD ..) (G (aa.img 13 lM ..) rfl))))
 have dl:b.data.length=48:=eY.len b f5;have hp:b.data[x/8]? =J (b.data[x/8]'(uN aO.2 dl)):=iy _;have wQ:hW b.data x=1:=G jZ aeF;refine au (aN (cc.bo b f5) rfl rfl) (a3 (DH (cc.bd b f5) (CL aO.2) hp) (a3 (OY hp) (au (a:=ae) ?_ (jq rfl ?_))))
 ·refine G wQ (G (Nat.mul_one ..) ?_);have :=Nat.two_pow_pos (x%8);show J (!(((2^(x%8):Nat):Int)==0))=_
  have e:(((2^(x%8):Nat):Int)==0)=aA:=by simp only [beq_eq_false_iff_ne,ne_eq];exact B4.mpr this
  exact G e rfl
 have le:2^(x%8)<=(b.data[x/8]'(uN aO.2 dl)).toNat:=by
  refine TB _ (rM _) _ (jo _ (by decide)) ?_
  have :=wQ;unfold hW at this;rw [hp] at this;exact this
 refine au (aN (cc.bo b f5) rfl rfl) (a3 (DH (cc.bd b f5) (CL aO.2) hp) (a3 (sh le) (au (aN (cc.bo b f5) rfl rfl) (au (Ec cc.z (cc.bd b f5) (aC rfl) (iB dl) (uN aO.2 dl) (eI (sT _ _) (rM _))) ?_))));have Ag:b.data.set (x/8) (hV ((b.data[x/8]'(uN aO.2 dl)).toNat - 2^(x%8)))=i8 (P.img 13) x:=by refine cU jZ ?_;unfold i8;exact G hp rfl
 refine G Ag ?_;have f4:(i8 (P.img 13) x).length=48:=by unfold i8;(refine G zp (cU jZ ?_));exact dl
 have zK:=cc.setBd eY.nd f5 (i8 (P.img 13) x);obtain⟨zc,hw⟩:=eY.data f5 ai f4;have Ax:({b with data:=i8 (P.img 13) x}:e6)∈hB b.num (λc=> {c with data:=i8 (P.img 13) x}) ca2.bs:=hQ.mpr ⟨b,f5,aY rfl⟩
 refine Bn (b:= {b with data:=i8 (P.img 13) x}) zK zc Ax ai (ak.trans aa.pd) (by(refine G j4 ?_);exact lM) aa.calls (by(refine G j4 ?_);exact aa.room gI) λz3 d9 sK tc sH ch cd ee yU=>?_
 have a9:Fr fN K sK:=(Fr.app K _).trans (fH.trans ((Fr.set (cc.bd b f5) rfl).trans yU));rw [j4] at tc sH cd;have kq:dL P x= {P with img:=upd P.img 13 (i8 (P.img 13) x),nums:=dT 13 P.nums}:=a8 (Nat.ne_zero_of_lt aO.1)
 rw [kq] at h;exact g7 rfl (h z3 d9 cO sK (aa.step (x:=i8 (P.img 13) x) tc sH ch cd (λy=>by refine G (ee ..) (G (hw ..) (G (j4 ..) ?_));split;rfl;exact aD y) rfl (λy _=>rfl) λf' lN=>⟨a9 _ _ _ (aa.nf f' lN).1 rfl,a9 _ _ _ (aa.nf f' lN).2 rfl⟩) a9.prg)
end
section
variable {ix v:Nat}
theorem gd{ay:Type}{aB:Nat->ay}{v:ay}:upd aB x v x=v:=aY rfl
theorem iW{ay:Type}{aB:Nat->ay}{y:Nat}{v:ay}(h:¬y=x):upd aB x v y=aB y:=a8 h
structure et(P:cR):Prop where
 bmp:P.img 13=ga (b2 P)
 pl:∀f,f=1\/f=2->∀ix,ix=0\/ix=1->cJ (P.fl f) ix=0\/gG (cJ (P.fl f) ix)
 sz:∀f,f=1\/f=2->(P.fl f).size<1000
 dj:∀f,f=1\/f=2->∀ix,ix=0\/ix=1->∀f',f'=1\/f'=2->∀qM,qM=0\/qM=1->¬(f=f'/\ix=qM)->cJ (P.fl f) ix=cJ (P.fl f') qM->cJ (P.fl f) ix=0
theorem nH:x∈b2 P↔ ∃f,(f=1\/f=2)/\∃ix,(ix=0\/ix=1)/\cJ (P.fl f) ix=x:=by
 unfold b2;simp only [fw,jl,or_false];constructor
 ·rintro (h|h|h|h)
  ·exact⟨1,.inl rfl,0,.inl rfl,h.symm⟩
  ·exact⟨1,.inl rfl,1,.inr rfl,h.symm⟩
  ·exact⟨2,.inr rfl,0,.inl rfl,h.symm⟩
  ·exact⟨2,.inr rfl,1,.inr rfl,h.symm⟩
 ·rintro ⟨f,rfl|rfl,ix,rfl|rfl,h⟩
  ·exact .inl h.symm
  ·exact .inr (.inl h.symm)
  ·exact .inr (.inr (.inl h.symm))
  ·exact .inr (.inr (.inr h.symm))
theorem w7{U:List Nat}:U.contains x=ae↔x∈U:=by simp
theorem Dq{U rL:List Nat}(h:x∈U↔x∈rL):U.contains x=rL.contains x:=fB t6 (fB w7 (fB w7 h))
theorem Bc{s:jx}{qM:Nat}(h:ix=0\/ix=1)(av:qM=0\/qM=1):cJ (eF s ix v) qM=if qM=ix then v else cJ s qM:=by
 rcases h with rfl|rfl<;>rcases av with rfl|rfl<;>rfl
theorem D5{s:jx}:(eF s ix v).size=s.size:=by unfold eF;split<;>rfl
theorem TQ{Q:cR}(aq:f=1\/f=2)(hi:ix=0\/ix=1)(jG:Q.fl=upd P.fl f (eF (P.fl f) ix v)){aB c4:Nat}(bj:aB=1\/aB=2)(cY:c4=0\/c4=1):
  cJ (Q.fl aB) c4=if aB=f/\c4=ix then v else cJ (P.fl aB) c4:=by
 refine G jG ?_;by_cases h:aB=f
 ·subst h;refine G gd (G (Bc hi cY) ?_);by_cases ak:c4=ix
  ·(exact G (aY ak) (G (aY ⟨rfl,ak⟩) rfl))
  ·(exact G (a8 ak) (G (a8 (λz=>ak z.2)) rfl))
 ·(exact G (iW h) (G (a8 (λz=>h z.1)) rfl))
theorem Ic(aq:f=1\/f=2)(hi:ix=0\/ix=1)(bu:cJ (P.fl f) ix=0):(b2 P).contains (cF (b2 P))=aA:=
 adx (nH.mpr ⟨f,aq,ix,hi,bu⟩) (cW 4)
theorem et.blkP(W:et P){f ix:Nat}(aq:f=1\/f=2)(hi:ix=0\/ix=1):et (mn P f ix)/\gG (cJ ((mn P f ix).fl f) ix):=by
 unfold Mine.Internal.P.mn;by_cases bu:cJ (P.fl f) ix=0
 ·refine G (aY bu) ?_;have fr:=Ic aq hi bu;have E:=λ{aB c4:Nat} (bj:aB=1\/aB=2) (cY:c4=0\/c4=1)=>TQ (P:=P) (Q:= {pP P with fl:=upd P.fl f (eF (P.fl f) ix (cF (b2 P)))}) aq hi rfl bj cY
  have RY:∀aB,aB=1\/aB=2->∀c4,c4=0\/c4=1->¬cJ (P.fl aB) c4=cF (b2 P):=λaB bj c4 cY z=>by
   have :cF (b2 P)∈b2 P:=nH.mpr ⟨aB,bj,c4,cY,z⟩;rw [<-w7,fr] at this;exact b8 this
  refine⟨⟨?_,λaB bj c4 cY=>?_,λaB bj=>?_,λaB bj c4 cY nC qE oG qF gX bl=>?_⟩,?_⟩
  ·have :=qx (b2 P);unfold gG at this;show upd (upd P.img 13 _) (cF (b2 P)) jv 13=_
   refine G (iW (mf this.1)) (G gd ?_);refine G2 λx aO=>Dq ?_
   unfold gG at aO;refine fB fw (fB nH (fB nH ?_));constructor
   ·rintro (rfl|⟨aB,bj,c4,cY,e⟩)
    ·exact⟨f,aq,ix,hi,by(exact G (E aq hi) (G (aY ⟨rfl,rfl⟩) rfl))⟩
    ·refine⟨aB,bj,c4,cY,?_⟩;refine G (E bj cY) ?_;by_cases q:aB=f/\c4=ix
     ·rw [q.1,q.2,bu] at e;lia
     ·exact G (a8 q) e
   ·rintro ⟨aB,bj,c4,cY,e⟩
    rw [E bj cY] at e;by_cases q:aB=f/\c4=ix
    ·rw [aY q] at e;exact .inl e.symm
    ·rw [a8 q] at e;exact .inr ⟨aB,bj,c4,cY,e⟩
  ·refine G (E bj cY) ?_;split
   ·exact .inr (qx _)
   ·exact W.pl aB bj c4 cY
  ·show(upd P.fl f (eF (P.fl f) ix (cF (b2 P))) aB).size<1000
   by_cases q:aB=f
   ·subst q;exact G gd (G D5 (W.sz aB bj))
   ·exact G (iW q) (W.sz aB bj)
  ·rw [E bj cY] at bl⊢;rw [E qE qF] at bl;by_cases q:aB=f/\c4=ix
   ·rw [aY q] at bl;by_cases iE:nC=f/\oG=ix
    ·exact absurd ⟨q.1.trans iE.1.symm,q.2.trans iE.2.symm⟩ gX
    ·rw [a8 iE] at bl;exact absurd bl.symm (RY nC qE oG qF)
   ·rw [a8 q] at bl⊢;by_cases iE:nC=f/\oG=ix
    ·rw [aY iE] at bl;exact absurd bl (RY aB bj c4 cY)
    ·rw [a8 iE] at bl;exact W.dj aB bj c4 cY nC qE oG qF gX bl
  ·exact G (E aq hi) (G (aY ⟨rfl,rfl⟩) (qx _))
 ·exact G (a8 bu) (⟨W,(W.pl f aq ix hi).resolve_left bu⟩)
theorem et.img{Q:cR}(W:et P)(ai:Q.img 13=P.img 13)(ak:Q.fl=P.fl):et Q:=by
 refine⟨?_,?_,?_,?_⟩
 ·refine G ai (G W.bmp ?_);unfold b2;(exact G ak rfl)
 ·exact G ak W.pl
 ·exact G ak W.sz
 ·exact G ak W.dj
theorem et.putP(W:et P){b a:Nat}{x:dI}(hb:gG b):et (putP P b a x):=W.img (iW (by unfold gG at hb;exact mf hb.1)) rfl
theorem et.rowP(W:et P){f:Nat}(aq:f=1\/f=2):et (qV P f):=W.img (iW (by rcases aq with rfl|rfl<;>decide)) rfl
theorem et.growP(W:et P){f n:Nat}(hn:n<1000):et (tz P f n):=by
 have E:∀aB c4,cJ ((Mine.Internal.P.tz P f n).fl aB) c4=cJ (P.fl aB) c4:=λaB c4=>by
  show cJ (upd P.fl f _ aB) c4=_
  by_cases q:aB=f
  ·subst q;exact G gd rfl
  ·(exact G (iW q) rfl)
 refine⟨?_,λaB bj c4 cY=>by refine G (E ..) ?_;exact W.pl aB bj c4 cY,λaB bj=>?_,λaB bj c4 cY nC qE oG qF gX bl=>by rw [E] at bl⊢;rw [E] at bl;exact W.dj aB bj c4 cY nC qE oG qF gX bl⟩
 ·refine W.bmp.trans (G2 λx _=>Dq ?_)
  refine fB nH (fB nH ?_);simp only [E]
 ·show(upd P.fl f _ aB).size<1000
  by_cases q:aB=f
  ·subst q;refine G gd ?_;have :=W.sz aB bj;lia
  ·exact G (iW q) (W.sz aB bj)
theorem et.give(W:et P){f ix:Nat}(aq:f=1\/f=2)(hi:ix=0\/ix=1):et {dL P (cJ (P.fl f) ix) with fl:=upd P.fl f (eF (P.fl f) ix 0)}/\(cJ (P.fl f) ix≠0->hW (P.img 13) (cJ (P.fl f) ix)=1):=by
 have E:=λ{aB c4:Nat} (bj:aB=1\/aB=2) (cY:c4=0\/c4=1)=>TQ (P:=P) (Q:= {dL P (cJ (P.fl f) ix) with fl:=upd P.fl f (eF (P.fl f) ix 0)}) (v:=0) aq hi rfl bj cY
 refine⟨⟨?_,λaB bj c4 cY=>?_,λaB bj=>?_,λaB bj c4 cY nC qE oG qF gX bl=>?_⟩,λbu=>?_⟩
 ·by_cases bu:cJ (P.fl f) ix=0
  ·have e:∀aB c4,(aB=1\/aB=2)->(c4=0\/c4=1)->cJ (upd P.fl f (eF (P.fl f) ix 0) aB) c4=cJ (P.fl aB) c4:=λaB c4 bj cY=>by
    refine(E bj cY).trans ?_;split
    ·rename_i q;(exact G q.1 (G q.2 (G bu rfl)))
    ·rfl
   show(dL P (cJ (P.fl f) ix)).img 13=_
   unfold dL;refine G (aY bu) (G W.bmp ?_);refine G2 λx _=>Dq (fB nH (fB nH ?_))
   constructor
   ·rintro ⟨aB,bj,c4,cY,z⟩;exact⟨aB,bj,c4,cY,(e aB c4 bj cY).trans z⟩
   ·rintro ⟨aB,bj,c4,cY,z⟩;exact⟨aB,bj,c4,cY,(e aB c4 bj cY).symm.trans z⟩
  ·have hb:=(W.pl f aq ix hi).resolve_left bu;show(dL P (cJ (P.fl f) ix)).img 13=_
   unfold dL;refine G (a8 bu) ?_;show upd P.img 13 _ 13=_
   refine G gd (G W.bmp ?_);refine Z2 hb (w7.mpr (nH.mpr ⟨f,aq,ix,hi,rfl⟩)) (Bool.eq_false_iff.mpr λz=>?_) λy hy gX=>Dq ?_
   ·rw [w7,nH] at z;refine ar3 z λaB bj c4 cY z=>?_
    have z:=(E bj cY).symm.trans z;by_cases q:aB=f/\c4=ix
    ·rw [aY q] at z;exact bu z.symm
    ·rw [a8 q] at z;exact bu (z▸W.dj aB bj c4 cY f aq ix hi q z)
   ·refine fB nH (fB nH ?_);unfold gG at hy;constructor
    ·rintro ⟨aB,bj,c4,cY,z⟩
     refine⟨aB,bj,c4,cY,(E bj cY).trans ?_⟩;exact G (a8 (λq=>gX (by rw [<-z,q.1,q.2]))) z
    ·rintro ⟨aB,bj,c4,cY,z⟩
     have z:=(E bj cY).symm.trans z;by_cases q:aB=f/\c4=ix
     ·rw [aY q] at z;lia
     ·rw [a8 q] at z;exact⟨aB,bj,c4,cY,z⟩
 ·refine G (E bj cY) ?_;split
  ·exact .inl rfl
  ·exact W.pl aB bj c4 cY
 ·show(upd P.fl f _ aB).size<1000
  by_cases q:aB=f
  ·subst q;exact G gd (G D5 (W.sz aB bj))
  ·exact G (iW q) (W.sz aB bj)
 ·rw [E bj cY] at bl⊢;rw [E qE qF] at bl;by_cases q:aB=f/\c4=ix
  ·(exact G (aY q) rfl)
  ·rw [a8 q] at bl⊢;by_cases iE:nC=f/\oG=ix
   ·rw [aY iE] at bl;exact bl
   ·rw [a8 iE] at bl;exact W.dj aB bj c4 cY nC qE oG qF gX bl
 ·exact G W.bmp (G (uR ((W.pl f aq ix hi).resolve_left bu)) (G (w7.mpr (nH.mpr ⟨f,aq,ix,hi,rfl⟩)) rfl))
theorem xk{y:Nat}{l:List Nat}:x∈dT y l↔x=y\/x∈l:=by
 unfold dT;split
 ·rename_i h;exact⟨λz=>.inr z,λz=>z.elim (λz=>z▸h) id⟩
 ·exact fB md (fB jk (⟨λz=>z.elim .inr .inl,λz=>z.elim .inr .inl⟩))
theorem Bb{off ap:Nat}{x:dI}(aq:f=1\/f=2)(hi:(off+ap)/48=0\/(off+ap)/48=1):(jN P f off x ap).nums.length<=P.nums.length+2:=by
 show(dT (cJ ((mn P f ((off+ap)/48)).fl f) ((off+ap)/48)) (mn P f ((off+ap)/48)).nums).length<=_
 by_cases bu:cJ (P.fl f) ((off+ap)/48)=0
 ·have e:mn P f ((off+ap)/48)= {pP P with fl:=upd P.fl f (eF (P.fl f) ((off+ap)/48) (cF (b2 P)))}:=aY bu
  refine G e ?_;have :dT (cJ (upd P.fl f (eF (P.fl f) ((off+ap)/48) (cF (b2 P))) f) ((off+ap)/48)) (dT (cF (b2 P)) (dT 13 P.nums))=dT (cF (b2 P)) (dT 13 P.nums):=by
   refine G gd (G (Bc hi hi) (G (aY rfl) ?_));exact aY (xk.mpr (.inl rfl))
  show(dT (cJ (upd P.fl f (eF (P.fl f) ((off+ap)/48) (cF (b2 P))) f) ((off+ap)/48)) (dT (cF (b2 P)) (dT 13 P.nums))).length<=_
  refine G this ?_;have a:=uO (x:=cF (b2 P)) (l:=dT 13 P.nums);have b:=uO (x:=13) (l:=P.nums);lia
 ·have e:mn P f ((off+ap)/48)=P:=a8 bu;refine G e ?_;have :=uO (x:=cJ (P.fl f) ((off+ap)/48)) (l:=P.nums);exact uC this
theorem et.pieceP(W:et P){f off ap:Nat}{x:dI}(aq:f=1\/f=2)(hi:(off+ap)/48=0\/(off+ap)/48=1):et (jN P f off x ap):=(W.blkP aq hi).1.putP (W.blkP aq hi).2
theorem JF{off:Nat}{x:dI}(aq:f=1\/f=2)(aR:off+x.length<=96):∀(n:Nat) {P:cR} {ap:Nat},et P->ap<=x.length->et (gy n P f off x ap).2/\(P.nums.length<=6->(gy n P f off x ap).2.nums.length<=6)/\(gy n P f off x ap).1<=x.length
 |0,P,ap,W,bA=>⟨W,id,bA⟩
 |n+1,P,ap,W,bA=>by
  refine G DV ?_;split
  ·rename_i h;have hi:(off+ap)/48=0\/(off+ap)/48=1:=tg aR h.1;have a2:=Bb (P:=P) (x:=x) aq hi;have afd:dp off x.length ap<=x.length - ap:=rx _ _;exact dS (JF aq aR n (W.pieceP (x:=x) aq hi) (ap:=ap+dp off x.length ap) ((Nat.le_sub_iff_add_le' bA).mp afd)) λa b c=>⟨a,λ_=>b (by lia),c⟩
  ·exact⟨W,id,bA⟩
end
variable {ix:Nat}
section
variable {a:Nat}{x:dI}
section
variable {k:b3}{q:ez}
theorem vB{s:jx}{ix:Nat}(hi:ix=0\/ix=1):([.int s.p0,.int s.p1,.int (0:Nat)]:List L)[ix]? =J (.int (cJ s ix)):=by rcases hi with rfl|rfl<;>rfl
theorem SK{s:jx}{ix v:Nat}(hi:ix=0\/ix=1):([.int s.p0,.int s.p1,.int (0:Nat)]:List L).set ix (.int v)=[.int (eF s ix v).p0,.int (eF s ix v).p1,.int (0:Nat)]:=by rcases hi with rfl|rfl<;>rfl
theorem RN{f f':Nat}(h:¬f=f'):¬bh.nd f=bh.nd f':=λz=>h (congrArg rz z)
theorem aje{f f':Nat}(h:¬f=f'):¬bh.pl f=bh.pl f':=λz=>h (congrArg rz z)
theorem eQ.setPl(aa:eQ A b7 cO al re P K)(aq:f=1\/f=2)(s:jx)(hs:s.size=(P.fl f).size):eQ A b7 cO al re {P with fl:=upd P.fl f s} (K.set (cO f) (.pl f,lU s)):=by
 have e:=(aa.nf f aq).2;refine⟨aa.S.set e rfl,aa.I,aa.hh,aa.pd,λaB bj=>?_,aa.img,aa.nums,aa.calls⟩
 have h:=aa.nf aB bj;by_cases q:aB=f
 ·subst q;refine G (show({P with fl:=upd P.fl aB s}:cR).fl aB=s from gd) (⟨aI e ?_ (aC rfl),fo e⟩)
  have :=h.1;unfold rZ at this⊢;exact G hs this
 ·exact G (show({P with fl:=upd P.fl f s}:cR).fl aB=P.fl aB from iW q) (⟨aI e h.1 (aC rfl),aI e h.2 (aje λz=>q z.symm)⟩)
theorem eQ.setSz(aa:eQ A b7 cO al re P K)(aq:f=1\/f=2)(v:Nat):eQ A b7 cO al re {P with fl:=upd P.fl f {P.fl f with size:=v}} (K.set (b7 f) (.nd f,rZ A f {P.fl f with size:=v} (cO f))):=by
 have e:=(aa.nf f aq).1;refine⟨aa.S.set e rfl,aa.I,aa.hh,aa.pd,λaB bj=>?_,aa.img,aa.nums,aa.calls⟩
 have h:=aa.nf aB bj;by_cases q:aB=f
 ·subst q;exact G (show({P with fl:=upd P.fl aB {P.fl aB with size:=v}}:cR).fl aB= {P.fl aB with size:=v} from gd) (⟨fo e,aI e h.2 (aC rfl)⟩)
 ·exact G (show({P with fl:=upd P.fl f {P.fl f with size:=v}}:cR).fl aB=P.fl aB from iW q) (⟨aI e h.1 (RN λz=>q z.symm),aI e h.2 (aC rfl)⟩)
theorem eQ.setLs(aa:eQ A b7 cO al re P K)(aq:f=1\/f=2){u p0 p1:Nat}(e2:K[u]? =J (.pl f,lU ⟨p0,p1,(P.fl f).size⟩)):eQ A b7 (upd cO f u) al re {P with fl:=upd P.fl f ⟨p0,p1,(P.fl f).size⟩} (K.set (b7 f) (.nd f,rZ A f (P.fl f) u)):=by
 have e:=(aa.nf f aq).1;refine⟨aa.S.set e rfl,aa.I,aa.hh,aa.pd,λaB bj=>?_,aa.img,aa.nums,aa.calls⟩
 have h:=aa.nf aB bj;by_cases q:aB=f
 ·subst q;refine G (show({P with fl:=upd P.fl aB ⟨p0,p1,(P.fl aB).size⟩}:cR).fl aB=⟨p0,p1,(P.fl aB).size⟩ from gd) (G gd ?_)
  exact⟨fo e,aI e e2 (aC rfl)⟩
 ·refine G (show({P with fl:=upd P.fl f ⟨p0,p1,(P.fl f).size⟩}:cR).fl aB=P.fl aB from iW q) (G (iW q) ?_)
  exact⟨aI e h.1 (RN λz=>q z.symm),aI e h.2 (aC rfl)⟩
theorem aaT(aq:f=1\/f=2)(hi:ix=0\/ix=1)(aa:eQ A b7 cO al re P K)(W:et P)(hn:P.nums.length<=4)(h:oo A b7 re K (mn P f ix) λH=>k (.int (cJ ((mn P f ix).fl f) ix)) H):aw (n+7) 398 [.new A.n,.new (b7 f),.int ix,.bool ae] (ao K) k:=by
 refine cz (aa.nf f aq) λe1 e2=>?_
 refine Yw (au (aN aa.S.n rfl rfl) (au (aN aa.S.s rfl rfl) (au (a:=ae) (by show J (eo ((ix:Int)<2))=_;(exact G (decide_eq_true (by lia)) rfl)) (jq rfl (au (aN e1 rfl rfl) (a3 (hL e2 (by lia) (vB hi)) ?_))))))
 refine au (a:=((cJ (P.fl f) ix:Int)==0)) rfl ?_;by_cases bu:cJ (P.fl f) ix=0
 ·have kq:mn P f ix= {pP P with fl:=upd P.fl f (eF (P.fl f) ix (cF (b2 P)))}:=aY bu
  rw [kq] at h;refine ph (G bu rfl) (au rfl (ph rfl (au (c1 aa.S.n rfl rfl) (aaO aa W.bmp (Ic aq hi bu) (cQ ‹_› (by decide)) λeK d9 jr cn b5 dJ=>?_))))
  have aB:=b5.nf f aq;refine au (aN aB.1 rfl rfl) (au (vI b5.S.z aB.2 (aC rfl) (by show ix<3;lia) (mQ rfl)) ?_)
  refine G (SK hi) ?_;have gg:=b5.setPl aq (eF (P.fl f) ix (cF (b2 P))) D5;have g2:=gg.nf f aq;have lk:({pP P with fl:=upd (pP P).fl f (eF (P.fl f) ix (cF (b2 P)))}:cR).fl f=eF (P.fl f) ix (cF (b2 P)):=gd
  rw [lk] at g2;refine au (aN g2.1 rfl rfl) (a3 (hL g2.2 (by lia) (vB hi)) ?_)
  have :=h eK d9 jr _ gg (dJ.trans (Fr.set aB.2 rfl));rw [show({pP P with fl:=upd P.fl f (eF (P.fl f) ix (cF (b2 P)))}:cR).fl f=eF (P.fl f) ix (cF (b2 P)) from gd] at this
  exact this
 ·have kq:mn P f ix=P:=a8 bu;rw [kq] at h;refine oq (by simp only [beq_eq_false_iff_ne,ne_eq];exact Int.ofNat_ne_zero.mpr bu) (au (aN e1 rfl rfl) (a3 (hL e2 (by lia) (vB hi)) ?_))
  refine h al re.ntl cO K ?_ (.refl K);exact cU aa.nums aa
theorem RH{c:Nat}:cH (.builtin "min") [.int a,.int c] H=J (.int ((min a c:Nat):Int),H):=by
 show J (L.int (if(c:Int)<a then(c:Int) else a),H)=_
 congr 3
 split<;>lia
theorem aca{l:dI}{c:Nat}(aQ:bH l.length=ae)(ai:a<1000)(ak:c<1000):cj (.bytes l) (.sl (J (a:Int)) (J ((a+c:Nat):Int))) H=J (.bytes ((l.drop a).take c),H):=by
 show(if bH l.length then(jY l (J (a:Int)) (J ((a+c:Nat):Int))).map (L.bytes ·,H) else ac)=_
 refine G ((aY aQ) ..) ?_;show(if 0<=(a:Int)/\0<=((a+c:Nat):Int)/\cG (a:Int)=ae/\cG ((a+c:Nat):Int)=ae then J ((l.take ((a+c:Nat):Int).toNat).drop (a:Int).toNat) else ac).map (L.bytes ·,H)=_
 refine G (aY ⟨ht _,ht _,mw (eE ‹_› (by decide)),mw (by lia)⟩) (G (h8 ..) (G (h8 ..) (G List.drop_take ?_)))
 have :a+c - a=c:=Vm a c;exact G this rfl
theorem aoG{l:dI}(h:a+x.length<=l.length):vK l (J (a:Int)) (J ((a+x.length:Nat):Int)) x=J (gq l a x):=by
 show(if 0<=(a:Int)/\(a:Int)<=((a+x.length:Nat):Int)/\((a+x.length:Nat):Int)<=l.length/\(x.length:Int)=((a+x.length:Nat):Int) - a then J (l.take (a:Int).toNat++x++l.drop ((a+x.length:Nat):Int).toNat) else ac)=_
 exact G (aY ⟨ht _,Int.le.intro x.length rfl,sI.mpr ‹_›,rd (U7.mpr rfl)⟩) (G (h8 ..) (G (h8 ..) rfl))
theorem Ji{a c:Int}{k:Option Int->Option Int->Prop}(h:k (J a) (J c)):jJ (eA (.int a)) (eA (.int c)) k:=h
theorem aaX{ap:Nat}(aq:f=1\/f=2)(aa:eQ A b7 cO al re P K)(W:et P)(hn:P.nums.length<=4)(bA:ap<x.length)(aR:off+x.length<=96)(h:oo A b7 re K (jN P f off x ap) λH=>k (.int (dp off x.length ap)) H):
  aw (n+8) 426 [.new A.n,.new (b7 f),.int (off+ap:Nat),.bytes x,.int ap] (ao K) k:=by
 have hi:(off+ap)/48=0\/(off+ap)/48=1:=tg aR bA;refine Yy (au (c1 aa.S.n rfl rfl) (au (aN aa.S.n rfl rfl) (au (aN aa.S.s rfl rfl) (a3 (kr (a:=off+ap) (c:=48) (by decide)) (aaT aq hi aa W hn λeK d9 jr cn b5 dJ=>?_)))))
 refine cz (W.blkP aq hi) λwL jd=>?_
 generalize hP1:mn P f ((off+ap)/48)=fj at *
 generalize hbk:cJ (fj.fl f) ((off+ap)/48)=bk at *
 have m6:gY bk:=by unfold gG at jd;exact .inr (Ch jd.1)
 have w2:bH x.length=ae:=fE (GV aR);refine au (aN b5.S.n rfl rfl) (au (aN b5.S.s rfl rfl) (a3 (ks (a:=off+ap) (c:=48) (by decide)) (au (aN b5.S.n rfl rfl) (au (aN b5.S.s rfl rfl) (a3 (sh (a:=48) (c:=(off+ap)%48) (jz (jo _ (by decide)))) (a3 (AW w2) (a3 (sh (a:=x.length) (c:=ap) (jz ‹_›)) (a3 RH ?_))))))))
 have ii:min (48 - (off+ap)%48) (x.length - ap)=dp off x.length ap:=rfl;refine G ii ?_;have hp:dp off x.length ap<=48 - (off+ap)%48/\dp off x.length ap<=x.length - ap:=⟨sS _ _,rx _ _⟩;refine au (aN b5.S.n rfl rfl) (au (c1 b5.S.c rfl rfl) (uW (m:=bk) b5.S b5.I b5.hh (by unfold gG at jd;lia) λca2 dZ b cc eY ai ak f5 j4 aD fH=>?_))
 rw [<-j4] at ai;have jZ:b.data=fj.img bk:=cU (u0 eY f5) (G j4 (G (aD ..) (b5.img bk m6)));have dl:b.data.length=48:=eY.len b f5;have ll:((x.drop ap).take (dp off x.length ap)).length=dp off x.length ap:=G o5 (G wl (pc hp.2));refine a3 (f3 (a:=ap) (c:=dp off x.length ap)) (Ji (a3 (aca w2 (Xj aR bA) (eI ajb (by decide))) (au (aN (cc.bo b f5) rfl rfl) (a3 (f3 (a:=(off+ap)%48) (c:=dp off x.length ap)) (Ji (au (K9 cc.z (cc.bd b f5) (aC rfl) (G dl (G ll (fE (Xg hp.1)))) (l':=gq b.data ((off+ap)%48) ((x.drop ap).take (dp off x.length ap))) ?_) ?_))))))
 ·have :=aoG (l:=b.data) (x:=(x.drop ap).take (dp off x.length ap)) (a:=(off+ap)%48) (G ll (G dl SF));rw [ll] at this;exact this
 generalize f4:gq b.data ((off+ap)%48) ((x.drop ap).take (dp off x.length ap))=X at *
 have agD:X.length=48:=cU f4 (G (xE (by rw [ll,dl];exact SF)) dl)
 have zK:=cc.setBd eY.nd f5 X;refine cz (eY.data f5 ai agD) λzc hw=>?_
 have Ax:({b with data:=X}:e6)∈hB b.num (λc=> {c with data:=X}) ca2.bs:=hQ.mpr ⟨b,f5,aY rfl⟩
 have anU:bk∈fj.nums\/fj.nums.length<8:=by
  by_cases bu:cJ (P.fl f) ((off+ap)/48)=0
  ·left
   have e:fj= {pP P with fl:=upd P.fl f (eF (P.fl f) ((off+ap)/48) (cF (b2 P)))}:=hP1.symm.trans (aY bu)
   refine cU hbk (G e ?_);show cJ (upd P.fl f _ f) _∈dT (cF (b2 P)) (dT 13 P.nums)
   refine G gd (G (Bc hi hi) (G (aY rfl) ?_));exact xk.mpr (.inl rfl)
  ·right
   have e:fj=P:=hP1.symm.trans (a8 bu);exact G e (eI ‹_› (by decide))
 refine Bn (b:= {b with data:=X}) (Q:=λH=>k (.int (dp off x.length ap)) H) zK zc Ax ai (ak.trans b5.pd) (G j4 m6) b5.calls (G j4 (b5.room anU)) λz3 aiw sK tc sH ch cd ee yU=>?_
 have a9:Fr fN cn sK:=fH.trans ((Fr.set (cc.bd b f5) rfl).trans yU);rw [j4] at tc sH cd;have kq:jN P f off x ap=putP fj bk ((off+ap)%48) ((x.drop ap).take (dp off x.length ap)):=by unfold jN;refine G hP1 ?_;dsimp only;(exact G hbk rfl)
 rw [kq] at h;refine h z3 aiw jr sK (eQ.step (re:= {re with nums:=fj.nums,ntl:=d9}) b5 (P':=putP fj bk ((off+ap)%48) ((x.drop ap).take (dp off x.length ap))) (x:=X) tc sH ch cd (λy=>by refine G (ee ..) (G (hw ..) (G (j4 ..) ?_));split;rfl;exact aD y) rfl (λy _=>?_) λf' lN=>⟨a9 _ _ _ (b5.nf f' lN).1 rfl,a9 _ _ _ (b5.nf f' lN).2 rfl⟩) (dJ.trans a9.prg)
 show upd fj.img bk _ y=_
 unfold upd;split
 ·(exact cU f4 (G jZ rfl))
 ·rfl
abbrev Oe(A:g1)(b7:Nat->Nat)(f off ap:Nat)(x:dI)(mm:Loc):Prop:=mm=[(bQ,.new A.n),(h5,.new (b7 f)),(gT,.int off),(d2,.bytes x),(hC,.int ap)]\/ ∃v,mm=[(bQ,.new A.n),(h5,.new (b7 f)),(gT,.int off),(d2,.bytes x),(hC,.int ap),(mJ,v)]
theorem SG{len ap:Nat}(h:ap<len):0<dp off len ap:=Nat.lt_min.mpr ⟨M1 (jo _ (by decide)),M1 h⟩
theorem arE(aq:f=1\/f=2)(aR:off+x.length<=96):∀(dn c3:Nat) {P:cR} {ap:Nat} {mm:Loc} {al:hq} {re:gj} {cO:Nat->Nat} {K:dB},eQ A b7 cO al re P K->et P->P.nums.length<=6->Oe A b7 f off ap x mm->x.length<ap+dn->dn<=c3->ap<=x.length->
    (∀bJ d9 m3 aX mm,eQ A b7 m3 bJ {re with nums:=(gy dn P f off x ap).2.nums,ntl:=d9} (gy dn P f off x ap).2 aX->Fr r4 K aX->Oe A b7 f off (gy dn P f off x ap).1 x mm->q .next mm (ao aX))->
    l3 False (λm H q=>ge False (aw (n+8)) (fD (bw (aW (aL 23 17)) 3) 0) (λH k=>bO False (aw (n+8)) (fD (bw (aW (aL 23 17)) 3) 0) jm m H k) jm m H q) (λm H q=>b1 False (aw (n+8)) (eh (bw (aW (aL 23 17)) 3)) jm m H q) c3 mm (ao K) q
 :=by
  intro dn;induction dn with
  |zero=>exact @λc3 P ap mm al re cO K aa W hn bc ai ak bA h=>absurd ai (n8.mpr bA)
  |succ dn ih=>
   exact @λc3 P ap mm al re cO K aa W hn bc ai ak bA h=>by
    rcases c3 with _|c3
    ·exact absurd ak (Vp dn)
    have w2:bH x.length=ae:=fE (GV aR);have aQ:re.nums.length=P.nums.length:=by(exact G aa.nums rfl)
    have oT:∀ {X Y:an->Prop},(ap<x.length/\P.nums.length<=4->Y (ao K))->(¬(ap<x.length/\P.nums.length<=4)->X (ao K))->aF (cH (.builtin "len") [.bytes x] (ao K)) λxv g5=>aj (bW .Lt (.int ap) xv g5) λtq=>bo .And tq (X g5) (aj (aV (.new A.n) hl g5) λmD=>aj (bx mD (z "left") g5) λuU=>bB False (aw (n+8)) uU [] g5 λD6 hE=>aj (bW .GtE D6 (L.int 4) hE) λHp=>bo .And Hp (X hE) (Y hE)):=λ{X Y} Iz f4=>by
     refine a3 (AW w2) (au (a:=eo ((ap:Int)<(x.length:Int))) rfl ?_);by_cases a:ap<x.length
     ·refine ph (decide_eq_true (mc.mpr ‹_›)) (au (aN aa.S.n rfl rfl) (au (c1 aa.S.j rfl rfl) (Pk aa.S (by lia) (au (a:=eo ((4:Int)<=8 - (re.nums.length:Int))) rfl ?_))))
      by_cases b:P.nums.length<=4
      ·exact ph (decide_eq_true (by lia)) (Iz ⟨a,b⟩)
      ·exact oq (decide_eq_false (by lia)) (f4 λz=>b z.2)
     ·exact oq (decide_eq_false (GU a)) (f4 λz=>a z.1)
    refine EW ?_;by_cases aD:ap<x.length/\P.nums.length<=4
    ·have hi:(off+ap)/48=0\/(off+ap)/48=1:=by exact tg aR aD.1
     have tI:=SG (off:=off) aD.1;have AK:dp off x.length ap<=x.length - ap:=rx _ _;have ei:gy (dn+1) P f off x ap=gy dn (jN P f off x ap) f off x (ap+dp off x.length ap):=aY aD;rw [ei] at h;have body:∀ {B:b3} {N:L->L->an->Prop},(∀eK d9 jr cn,eQ A b7 jr eK {re with nums:=(jN P f off x ap).nums,ntl:=d9} (jN P f off x ap) cn->Fr r4 K cn->N (.int ((ap+dp off x.length ap:Nat):Int)) (.int (dp off x.length ap)) (ao cn))->
       aj (bx (.new A.n) (z "write_part") (ao K)) λHq=>aF (a5 .Add (.int off) (.int ap) (ao K)) λnR i0=>bB False (aw (n+8)) Hq [.new (b7 f),nR,.bytes x,.int ap] i0 λoP mb=>aj (bW .Eq oP (L.int 0) mb) λHs=>dU Hs (B oP mb) (aF (a5 .Add (.int ap) oP mb) λmy iw=>N my oP iw):=λ{B N} nE=>by
      refine au (c1 aa.S.n rfl rfl) (a3 f3 (aaX aq aa W aD.2 aD.1 aR λeK d9 jr cn b5 dJ=>?_))
      exact au (a:=((dp off x.length ap:Int)==0)) rfl (g7 (by simp only [beq_eq_false_iff_ne,ne_eq];exact B4.mpr tI) (a3 f3 (nE eK d9 jr cn b5 dJ)))
     have next:∀eK d9 jr cn,eQ A b7 jr eK {re with nums:=(jN P f off x ap).nums,ntl:=d9} (jN P f off x ap) cn->Fr r4 K cn->
       l3 False (λm H q=>ge False (aw (n+8)) (fD (bw (aW (aL 23 17)) 3) 0) (λH k=>bO False (aw (n+8)) (fD (bw (aW (aL 23 17)) 3) 0) jm m H k) jm m H q) (λm H q=>b1 False (aw (n+8)) (eh (bw (aW (aL 23 17)) 3)) jm m H q) c3
        [(bQ,.new A.n),(h5,.new (b7 f)),(gT,.int off),(d2,.bytes x),(hC,.int ((ap+dp off x.length ap:Nat):Int)),(mJ,.int (dp off x.length ap))] (ao cn) q:=λeK d9 jr cn b5 dJ=>by
      have a2:=Bb (P:=P) (x:=x) aq hi;exact ih c3 b5 (W.pieceP aq hi) (by lia) (.inr ⟨_,rfl⟩) (by lia) (by lia) (by lia) λbJ ait m3 aX mm' yX mM i7=>h bJ ait m3 aX mm' yX (dJ.trans mM) i7
     rcases bc with rfl|⟨v,rfl⟩
     ·refine TE (oT (X:=λH=>_) (Y:=λH=>_) (λ_=>?_) (λz=>absurd aD z))
      exact aqz (body (B:=λr H=>_) (N:=λv r H=>_) next)
     ·refine TF (oT (X:=λH=>_) (Y:=λH=>_) (λ_=>?_) (λz=>absurd aD z))
      exact aqA (body (B:=λr H=>_) (N:=λv r H=>_) next)
    ·have ei:gy (dn+1) P f off x ap=(ap,P):=a8 aD;rw [ei] at h;have cp:=h al re.ntl cO K mm (cU aa.nums aa) (.refl K) bc;rcases bc with rfl|⟨v,rfl⟩
     ·exact TE (oT (X:=λH=>_) (Y:=λH=>_) (λz=>absurd z aD) λ_=>cp)
     ·exact TF (oT (X:=λH=>_) (Y:=λH=>_) (λz=>absurd z aD) λ_=>cp)
end
end
section
variable {x:dI}
section
variable {k:b3}{q:ez}
theorem aeq{n:Nat}(h:n<=(P.fl f).size):tz P f n=P:=by
 unfold tz;have e:({P.fl f with size:=max (P.fl f).size n}:jx)=P.fl f:=by(exact G (Nat.max_eq_left h) rfl)
 refine G e ?_;have :upd P.fl f (P.fl f)=P.fl:=by
  funext y
  unfold upd;split
  ·rename_i q;(exact G q rfl)
  ·rfl
 (exact G this rfl)
theorem et.lim(W:et P)(aq:f=1\/f=2):(P.fl f).size<4294967296/\(P.fl f).p0<4294967296/\(P.fl f).p1<4294967296:=by
 have a:=W.sz f aq;have b:=W.pl f aq 0 (.inl rfl);have c:=W.pl f aq 1 (.inr rfl);have fc:cJ (P.fl f) 0=(P.fl f).p0:=rfl;have ig:cJ (P.fl f) 1=(P.fl f).p1:=rfl;unfold gG at b c;rw [fc] at b;rw [ig] at c;exact Xs a b c
def kN(P:cR)(f off:Nat)(x:dI):cR:=if 0<(gy (x.length+1) P f off x 0).1 then tz (gy (x.length+1) P f off x 0).2 f (off+(gy (x.length+1) P f off x 0).1) else(gy (x.length+1) P f off x 0).2
theorem L4:pS P f off x=((gy (x.length+1) P f off x 0).1,qV (kN P f off x) f):=rfl
theorem RF(aq:f=1\/f=2)(W:et P)(aR:off+x.length<=96):et (kN P f off x)/\(P.nums.length<=6->(kN P f off x).nums.length<=6):=by
 refine dS (JF (x:=x) aq aR (x.length+1) W (hf _) (ap:=0)) λa b c=>?_
 unfold kN;split
 ·exact⟨a.growP (by lia),b⟩
 ·exact⟨a,b⟩
theorem aaW(aq:f=1\/f=2)(aR:off+x.length<=96)(aa:eQ A b7 cO al re P K)(W:et P)(hn:P.nums.length<=6)(h:oo A b7 re K (pS P f off x).2 λH=>k (.int ((pS P f off x).1:Nat)) H):
  aw (n+9) 419 [.new A.n,.new (b7 f),.int off,.bytes x] (ao K) k:=by
 have w2:bH x.length=ae:=fE (GV aR);refine Yx (au (a:=aA) (by show J (eo ((off:Int)<0))=_;(exact G (decide_eq_false (Int.not_ofNat_neg off)) rfl)) (g7 rfl (a3 (AW w2) (a3 f3 (au (aN aa.S.n rfl rfl) (au (c1 aa.S.s rfl rfl) (aaE aa.S (au (a:=aA) (by show J (eo ((672:Int)<((off+x.length:Nat):Int)))=_;(exact G (decide_eq_false (by lia)) rfl)) (g7 rfl ?_)))))))))
 refine agu (arE (ap:=0) aq aR (x.length+1) 1000 aa W hn (.inl rfl) (by lia) (by lia) (hf _) λeK d9 jr cn mm b5 dJ bc=>?_)
 have M:=RF aq W aR;have a2:=JF (x:=x) aq aR (x.length+1) W (hf _) (ap:=0);rw [L4] at h;generalize eR:gy (x.length+1) P f off x 0=R at *
 have sk:∀ {ca2:hq} {ntl2:List (L×L)} {nl2:Nat->Nat} {dZ:dB},eQ A b7 nl2 ca2 {re with nums:=(kN P f off x).nums,ntl:=ntl2} (kN P f off x) dZ->Fr r4 K dZ->aj (bx (.new A.n) q8 (ao dZ)) λzZ=>bB False (aw (n+8)) zZ [.new (b7 f)] (ao dZ) λSZ ul=>k (.int (R.1:Nat)) ul:=λgg fH=>by
  refine au (c1 gg.S.n rfl rfl) (Pf aq gg (M.1.lim aq) (.inr (by have :=M.2 hn;exact eI ‹_› (by decide))) λz2 aiu aib gu fI f7=>?_)
  exact h z2 aiu aib gu fI (fH.trans f7)
 have hJ:kN P f off x=if 0<R.1 then tz R.2 f (off+R.1) else R.2:=by unfold kN;(exact G eR rfl)
 have aB:=b5.nf f aq;have j1:aj (bW .Gt (.int (R.1:Nat)) (L.int 0) (ao cn)) λuV=>bo .And uV (aj (bx (.new A.n) q8 (ao cn)) λzZ=>bB False (aw (n+8)) zZ [.new (b7 f)] (ao cn) λSZ ul=>k (.int (R.1:Nat)) ul) (aF (a5 .Add (.int off) (.int (R.1:Nat)) (ao cn)) λLJ o3=>aj (aV (.new (b7 f)) dH o3) λMk=>aj (bW .Gt LJ Mk o3) λz0=>bo .And z0 (aj (bx (.new A.n) q8 o3) λHA=>bB False (aw (n+8)) HA [.new (b7 f)] o3 λanz FL=>k (.int (R.1:Nat)) FL) (aF (a5 .Add (.int off) (.int (R.1:Nat)) o3) λLK FN=>aj (ft (.new (b7 f)) dH LK FN) λkW=>aj (bx (.new A.n) q8 kW) λz1=>bB False (aw (n+8)) z1 [.new (b7 f)] kW λS1 y4=>k (.int (R.1:Nat)) y4)):=by
  refine au (a:=eo ((0:Int)<(R.1:Nat))) rfl ?_;by_cases bu:0<R.1
  ·rw [aY bu] at hJ;refine ph (decide_eq_true (mc.mpr ‹_›)) (a3 f3 (au (aN aB.1 rfl rfl) (au (a:=eo (((R.2.fl f).size:Int)<((off+R.1:Nat):Int))) rfl ?_)));by_cases hs:(R.2.fl f).size<off+R.1
   ·refine ph (decide_eq_true (mc.mpr ‹_›)) (a3 f3 (au (iV b5.S.z aB.1 (aC rfl) rfl rfl) ?_));have gg:=b5.setSz aq (off+R.1);have e2:kN P f off x= {R.2 with fl:=upd R.2.fl f {R.2.fl f with size:=off+R.1}}:=by refine G hJ ?_;unfold tz;(exact G (Nat.max_eq_right (jz ‹_›)) rfl)
    have j0:(kN P f off x).nums=R.2.nums:=by(exact G e2 rfl)
    refine sk (ca2:=eK) (ntl2:=d9) (nl2:=jr) ?_ (dJ.trans (Fr.set aB.1 rfl));exact G j0 (G e2 gg)
   ·refine oq (decide_eq_false (GU hs)) ?_;rw [aeq (wo hs)] at hJ;refine sk (ca2:=eK) (ntl2:=d9) (nl2:=jr) ?_ dJ;exact G hJ b5
  ·rw [a8 bu] at hJ;refine oq (decide_eq_false (by lia)) (sk (ca2:=eK) (ntl2:=d9) (nl2:=jr) ?_ dJ)
   exact G hJ b5
 rcases bc with rfl|⟨v,rfl⟩
 ·exact WU j1
 ·exact WV j1
theorem Zq{a b c v:L}:eu o8 E9 (.one v) [(bQ,a),(h5,b),(lA,c)] H=J [(bQ,a),(h5,b),(lA,c),(mI,v)]:=by kernel_rfl
theorem Zr{a b c v aJ:L}:eu o8 E9 (.one v) [(bQ,a),(h5,b),(lA,c),(mI,aJ)] H=J [(bQ,a),(h5,b),(lA,c),(mI,v)]:=by kernel_rfl
theorem Dj{x:Nat}:(dL P x).nums.length<=P.nums.length+1:=by
 unfold dL;split
 ·exact kZ P.nums.length 1
 ·exact uO
theorem Dh{x:Nat}:(dL P x).fl=P.fl:=by unfold dL;split<;>rfl
theorem TN{ix:Nat}{Q:an->Prop}(hi:ix=0\/ix=1)(aq:f=1\/f=2)(aa:eQ A b7 cO al re P K)(bA:cJ (P.fl f) ix=0\/gG (cJ (P.fl f) ix))(hb:¬cJ (P.fl f) ix=0->hW (P.img 13) (cJ (P.fl f) ix)=1)(gI:P.nums.length<8)(h:oo A b7 re K (dL P (cJ (P.fl f) ix)) Q):
  aj (aV (.new (b7 f)) eC (ao K)) λc7=>aF (cj c7 (.at_ (.int ix)) (ao K)) λgB cx=>aj (bW .NotEq gB (L.int 0) cx) λhw=>dU hw (aj (bx (.new A.n) (z "give_block") cx) λlh=>aj (aV (.new (b7 f)) eC cx) λlx=>aF (cj lx (.at_ (.int ix)) cx) λfT eg=>bB False (aw (n+4)) lh [fT] eg λoO gt=>Q gt) (Q cx):=by
 refine cz (aa.nf f aq) λe1 e2=>au (aN e1 rfl rfl) (a3 (hL e2 (by lia) (vB hi)) (au (a:= !((cJ (P.fl f) ix:Int)==0)) rfl ?_))
 by_cases bu:cJ (P.fl f) ix=0
 ·refine g7 (G bu rfl) ?_;have e:dL P (cJ (P.fl f) ix)=P:=aY bu;rw [e] at h;exact h al re.ntl cO K (cU aa.nums aa) (.refl K)
 ·have jL:((cJ (P.fl f) ix:Int)==0)=aA:=by simp only [beq_eq_false_iff_ne,ne_eq];exact Int.ofNat_ne_zero.mpr bu
  refine jq (G jL rfl) (au (c1 aa.S.n rfl rfl) (au (aN e1 rfl rfl) (a3 (hL e2 (by lia) (vB hi)) ?_)))
  exact aaS (bA.resolve_left bu) aa (hb bu) (.inr gI) h
theorem aaY(aq:f=1\/f=2)(aa:eQ A b7 cO al re P K)(W:et P)(hn:P.nums.length<=5)(h:oo A b7 re K (qZ P f) λH=>k .none H):aw (n+5) 433 [.new A.n,.new (b7 f)] (ao K) k:=by
 refine cz (W.give aq (ix:=0) (.inl rfl)) λwL E4=>cz (wL.give aq (ix:=1) (.inr rfl)) λwM jd=>?_
 have dg:cJ (P.fl f) 0=(P.fl f).p0:=rfl;have e1:cJ (P.fl f) 1=(P.fl f).p1:=rfl;have Ai:({dL P (cJ (P.fl f) 0) with fl:=upd P.fl f (eF (P.fl f) 0 0)}:cR).fl f=eF (P.fl f) 0 0:=gd
 rw [Ai] at jd wM;have ac7:cJ (eF (P.fl f) 0 0) 1=(P.fl f).p1:=rfl;rw [ac7] at jd wM;refine Yz (au (aN aa.S.n rfl rfl) (au (aN aa.S.s rfl rfl) (au (a:=[.int (0:Nat),.int (1:Nat)]) (by rfl) ?_)))
 refine iQ (it:=.one (.int (0:Nat))) rfl Zq (TW (TN (Q:=λH=>_) (.inl rfl) aq aa (W.pl f aq 0 (.inl rfl)) E4 (eI ‹_› (by decide)) λeK asT jr cn b5 dJ=>?_))
 rw [dg] at b5;have ch:(dL P (P.fl f).p0).fl=P.fl:=Dh;have gn:=Dj (P:=P) (x:=(P.fl f).p0);refine iQ (it:=.one (.int (1:Nat))) rfl Zr (TW (TN (Q:=λH=>_) (.inr rfl) aq b5 (G ch (W.pl f aq 1 (.inr rfl))) (G ch jd) (by lia) λca2 ntl2 nl2 dZ gg fH=>?_))
 rw [ch,e1] at gg;have cd:(dL (dL P (P.fl f).p0) (P.fl f).p1).fl=P.fl:=Dh.trans ch;have fY:=Dj (P:=dL P (P.fl f).p0) (x:=(P.fl f).p1);have aB:=gg.nf f aq;rw [cd] at aB;refine mr (by rfl) (WW (au (aN aB.1 rfl rfl) (a3 (hL (p:=2) aB.2 (by decide) rfl) (au (a:=aA) rfl (g7 rfl (gz (.x 6) (a3 rfl ?_)))))))
 generalize hP2:dL (dL P (P.fl f).p0) (P.fl f).p1=P2 at *
 have fI:=gg.ex (.app dZ [(.x 6,.list [.int 0])]);have jf:=fI.ex (.app _ [(.pl f,lU ⟨0,0,(P.fl f).size⟩)]);have u9:=jf.nf f aq;rw [cd] at u9;refine a3 (a:=.new (dZ++[(bh.x 6,bt.list [.int 0])]).length) (b:=ao (dZ++[(bh.x 6,bt.list [.int 0])]++[(.pl f,lU ⟨0,0,(P.fl f).size⟩)])) ?_ ?_
 ·show((listAt (ao (dZ++[(bh.x 6,bt.list [.int 0])])) dZ.length).bind λa=>if bH (a.length*(3:Int).toNat)&&cG 3 then J (L.new (ao (dZ++[(bh.x 6,bt.list [.int 0])])).length,ao (dZ++[(bh.x 6,bt.list [.int 0])])++[bt.list (f9 (3:Int).toNat a).flatten]) else ac)=_
  refine G (xh (d8 c2)) ?_;show J (L.new (ao (dZ++[(bh.x 6,bt.list [.int 0])])).length,ao (dZ++[(bh.x 6,bt.list [.int 0])])++[lU ⟨0,0,(P.fl f).size⟩])=_
  (exact G (nB (r:=.pl f)) (G mo rfl))
 ·refine au (iV jf.S.z u9.1 (aC rfl) rfl rfl) ?_;have h6:=eQ.setLs jf aq (u:=(dZ++[(bh.x 6,bt.list [.int 0])]).length) (p0:=0) (p1:=0) (G cd c2);rw [cd] at h6;have qA:=(h6.nf f aq).1;rw [show({P2 with fl:=upd P.fl f ⟨0,0,(P.fl f).size⟩}:cR).fl f=⟨0,0,(P.fl f).size⟩ from gd] at qA
  refine au (iV h6.S.z qA (aC rfl) rfl rfl) ?_;have rg:=h6.setSz aq 0;rw [show({P2 with fl:=upd P.fl f ⟨0,0,(P.fl f).size⟩}:cR).fl f=⟨0,0,(P.fl f).size⟩ from gd] at rg
  have Ah:upd (upd P.fl f ⟨0,0,(P.fl f).size⟩) f {(⟨0,0,(P.fl f).size⟩:jx) with size:=0}=upd P.fl f ⟨0,0,0⟩:=funext λy=>by unfold upd;split<;>rfl
  rw [Ah] at rg;have Af:qZ P f=qV {P2 with fl:=upd P.fl f ⟨0,0,0⟩} f:=by unfold qZ;(exact G hP2 rfl)
  rw [Af] at h;refine au (c1 rg.S.n rfl rfl) (Pf aq rg ?_ (.inr ?_) λabz aiv aid FT Fm Fk=>?_)
  ·exact G (show({P2 with fl:=upd P.fl f ⟨0,0,0⟩}:cR).fl f=⟨0,0,0⟩ from gd) (⟨by decide,by decide,by decide⟩)
  ·show P2.nums.length<8;lia
  ·refine h abz aiv aid FT Fm (dJ.trans (fH.trans (((Fr.app dZ _).trans (Fr.app _ _)).trans ((Fr.set u9.1 rfl).trans ((Fr.set qA rfl).trans Fk)))))
theorem aaL(aq:f=1\/f=2)(aR:off+x.length<=96)(aa:eQ A b7 cO al re P K)(W:et P)(hn:P.nums.length<=6)(h:oo A b7 re K (pS P f off x).2 λH=>k (.int ((pS P f off x).1:Nat)) H):
  aw (n+10) 250 [.new (b7 f),.int off,.bytes x] (ao K) k:=
 Yp (au (aN (aa.nf f aq).1 rfl rfl) (au (c1 aa.S.n rfl rfl) (aaW aq aR aa W hn h)))
theorem aaM(aq:f=1\/f=2)(aa:eQ A b7 cO al re P K)(W:et P)(hn:P.nums.length<=5)(h:oo A b7 re K (qZ P f) λH=>k .none H):aw (n+6) 257 [.new (b7 f)] (ao K) k:=
 Yq (au (aN (aa.nf f aq).1 rfl rfl) (au (c1 aa.S.n rfl rfl) (aaY aq aa W hn h)))
end
end
section
variable {a:Nat}
noncomputable def tK(r:bh):Bool:=Nat.ble 18 r.1&&Nat.ble r.1 22
def dd(T:List Nat):List Nat:=T.foldl (λacc x=>dT x acc) []
theorem acg{T:List Nat}:dd (T++[x])=dT x (dd T):=by unfold dd;exact G List.foldl_append rfl
noncomputable def dz(n:Nat):L:=.int (n:Int)
theorem has_int{l:List Nat}:(l.map dz).contains (dz x)=l.contains x:=by
 refine fB t6 (fB Ve (fB Ve (fB hQ ?_)));constructor
 ·rintro ⟨a,h,e⟩;have :a=x:=by unfold dz at e;injection e with e;exact Int.ofNat.inj e
  exact cU this h
 ·exact λh=>⟨x,h,rfl⟩
theorem PP:∀ {T acc:List Nat},rV (T.map dz) (acc.map dz)=(T.foldl (λacc x=>dT x acc) acc).map dz
 | [],acc=>rfl
 |x::T,acc=>by
  refine G h9 ?_;rw [PO];refine G has_int (G List.foldl_cons (cU PP ?_));congr 1
  unfold dT;by_cases h:x∈acc
  ·(exact G (aY h) (G (aY (by simpa using h)) rfl))
  ·exact G (a8 h) (G (a8 (by simpa using h)) (G p7 rfl))
theorem XZ{T:List Nat}:(T.map dz).all isInt=ae:=by refine G List.all_map (fB i3 ?_);intro x _;rfl
structure lE where
 (im fs:Nat) (fd:Nat->Nat)
abbrev Ia(s:jx)(p:Nat):bt:=.dict [(.str "places",.new p),(.str "size",dz s.size)]
structure dK(a2:lE)(to:Nat)(ra fp:Nat->Nat)(P:cR)(T:List Nat)(K:dB):Prop where
 z:gW K
 im:K[a2.im]? =J (.im,.list ((nn 22).map λy=>.new (ra y)))
 ir:∀y,gY y->y<22->K[ra y]? =J (.ir y,.list ((P.img y).map dh))
 fs:K[a2.fs]? =J (.fs,.list [.new (a2.fd 1),.new (a2.fd 2)])
 fd:∀f,f=1\/f=2->K[a2.fd f]? =J (.fd f,Ia (P.fl f) (fp f))/\K[fp f]? =J (.fp f,lU (P.fl f))
 to:K[to]? =J (.to,.list (T.map dz))
 nums:P.nums=dd T
 len:∀y,gY y->(P.img y).length=48
section
variable {a2:lE}{to:Nat}{ra fp:Nat->Nat}{T:List Nat}{k:b3}{q:ez}
theorem dK.ex{aX:dB}(aa:dK a2 to ra fp P T K)(h:ek K aX):dK a2 to ra fp P T aX:=
 ⟨cm aa.z λo z=>⟨o,h _ _ _ z⟩,h _ _ _ aa.im,λy a b=>h _ _ _ (aa.ir y a b),h _ _ _ aa.fs,λf aq=>⟨h _ _ _ (aa.fd f aq).1,h _ _ _ (aa.fd f aq).2⟩,h _ _ _ aa.to,aa.nums,aa.len⟩
theorem dK.fr{aX:dB}{S:bh->Bool}(aa:dK a2 to ra fp P T K)(h:Fr S K aX)(bu:S .im=aA/\S .fs=aA/\S .to=aA/\(∀y,S (.ir y)=aA/\S (.fd y)=aA/\S (.fp y)=aA))(hz:gW aX):dK a2 to ra fp P T aX:=
 ⟨hz,h _ _ _ aa.im bu.1,λy a b=>h _ _ _ (aa.ir y a b) (bu.2.2.2 y).1,h _ _ _ aa.fs bu.2.1,λf aq=>⟨h _ _ _ (aa.fd f aq).1 (bu.2.2.2 f).2.1,h _ _ _ (aa.fd f aq).2 (bu.2.2.2 f).2.2⟩,h _ _ _ aa.to bu.2.2.1,aa.nums,aa.len⟩
theorem dK.setIm(aa:dK a2 to ra fp P T K){y u:Nat}{x:dI}(hy:y<22)(aO:x.length=48)(e:K[u]? =J (.ir y,.list (x.map dh))):
  dK a2 to (upd ra y u) fp {P with img:=upd P.img y x} T (K.set a2.im (.im,.list ((nn 22).map λeN=>.new (upd ra y u eN)))):=by
 refine⟨aa.z.set aa.im (aC rfl),fo aa.im,λeN a b=>?_,aI aa.im aa.fs (aC rfl),λf aq=>⟨aI aa.im (aa.fd f aq).1 (aC rfl),aI aa.im (aa.fd f aq).2 (aC rfl)⟩,aI aa.im aa.to (aC rfl),aa.nums,λeN a=>?_⟩
 ·by_cases h:eN=y
  ·subst h;exact G (show({P with img:=upd P.img eN x}:cR).img eN=x from gd) (G gd (aI aa.im e (aC rfl)))
  ·exact G (show({P with img:=upd P.img y x}:cR).img eN=P.img eN from iW h) (G (iW h) (aI aa.im (aa.ir eN a b) (aC rfl)))
 ·by_cases h:eN=y
  ·subst h;exact G (show({P with img:=upd P.img eN x}:cR).img eN=x from gd) aO
  ·exact G (show({P with img:=upd P.img y x}:cR).img eN=P.img eN from iW h) (aa.len eN a)
theorem Ja{y u:Nat}(hy:y<22):((nn 22).map λy=>L.new (ra y)).set y (.new u)=(nn 22).map λeN=>.new (upd ra y u eN):=by
 refine FY λp=>G List.getElem?_set ?_
 by_cases h:y=p
 ·subst h;refine G (aY rfl) (G (aY (by rw [d0,uy];exact hy)) (G kY (G (B7 hy) ?_)))
  show _=J (L.new (upd ra y u y));(exact G gd rfl)
 ·refine G (a8 h) (G kY (G kY ?_));cases e:(nn 22)[p]?with
  |none=>rfl
  |some v=>
   have :v=p:=by
    have :=(kF.mp e);refine cm this λa b=>?_;rw [List.getElem_range] at b;exact b.symm
   subst this;show J (L.new (ra v))=J (L.new (upd ra y u v));(exact G (iW (λz=>h z.symm)) rfl)
theorem dK.row(aa:dK a2 to ra fp P T K){y:Nat}(hy:y<22):((nn 22).map λy=>L.new (ra y))[y]? =J (.new (ra y)):=G kY (G (B7 hy) rfl)
theorem dK.setIr(aa:dK a2 to ra fp P T K){y:Nat}{x:dI}(hy:y<22)(aR:gY y)(aO:x.length=48):dK a2 to ra fp {P with img:=upd P.img y x} T (K.set (ra y) (.ir y,.list (x.map dh))):=by
 have e:=aa.ir y aR hy;refine⟨aa.z.set e (aC rfl),aI e aa.im (aC rfl),λeN a b=>?_,aI e aa.fs (aC rfl),λf aq=>⟨aI e (aa.fd f aq).1 (aC rfl),aI e (aa.fd f aq).2 (aC rfl)⟩,aI e aa.to (aC rfl),aa.nums,λeN a=>?_⟩
 ·by_cases h:eN=y
  ·subst h;exact G (show({P with img:=upd P.img eN x}:cR).img eN=x from gd) (fo e)
  ·exact G (show({P with img:=upd P.img y x}:cR).img eN=P.img eN from iW h) (aI e (aa.ir eN a b) λz=>h (congrArg rz z).symm)
 ·by_cases h:eN=y
  ·subst h;exact G (show({P with img:=upd P.img eN x}:cR).img eN=x from gd) aO
  ·exact G (show({P with img:=upd P.img y x}:cR).img eN=P.img eN from iW h) (aa.len eN a)
theorem dK.addT(aa:dK a2 to ra fp P T K)(x:Nat):dK a2 to ra fp {P with nums:=dT x P.nums} (T++[x]) (K.set to (.to,.list ((T++[x]).map dz))):=by
 have e:=aa.to;exact⟨aa.z.set e (aC rfl),aI e aa.im (aC rfl),λeN a b=>aI e (aa.ir eN a b) (aC rfl),aI e aa.fs (aC rfl),λf aq=>⟨aI e (aa.fd f aq).1 (aC rfl),aI e (aa.fd f aq).2 (aC rfl)⟩,fo e,by(exact G acg (cU aa.nums rfl)),aa.len⟩
theorem dK.setFp(aa:dK a2 to ra fp P T K)(aq:f=1\/f=2)(s:jx)(hs:s.size=(P.fl f).size):dK a2 to ra fp {P with fl:=upd P.fl f s} T (K.set (fp f) (.fp f,lU s)):=by
 have e:=(aa.fd f aq).2;refine⟨aa.z.set e (aC rfl),aI e aa.im (aC rfl),λeN a b=>aI e (aa.ir eN a b) (aC rfl),aI e aa.fs (aC rfl),λaB bj=>?_,aI e aa.to (aC rfl),aa.nums,aa.len⟩
 have h:=aa.fd aB bj;by_cases q:aB=f
 ·subst q;refine G (show({P with fl:=upd P.fl aB s}:cR).fl aB=s from gd) (⟨aI e ?_ (aC rfl),fo e⟩)
  have :=h.1;unfold Ia at this⊢;exact G hs this
 ·exact G (show({P with fl:=upd P.fl f s}:cR).fl aB=P.fl aB from iW q) (⟨aI e h.1 (aC rfl),aI e h.2 λz=>q (congrArg rz z).symm⟩)
theorem dK.setFd(aa:dK a2 to ra fp P T K)(aq:f=1\/f=2){u:Nat}{s:jx}(e2:K[u]? =J (.fp f,lU s)):dK a2 to ra (upd fp f u) {P with fl:=upd P.fl f s} T (K.set (a2.fd f) (.fd f,Ia s u)):=by
 have e:=(aa.fd f aq).1;refine⟨aa.z.set e (aC rfl),aI e aa.im (aC rfl),λeN a b=>aI e (aa.ir eN a b) (aC rfl),aI e aa.fs (aC rfl),λaB bj=>?_,aI e aa.to (aC rfl),aa.nums,aa.len⟩
 have h:=aa.fd aB bj;by_cases q:aB=f
 ·subst q;refine G (show({P with fl:=upd P.fl aB s}:cR).fl aB=s from gd) (G gd ?_)
  exact⟨fo e,aI e e2 (aC rfl)⟩
 ·refine G (show({P with fl:=upd P.fl f s}:cR).fl aB=P.fl aB from iW q) (G (iW q) ?_)
  exact⟨aI e h.1 λz=>q (congrArg rz z).symm,aI e h.2 (aC rfl)⟩
theorem aoq(e:K[i]? =J (r,.list l))(aQ:bH l.length=ae)(ha:a<1000)(s:bh):cj (.new i) (.sl ac (J (a:Int))) (ao K)=J (.new K.length,ao (K++[(s,.list (l.take a))])):=by
 show(match(ao K)[i]?with
  |J (.list l)|J (.scr l)=>if bH l.length then(jY l ac (J (a:Int))).map λl=>(L.new (ao K).length,ao K++[bt.list l]) else ac
  |J (.tup l)=>ac
  |_=>ac)=_
 refine G (d8 e ..) ?_;show(if bH l.length then(if 0<=(a:Int)/\cG (a:Int)=ae then J (l.take (a:Int).toNat) else ac).map λl=>(L.new (ao K).length,ao K++[bt.list l]) else ac)=_
 refine G (aY aQ) (G (aY ⟨ht _,mw (eE ‹_› (by decide))⟩) (G (h8 ..) ?_))
 show J (L.new (ao K).length,ao K++[bt.list (l.take a)])=_
 (exact G (nB (r:=s)) (G mo rfl))
theorem aop(e:K[i]? =J (r,.list l))(aQ:bH l.length=ae)(ha:a<1000)(s:bh):cj (.new i) (.sl (J (a:Int)) ac) (ao K)=J (.new K.length,ao (K++[(s,.list (l.drop a))])):=by
 show(match(ao K)[i]?with
  |J (.list l)|J (.scr l)=>if bH l.length then(jY l (J (a:Int)) ac).map λl=>(L.new (ao K).length,ao K++[bt.list l]) else ac
  |J (.tup l)=>if 1<=(a:Int)/\(a:Int)<=l.length/\bH l.length=ae then J (L.new (ao K).length,ao K++[bt.tup (l.drop (a:Int).toNat)]) else ac
  |_=>ac)=_
 refine G (d8 e ..) ?_;show(if bH l.length then(if 0<=(a:Int)/\cG (a:Int)=ae then J (l.drop (a:Int).toNat) else ac).map λl=>(L.new (ao K).length,ao K++[bt.list l]) else ac)=_
 refine G (aY aQ) (G (aY ⟨ht _,mw (eE ‹_› (by decide))⟩) (G (h8 ..) ?_))
 show J (L.new (ao K).length,ao K++[bt.list (l.drop a)])=_
 (exact G (nB (r:=s)) (G mo rfl))
theorem Tf{c:Nat}(e:K[i]? =J (r,.list l))(aQ:bH l.length=ae)(ha:a<1000)(aD:c<1000)(s:bh):cj (.new i) (.sl (J (a:Int)) (J ((a+c:Nat):Int))) (ao K)=J (.new K.length,ao (K++[(s,.list ((l.drop a).take c))])):=by
 show(match(ao K)[i]?with
  |J (.list l)|J (.scr l)=>if bH l.length then(jY l (J (a:Int)) (J ((a+c:Nat):Int))).map λl=>(L.new (ao K).length,ao K++[bt.list l]) else ac
  |J (.tup l)=>ac
  |_=>ac)=_
 refine G (d8 e ..) ?_;show(if bH l.length then(if 0<=(a:Int)/\0<=((a+c:Nat):Int)/\cG (a:Int)=ae/\cG ((a+c:Nat):Int)=ae then J ((l.take ((a+c:Nat):Int).toNat).drop (a:Int).toNat) else ac).map λl=>(L.new (ao K).length,ao K++[bt.list l]) else ac)=_
 refine G (aY aQ) (G (aY ⟨ht _,ht _,mw (eE ‹_› (by decide)),mw (by lia)⟩) (G (h8 ..) (G (h8 ..) (G List.drop_take ?_))))
 have :a+c - a=c:=Vm a c;refine G this ?_;show J (L.new (ao K).length,ao K++[bt.list ((l.drop a).take c)])=_
 (exact G (nB (r:=s)) (G mo rfl))
theorem Jj{c:Int}{k:Option Int->Option Int->Prop}(h:k ac (J c)):jJ (eA L.none) (eA (.int c)) k:=h
theorem Q3{c:Int}{k:Option Int->Option Int->Prop}(h:k (J c) ac):jJ (eA (.int c)) (eA L.none) k:=h
theorem agM(x:Nat):vu x=(hA x).map dh:=by
 unfold vu hA;simp only [h9,MR,dh,CJ,Ck (zU x _)]
theorem ZM{a v:L}:eu t9 Fb (.one v) [(hm,a)] H=J [(hm,a),(e4,v)]:=by kernel_rfl
theorem ZN{a v aJ:L}:eu t9 Fb (.one v) [(hm,a),(e4,aJ)] H=J [(hm,a),(e4,v)]:=by kernel_rfl
theorem CT(s:bh)(h:k (.new K.length) (ao (K++[(s,.list ((hA x).map dh))]))):aw (n+1) 874 [.int x,.int 4] (ao K) k:=by
 refine Y5 (au S9 (wV (items:=vF) (P:=λm=>m=[(hm,.int x)]\/ ∃v,m=[(hm,.int x),(e4,v)]) (mm:=λv=>[(hm,.int x),(e4,v)]) (c:=λ_=>ae) (f:=J9 x) (λ_=>rfl)
  (λv m bc=>by rcases bc with rfl|⟨u,rfl⟩;exact ZM;exact ZN) (λv=>.inr ⟨v,rfl⟩) (λv hv q cI=>adp cI)
  (λv hv _ q cI=>by refine bT (Ta hv) λa ha al2=>?_;obtain rfl:=al2;exact acL (Sv (eE ‹_› (by decide)) cI)) 1000 0 _ [] (.inl rfl) (by decide) (by decide) ?_))
 refine G (Su ..) (G (agM ..) ?_);exact gz s h
end
end
variable {a2:lE}{to:Nat}{ra fp:Nat->Nat}{T:List Nat}
section
variable {l:dI}
section
variable {k:b3}{q:ez}
abbrev p8(a2:lE)(to:Nat)(P':cR)(T:List Nat)(c:Nat)(K:dB)(Q:an->Prop):Prop:=∀oQ oC ml aX,dK a2 to oQ oC P' ml aX->Fr tK K aX->ml.length<=T.length+c->Q (ao aX)
theorem ZD{b c d e:L}:eu sR Fc (.one v) [(cu,a),(bS,b),(eC,c),(dH,d),(jc,e)] H=J [(cu,a),(bS,b),(eC,c),(dH,d),(jc,e),(dQ,v)]:=by kernel_rfl
theorem O0{b c d e aJ:L}:eu sR Fc (.one v) [(cu,a),(bS,b),(eC,c),(dH,d),(jc,e),(dQ,aJ)] H=J [(cu,a),(bS,b),(eC,c),(dH,d),(jc,e),(dQ,v)]:=by kernel_rfl
theorem w0(h:l.length<=1000):bH (l.map dh).length=ae:=G (d0 ..) (fE (by omega))
theorem adE{a b:dI}(h:a.length+b.length<=1000):bH ((a.map dh).length+(b.map dh).length)=ae:=G (d0 ..) (G (d0 ..) (fE (by omega)))
theorem th{a b:dI}{fR:bh}(e1:K[i]? =J (r,.list (a.map dh)))(e2:K[j]? =J (fR,.list (b.map dh)))(h:a.length+b.length<=1000)(s:bh):a5 .Add (.new i) (.new j) (ao K)=J (.new K.length,ao (K++[(s,.list ((a++b).map dh))])):=
 G p7 (OO e1 e2 (adE h) s)
theorem TJ{a:Nat}(e:K[i]? =J (r,.list (l.map dh)))(h:l.length<=1000)(ha:a<1000)(s:bh):cj (.new i) (.sl ac (J (a:Int))) (ao K)=J (.new K.length,ao (K++[(s,.list ((l.take a).map dh))])):=
 G F4 (aoq e (w0 h) ha s)
theorem C8{a:Nat}(e:K[i]? =J (r,.list (l.map dh)))(h:l.length<=1000)(ha:a<1000)(s:bh):cj (.new i) (.sl (J (a:Int)) ac) (ao K)=J (.new K.length,ao (K++[(s,.list ((l.drop a).map dh))])):=
 G MQ (aop e (w0 h) ha s)
theorem an0{u:Nat}{w:dI}{oN aoU ajf:L}(aa:dK a2 to ra fp P T K)(aq:f=1\/f=2)(j7:w.length=24)(acR:K[u]? =J (r,.list (w.map dh)))(h:p8 a2 to {P with img:=upd P.img (fq f) (gq (P.img (fq f)) (iU f) w)} T 0 K λH=>k (.int (fq f:Nat)) H):
  ed (aw n) ((aW (bf 37)).drop 2) sR (dM k) .next [(cu,.new a2.im),(bS,.int f),(eC,oN),(dH,aoU),(jc,.new u),(dQ,ajf)] (ao K):=by
 refine dS (D4 aq) λdx el r9=>?_
 have dl:=aa.len _ dx;have acI:11+f/2=fq f:=rfl;have acH:f%2*24=iU f:=rfl;refine W7 (a3 (kr (a:=f) (c:=2) (by decide)) (a3 (f3 (a:=11)) (a3 (ks (a:=f) (c:=2) (by decide)) (a3 (xl (a:=f%2) (c:=24) (n7 (jo _ (by decide)) (by decide)) (by decide)) ?_))))
 refine G acI (G acH ?_);refine gz (.x 0) (nQ c2 rfl (hc (hc ?_)));refine a3 (hL (cf aa.im) (eE ‹_› (by decide)) (aa.row el)) (Jj (a3 (TJ (cf (aa.ir _ dx el)) (cQ (iB dl) (by decide)) (eI (cQ (kZ ..) r9) (by decide)) (.x 0)) (a3 (th c2 (cf (cf acR)) (G o5 (G j7 (XI r9))) (.x 0)) ?_)))
 refine a3 (hL (cf (cf (cf aa.im))) (eE ‹_› (by decide)) (aa.row el)) (a3 (f3 (a:=iU f) (c:=24)) (Q3 (a3 (C8 (cf (cf (cf (aa.ir _ dx el)))) (cQ (iB dl) (by decide)) (XJ r9) (.x 0)) ?_)))
 refine a3 (th (cf c2) c2 (by(refine G iz (G o5 (G wl (G j7 ?_))));exact cQ (Ce (wm (rx _ _) _) (sT _ _)) (by rw [dl];decide)) (.ir (fq f))) ?_
 have X:=((((ek.app K [(.x 0,.tup [.int (fq f:Nat),.int (iU f:Nat)])]).trans (.app _ [(.x 0,.list (((P.img (fq f)).take (iU f)).map dh))])).trans (.app _ [(.x 0,.list (((P.img (fq f)).take (iU f)++w).map dh))])).trans (.app _ [(.x 0,.list (((P.img (fq f)).drop (iU f+24)).map dh))])).trans
  (.app _ [(.ir (fq f),.list (((P.img (fq f)).take (iU f)++w++(P.img (fq f)).drop (iU f+24)).map dh))])
 have rh:=aa.ex X;refine au (vI rh.z rh.im (aC rfl) (G (d0 ..) (G (uy ..) el)) (by refine G (d0 ..) (G (uy ..) ?_);decide)) ?_
 refine G (Ja el) ?_;have aH:(P.img (fq f)).take (iU f)++w++(P.img (fq f)).drop (iU f+24)=gq (P.img (fq f)) (iU f) w:=by unfold gq;(exact G j7 rfl)
 have aO:(gq (P.img (fq f)) (iU f) w).length=48:=(xE (by exact G j7 (XM r9 dl))).trans dl
 refine h _ fp T _ (rh.setIm el aO (cU aH c2)) (X.fr.trans (Fr.set rh.im rfl)) (cW _)
theorem abp(aa:dK a2 to ra fp P T K)(aq:f=1\/f=2)(h:p8 a2 to {P with img:=upd P.img (fq f) (gq (P.img (fq f)) (iU f) (pN (P.fl f)))} T 0 K λH=>k (.int (fq f:Nat)) H):
  aw (n+2) 881 [.new a2.im,.int f,.new (fp f),.int (P.fl f).size] (ao K) k:=by
 have ii:=(aa.fd f aq).2;have ok:∀ {a b:Nat},Nat.ble (a+b) 1000=ae->a+b<=1000:=mQ;refine Y6 (gz (.x 0) (CT (.x 0) ?_));refine a3 (th (a:=[2,0,0,0,0,0,1,0]) (b:=hA (P.fl f).size) (cf c2) c2 (ok rfl) (.x 0)) (pG (cf (cf (cf ii))) ?_);refine iQ (nF (cf (cf (cf ii))) rfl) ZD (LU (CT (.x 0) (a3 (th (cf c2) c2 (ok rfl) (.x 0)) ?_)));refine iQ (nF (cf (cf (cf (cf (cf ii))))) rfl) O0 (LU (CT (.x 0) (a3 (th (cf c2) c2 (ok rfl) (.x 0)) ?_)));refine iQ (nF (cf (cf (cf (cf (cf (cf (cf ii))))))) rfl) O0 (LU (CT (.x 0) (a3 (th (cf c2) c2 (ok rfl) (.x 0)) ?_)));refine mr (qL (cf (cf (cf (cf (cf (cf (cf (cf (cf ii))))))))) (cW 3)) ?_;have WP:=(((((((ek.app K [(bh.x 0,bt.list ([2,0,0,0,0,0,1,0].map dh))]).trans (ek.app _ [(bh.x 0,bt.list ((hA (P.fl f).size).map dh))])).trans (ek.app _ [(bh.x 0,bt.list (([2,0,0,0,0,0,1,0]++hA (P.fl f).size).map dh))])).trans (ek.app _ [(bh.x 0,bt.list ((hA (P.fl f).p0).map dh))])).trans (ek.app _ [(bh.x 0,bt.list (([2,0,0,0,0,0,1,0]++hA (P.fl f).size++hA (P.fl f).p0).map dh))])).trans (ek.app _ [(bh.x 0,bt.list ((hA (P.fl f).p1).map dh))])).trans (ek.app _ [(bh.x 0,bt.list (([2,0,0,0,0,0,1,0]++hA (P.fl f).size++hA (P.fl f).p0++hA (P.fl f).p1).map dh))])).trans (ek.app _ [(bh.x 0,bt.list ((hA 0).map dh))]);have Ow:=WP.trans (ek.app _ [(bh.x 0,bt.list ((pN (P.fl f)).map dh))]);exact an0 (aa.ex Ow) aq (Tb _) c2 λoQ oC ml aX yX mM l'=>h oQ oC ml aX yX (Ow.fr.trans mM) l'
def xz:List L:=[dz 14,dz 15,dz 16,dz 17,dz 18,dz 19,dz 20,dz 21]
theorem anV:lV [L.int 14,L.int 22]=J xz:=by rfl
theorem anW(h:v∈xz):∃a:Nat,14<=a/\a<22/\v=.int a:=by
 unfold xz at h;simp only [fw,jl,or_false] at h;rcases h with rfl|rfl|rfl|rfl|rfl|rfl|rfl|rfl<;>exact⟨_,by decide,by decide,rfl⟩
noncomputable def tt(l:dI):L->Bool
 | .int a=>hW l a.toNat==0
 |_=>aA
theorem ZO:eu ua Fd (.one v) [(cu,a)] H=J [(cu,a),(nb,v)]:=by kernel_rfl
theorem ZP{aJ:L}:eu ua Fd (.one v) [(cu,a),(nb,aJ)] H=J [(cu,a),(nb,v)]:=by kernel_rfl
theorem X4{a:Nat}:a5 .BitAnd (.int a) (.int 1) H=J (.int ((a%2:Nat):Int),H):=by
 show J (L.int (wy a 1),H)=_
 exact G (bitAnd_m1 ..) rfl
theorem adD{U:List Nat}(aq:U.contains (cF U)=aA):∃l,xz.filter (tt (ga U))=dz (cF U)::l:=by
 have G8:tt (ga U) (dz 14)= !U.contains 14:=by show(hW (ga U) 14==0)=_;refine G (uR ⟨by decide,by decide⟩) ?_;cases U.contains 14<;>rfl
 have po:tt (ga U) (dz 15)= !U.contains 15:=by show(hW (ga U) 15==0)=_;refine G (uR ⟨by decide,by decide⟩) ?_;cases U.contains 15<;>rfl
 have Hb:tt (ga U) (dz 16)= !U.contains 16:=by show(hW (ga U) 16==0)=_;refine G (uR ⟨by decide,by decide⟩) ?_;cases U.contains 16<;>rfl
 have nw:tt (ga U) (dz 17)= !U.contains 17:=by show(hW (ga U) 17==0)=_;refine G (uR ⟨by decide,by decide⟩) ?_;cases U.contains 17<;>rfl
 unfold xz;unfold cF at aq⊢;refine G kE (G G8 ?_);cases a:U.contains 14
 ·exact⟨_,rfl⟩
 ·rw [a] at aq;refine G kE (G po ?_);cases b:U.contains 15
  ·exact⟨_,rfl⟩
  ·rw [b] at aq;refine G kE (G Hb ?_);cases c:U.contains 16
   ·exact⟨_,rfl⟩
   ·rw [c] at aq;refine G kE (G nw ?_);cases d:U.contains 17
    ·exact⟨_,rfl⟩
    ·exact absurd (d.symm.trans (show U.contains 17=aA from aq)) (by decide)
theorem KY{l:List L}{c:Nat}(e:K[i]? =J (r,.list l))(h:l.length*c<=1000)(aD:c<1000)(s:bh):a5 .Mult (.new i) (.int c) (ao K)=J (.new K.length,ao (K++[(s,.list (f9 c l).flatten)])):=by
 show((listAt (ao K) i).bind λa=>if bH (a.length*(c:Int).toNat)&&cG (c:Int) then J (L.new (ao K).length,ao K++[bt.list (f9 (c:Int).toNat a).flatten]) else ac)=_
 refine G (xh (d8 e) ..) ?_;show(if bH (l.length*(c:Int).toNat)&&cG (c:Int) then J (L.new (ao K).length,ao K++[bt.list (f9 (c:Int).toNat l).flatten]) else ac)=_
 exact G (h8 ..) (G (fE (by omega) ..) (G (mw (eE ‹_› (by decide)) ..) (G (nB (r:=s)) (G mo rfl))))
theorem Ig{c:Nat}:(f9 c [v]).flatten=f9 c v:=by
 induction c with
 |zero=>rfl
 |succ c ih=>(refine G Cc (G MM (G ih ?_)));rfl
def si(P:cR):cR:= {P with img:=upd (upd P.img 13 (ga (cF (b2 P)::b2 P))) (cF (b2 P)) jv,nums:=dT 13 P.nums}
theorem abq(aa:dK a2 to ra fp P T K)(hb:P.img 13=ga (b2 P))(aq:(b2 P).contains (cF (b2 P))=aA)(ce:T.length<=60000)(h:p8 a2 to (si P) T 1 K λH=>k (.int (cF (b2 P):Nat)) H):aw (n+1) 891 [.new a2.im,.new to] (ao K) k:=by
 have aes:=qx (b2 P);unfold gG at aes;have dl:=aa.len 13 lM;have w3:∀x,x<22->(P.img 13)[x/8]? =J ((P.img 13)[x/8]?.getD 0):=λx aO=>by exact G (iy (GR aO dl)) rfl
 have Dm:∀x,x<22->((P.img 13).map dh)[x/8]? =J (.int (((P.img 13)[x/8]?.getD 0).toNat:Nat)):=λx aO=>by exact G kY (G (w3 x aO) rfl)
 refine Y7 (au anV (wV (items:=xz) (P:=λm=>m=[(cu,.new a2.im)]\/ ∃v,m=[(cu,.new a2.im),(nb,v)]) (mm:=λv=>[(cu,.new a2.im),(nb,v)]) (c:=tt (P.img 13)) (f:=id) (λ_=>rfl)
  (λv m bc=>by rcases bc with rfl|⟨u,rfl⟩;exact ZO;exact ZP) (λv=>.inr ⟨v,rfl⟩) (λv hv q cI=>?_)
  (λv hv _ q cI=>acM cI) 1000 0 _ [] (.inl rfl) (by decide) (by decide) ?_))
 ·refine kS (anW hv) λx az aT al3=>?_;obtain rfl:=al3
  refine adq (a3 (hL (p:=13) aa.im (by decide) (aa.row (by decide))) (a3 (kr (a:=x) (c:=8) (by decide)) (a3 (hL (aa.ir 13 lM (by decide)) (eI (wn ..) (eE ‹_› (by decide))) (Dm x aT)) (a3 (ks (a:=x) (c:=8) (by decide)) (a3 Ef (a3 X4 (au rfl ?_)))))))
  have ig:(((((P.img 13)[x/8]?.getD 0).toNat/2^(x%8)%2:Nat):Int)==0)=tt (P.img 13) (.int x):=by
   show _=(hW (P.img 13) (x:Int).toNat==0)
   refine G (h8 ..) ?_;unfold hW;generalize((P.img 13)[x/8]?.getD 0).toNat/2^(x%8)%2=w;exact fB t6 (fB beq_iff_eq (fB beq_iff_eq Int.ofNat_eq_zero))
  cases e:tt (P.img 13) (.int x)
  ·rw [e] at cI;exact g7 (ig.trans e) cI
  ·rw [e] at cI;exact jq (ig.trans e) cI
 ·refine G (zs ..) (G (zm ..) (G (List.map_id ..) ?_));refine cm (adD aq) λl ei=>G hb (G ei ?_)
  refine gz (.x 0) (a3 (hL (p:=0) c2 (by decide) rfl) ?_)
  have b5:=aa.ex (.app K [(.x 0,.list (dz (cF (b2 P))::l))]);have xd:cF (b2 P)<22:=by omega
  have aiO:=SC ((P.img 13)[cF (b2 P)/8]?.getD 0).toNat (rM _) (cF (b2 P)%8) (jo _ (by decide))
  refine a3 (hL (p:=13) b5.im (by decide) (b5.row (by decide))) (a3 (kr (a:=cF (b2 P)) (c:=8) (by decide)) (a3 (hL (b5.ir 13 lM (by decide)) (eI (wn ..) (eE ‹_› (by decide))) (Dm _ xd)) (a3 (ks (a:=cF (b2 P)) (c:=8) (by decide)) (a3 (La (c:=cF (b2 P)%8) (cQ (jz (jo _ (by decide))) (by decide))) (a3 (Pb (w3 _ xd)) ?_)))))
  refine a3 (hL (p:=13) b5.im (by decide) (b5.row (by decide))) (a3 (kr (a:=cF (b2 P)) (c:=8) (by decide)) (au (vI b5.z (b5.ir 13 lM (by decide)) (aC rfl) (G (d0 ..) (place_lt (w3 (cF (b2 P)) xd))) (by refine G (d0 ..) ?_;omega)) ?_))
  have H1:((P.img 13).map dh).set (cF (b2 P)/8) (.int ((((P.img 13)[cF (b2 P)/8]?.getD 0).toNat|||2^(cF (b2 P)%8):Nat):Int))=(ga (cF (b2 P)::b2 P)).map dh:=by
   refine cU (O8 (qx _)) (cU hb ?_);unfold xD;refine G MS ?_;congr 1
   show _=L.int ((hV _).toNat:Int)
   (exact G CJ (G (Ck aiO) rfl))
  refine G H1 ?_;have gg:=b5.setIr (y:=13) (x:=ga (cF (b2 P)::b2 P)) (by decide) lM (O9 _ _ _ _)
  refine gz (.x 0) (a3 (KY (c:=48) c2 (by decide) (by decide) (.ir (cF (b2 P)))) ?_)
  refine G Ig ?_;have fI:=(gg.ex (.app _ [(.x 0,.list [.int 0])])).ex (.app _ [(.ir (cF (b2 P)),.list (jv.map dh))]);refine au (vI fI.z fI.im (aC rfl) (G (d0 ..) (G (uy ..) xd)) (by refine G (d0 ..) (G (uy ..) ?_);decide)) ?_
  refine G (Ja xd) ?_;have jf:=fI.setIm (y:=cF (b2 P)) (x:=jv) xd rfl c2;refine au (qt jf.to) (lS (tN jf.z jf.to (aC rfl) (G (d0 ..) (fE (by omega)))) ?_)
  have h6:=jf.addT 13;rw [p7] at h6;refine h _ fp (T++[13]) _ h6 ?_ (G iz (cW _));exact(Fr.app K _).trans ((Fr.set (b5.ir 13 lM (by decide)) rfl).trans (((Fr.app _ _).trans (Fr.app _ _)).trans ((Fr.set fI.im rfl).trans (Fr.set jf.to rfl))))
end
end
section
variable {b:L}
section
variable {k:b3}{q:ez}
theorem DI{l:List (L×L)}{u v:L}(e:K[i]? =J (r,.dict l))(hk:fX u=ae)(h:dV l u=J v):cj (.new i) (.at_ u) (ao K)=J (v,ao K):=by
 unfold cj;simp only [d8 e];rcases u<;>first |(simp only [hk,h,if_true,Cn])|cases hk
theorem acj:dV [(.str "places",a),(.str "size",b)] (.str "places")=J a:=oy.trans (aY rfl)
theorem ack:dV [(.str "places",a),(.str "size",b)] (.str "size")=J b:=oy.trans ((a8 (by decide)).trans (oy.trans (aY rfl)))
theorem acv{c:L}:g9 [(.str "places",a),(.str "size",b)] (.str "places") c=[(.str "places",c),(.str "size",b)]:=tv.trans (aY rfl)
theorem PU{c:L}:g9 [(.str "places",a),(.str "size",b)] (.str "size") c=[(.str "places",a),(.str "size",c)]:=tv.trans ((a8 (by decide)).trans (congrArg _ (tv.trans (aY rfl))))
theorem dK.pls(aa:dK a2 to ra fp P T K)(aq:f=1\/f=2):cj (.new (a2.fd f)) (.at_ (.str "places")) (ao K)=J (.new (fp f),ao K):=DI (aa.fd f aq).1 rfl acj
theorem dK.szs(aa:dK a2 to ra fp P T K)(aq:f=1\/f=2):cj (.new (a2.fd f)) (.at_ (.str "size")) (ao K)=J (dz (P.fl f).size,ao K):=DI (aa.fd f aq).1 rfl ack
theorem afI{x:Nat}{l:List Nat}:dT x (dT x l)=dT x l:=aY (xk.mpr (.inl rfl))
theorem dK.appT(aa:dK a2 to ra fp P T K)(x:Nat)(ce:T.length<=60000):lT (.new to) "append" [.int x] (ao K)=J (.none,ao (K.set to (.to,.list ((T++[x]).map dz)))):=by
 have :=tN (u:=.int x) aa.z aa.to (aC rfl) (G (d0 ..) (fE (by lia)))
 have e:(T++[x]).map dz=T.map dz++[.int x]:=G p7 rfl;exact G e this
theorem Ek{o off ap:Nat}{x:dI}{N:L->L->L->an->Prop}(aq:f=1\/f=2)(hi:(off+ap)/48=0\/(off+ap)/48=1)(aa:dK a2 to ra fp P T K)(bX:K[o]? =J (.x 9,.list (x.map dh)))(hb:gG (cJ (P.fl f) ((off+ap)/48)))(bA:ap<x.length)(aO:x.length<=100)(ce:T.length<=60000)
  (h:p8 a2 to (putP P (cJ (P.fl f) ((off+ap)/48)) ((off+ap)%48) ((x.drop ap).take (dp off x.length ap))) T 1 K λH=>N (.int (ap+dp off x.length ap:Nat)) (.int (cJ (P.fl f) ((off+ap)/48):Nat)) (.int (dp off x.length ap:Nat)) H):
  aF (cj (.new (a2.fd f)) (.at_ (L.str eC)) (ao K)) λaqn za=>aF (cj aqn (.at_ (.int ((off+ap)/48:Nat))) za) λBC zb=>aF (a5 .Sub (L.int 48) (.int ((off+ap)%48:Nat)) zb) λBD uq=>aF (cH (.builtin "len") [.new o] uq) λanB FQ=>aF (a5 .Sub anB (.int ap) FQ) λLP ur=>aF (cH (.builtin "min") [BD,LP] ur) λanD BZ=>eq BZ (.tup [BC,anD]) λaqo MG=>kz aqo MG 2 λagB=>fP agB λBp agh=>fP agh λES asI=>aF (cj (.new a2.im) (.at_ Bp) MG) λapT UD=>jJ (eA L.none) (eA (.int ((off+ap)%48:Nat))) λapq apr=>aF (cj apT (.sl apq apr) UD) λapV UE=>aF (a5 .Add (.int ap) ES UE) λapW UF=>jJ (eA (.int ap)) (eA apW) λaps apt=>aF (cj (.new o) (.sl aps apt) UF) λapX UG=>aF (a5 .Add apV apX UG) λapY UH=>aF (cj (.new a2.im) (.at_ Bp) UH) λapZ UJ=>aF (a5 .Add (.int ((off+ap)%48:Nat)) ES UJ) λap1 UL=>jJ (eA ap1) (eA L.none) λapu apv=>aF (cj apZ (.sl apu apv) UL) λap3 UN=>aF (a5 .Add apY ap3 UN) λap4 UO=>aj (fS (.new a2.im) (.at_ Bp) ap4 UO) λME=>aj (bx (.new to) l4 ME) λaaA=>bB False (aw n) aaA [Bp] ME λasX UP=>aF (a5 .Add (.int ap) ES UP) λap6 UQ=>N ap6 Bp ES UQ:=by
 have tD:=hb;unfold gG at hb;have t3:cJ (P.fl f) ((off+ap)/48)<22:=by lia
 have m6:gY (cJ (P.fl f) ((off+ap)/48)):=.inr (Ch hb.1);generalize hbk:cJ (P.fl f) ((off+ap)/48)=bk at *
 have dl:=aa.len bk m6;refine a3 (aa.pls aq) (a3 (hL (aa.fd f aq).2 (by lia) (vB hi)) (a3 (sh (a:=48) (c:=(off+ap)%48) (jz (jo _ (by decide)))) (a3 (pD bX (w0 (cQ ‹_› (by decide)))) ?_)))
 refine G (d0 ..) (G (hbk ..) ?_);refine a3 (sh (a:=x.length) (c:=ap) (jz ‹_›)) (a3 RH ?_);have ii:min (48 - (off+ap)%48) (x.length - ap)=dp off x.length ap:=rfl;refine G ii ?_;have hp:dp off x.length ap<=48 - (off+ap)%48/\dp off x.length ap<=x.length - ap:=⟨sS _ _,rx _ _⟩;have j2:dp off x.length ap<=48:=cQ hp.1 (sT _ _);have ll:((x.drop ap).take (dp off x.length ap)).length=dp off x.length ap:=G o5 (G wl (pc hp.2));refine gz (.x 0) (nQ c2 rfl (hc (hc ?_)));refine a3 (hL (cf aa.im) (eE ‹_› (by decide)) (aa.row t3)) (Jj (a3 (TJ (cf (aa.ir _ m6 t3)) (by lia) (n7 (jo _ (by decide)) (by decide)) (.x 0)) (a3 (f3 (a:=ap) (c:=dp off x.length ap)) (Ji ?_))))
 have acJ:∀aX:dB,aX[o]? =J (.x 9,.list (x.map dh))->cj (.new o) (.sl (J (ap:Int)) (J ((ap+dp off x.length ap:Nat):Int))) (ao aX)=J (.new aX.length,ao (aX++[(.x 0,.list (((x.drop ap).take (dp off x.length ap)).map dh))])):=λaX e=>by
  exact G F4 (G MQ (Tf e (w0 (cQ ‹_› (by decide))) (by lia) (eI ‹_› (by decide)) (.x 0)))
 refine a3 (acJ _ (cf (cf bX))) (a3 (th (cf c2) c2 (by(refine G ll (G o5 ?_));exact cQ (Ce (rx _ _) j2) (by rw [dl];decide)) (.x 0)) ?_)
 refine a3 (hL (cf (cf (cf (cf aa.im)))) (eE ‹_› (by decide)) (aa.row t3)) (a3 (f3 (a:=(off+ap)%48) (c:=dp off x.length ap)) (Q3 (a3 (C8 (cf (cf (cf (cf (aa.ir _ m6 t3))))) (cQ (iB dl) (by decide)) (eI (OJ hp.1) (by decide)) (.x 0)) ?_)))
 refine a3 (th (cf c2) c2 (by(refine G iz (G ll (G o5 (G wl ?_))));exact cQ (Ce (Ce (rx _ _) j2) (sT _ _)) (by rw [dl];decide)) (.ir bk)) ?_
 have X:=(((((ek.app K [(.x 0,.tup [.int (bk:Nat),.int (dp off x.length ap:Nat)])]).trans (.app _ [(.x 0,.list (((P.img bk).take ((off+ap)%48)).map dh))])).trans (.app _ [(.x 0,.list (((x.drop ap).take (dp off x.length ap)).map dh))])).trans (.app _ [(.x 0,.list (((P.img bk).take ((off+ap)%48)++(x.drop ap).take (dp off x.length ap)).map dh))])).trans (.app _ [(.x 0,.list (((P.img bk).drop ((off+ap)%48+dp off x.length ap)).map dh))])).trans
  (.app _ [(.ir bk,.list (((P.img bk).take ((off+ap)%48)++(x.drop ap).take (dp off x.length ap)++(P.img bk).drop ((off+ap)%48+dp off x.length ap)).map dh))])
 have rh:=aa.ex X;refine au (vI rh.z rh.im (aC rfl) (G (d0 ..) (G (uy ..) t3)) (by refine G (d0 ..) (G (uy ..) ?_);decide)) ?_
 refine G (Ja t3) ?_;have aH:(P.img bk).take ((off+ap)%48)++(x.drop ap).take (dp off x.length ap)++(P.img bk).drop ((off+ap)%48+dp off x.length ap)=gq (P.img bk) ((off+ap)%48) ((x.drop ap).take (dp off x.length ap)):=by unfold gq;(exact G ll rfl)
 have f4:(gq (P.img bk) ((off+ap)%48) ((x.drop ap).take (dp off x.length ap))).length=48:=(xE (by exact G ll (XR dl hp.1))).trans dl
 have BV:=rh.setIm (y:=bk) (x:=gq (P.img bk) ((off+ap)%48) ((x.drop ap).take (dp off x.length ap))) t3 f4 (cU aH c2);refine au (qt BV.to) (lS (BV.appT bk ce) (a3 f3 ?_));exact h _ fp (T++[bk]) _ (BV.addT bk) (X.fr.trans ((Fr.set rh.im rfl).trans (Fr.set BV.to rfl))) (G iz (cW _))
abbrev Og(a2:lE)(to f off o ap:Nat)(mm:Loc):Prop:=mm=[(cu,.new a2.im),(iH,.new (a2.fd f)),(gT,.int off),(d2,.new o),(ey,.new to),(hC,.int ap)]\/ ∃a b c d,mm=[(cu,.new a2.im),(iH,.new (a2.fd f)),(gT,.int off),(d2,.new o),(ey,.new to),(hC,.int ap),(mI,a),(e4,b),(iY,c),(mJ,d)]
theorem aoh{T:List Nat}(e:K[i]? =J (r,.list (T.map dz)))(ce:T.length<=4000)(s:bh):cH (.type "set") [.new i] (ao K)=J (.new K.length,ao (K++[(s,.set ((dd T).map dz))])):=by
 show((listAt (ao K) i).bind λl=>if eo (l.length<=4000)&&l.all isInt then J (L.new (ao K).length,ao K++[bt.set (rV l [])]) else ac)=_
 refine G (xh (d8 e) ..) ?_;show(if eo ((T.map dz).length<=4000)&&(T.map dz).all isInt then J (L.new (ao K).length,ao K++[bt.set (rV (T.map dz) [])]) else ac)=_
 refine G XZ (G (d0 ..) (G (decide_eq_true ce ..) ?_));have :=PP (T:=T) (acc:=[]);rw [MR] at this;exact G this (G (nB (r:=s)) (G mo rfl))
theorem K8{Q:b3}(aa:dK a2 to ra fp P T K)(ce:T.length<=4000)(gI:P.nums.length<=100)(h:Q (.int P.nums.length) (ao (K++[(.x 0,.set ((dd T).map dz))]))):aF (cH (.type "set") [.new to] (ao K)) λnL eP=>aF (cH (.builtin "len") [nL] eP) λhd dr=>Q hd dr:=by
 have aQ:(dd T).length=P.nums.length:=by(exact G aa.nums rfl)
 refine a3 (aoh aa.to ce (.x 0)) (a3 (ag8 c2 (G (d0 ..) (G (aQ ..) (fE (by lia))))) ?_)
 exact G (d0 ..) (G (aQ ..) h)
abbrev Ou(n c3:Nat)(mm:Loc)(H:an)(q:ez):Prop:=l3 False (λm H q=>ge False (aw (n+1)) (fD (bw (aW (bf 40)) 1) 0) (λH k=>bO False (aw (n+1)) (fD (bw (aW (bf 40)) 1) 0) ki m H k) ki m H q) (λm H q=>b1 False (aw (n+1)) (eh (bw (aW (bf 40)) 1)) ki m H q) c3 mm H q
abbrev rt(a2:lE)(to f off o n c3:Nat)(q:ez)(v a b c d:L)(H:an):Prop:=Ou n c3 [(cu,.new a2.im),(iH,.new (a2.fd f)),(gT,.int off),(d2,.new o),(ey,.new to),(hC,v),(mI,a),(e4,b),(iY,c),(mJ,d)] H q
theorem aqO{off o:Nat}{x:dI}(aq:f=1\/f=2)(aR:off+x.length<=96):∀(dn c3:Nat) {P:cR} {T:List Nat} {ap:Nat} {mm:Loc} {ra fp:Nat->Nat} {K:dB},dK a2 to ra fp P T K->K[o]? =J (.x 9,.list (x.map dh))->et P->P.nums.length<=6->T.length+2*dn<=4000->Og a2 to f off o ap mm->x.length<ap+dn->dn<=c3->ap<=x.length->
    (∀oQ oC ml aX mm,dK a2 to oQ oC (gy dn P f off x ap).2 ml aX->Fr tK K aX->ml.length<=T.length+2*dn->Og a2 to f off o (gy dn P f off x ap).1 mm->q .next mm (ao aX))->
    Ou n c3 mm (ao K) q
 :=by
  intro dn;induction dn with
  |zero=>exact @λc3 P T ap mm ra fp K aa bX W hn ce bc ai ak bA h=>absurd ai (n8.mpr bA)
  |succ dn ih=>
   exact @λc3 P T ap mm ra fp K aa bX W hn ce bc ai ak bA h=>by
    rcases c3 with _|c3
    ·exact absurd ak (Vp dn)
    have oT:∀ {X Y:an->Prop},(ap<x.length/\P.nums.length<=4->Y (ao (K++[(.x 0,.set ((dd T).map dz))])))->(¬(ap<x.length/\P.nums.length<=4)->X (ao K)/\X (ao (K++[(.x 0,.set ((dd T).map dz))])))->
      aF (cH (.builtin "len") [.new o] (ao K)) λb9 cM=>aj (bW .Lt (.int ap) b9 cM) λeT=>bo .And eT (X cM) (aF (cH (.type "set") [.new to] cM) λnL eP=>aF (cH (.builtin "len") [nL] eP) λhd dr=>aF (a5 .Sub (L.int 8) hd dr) λi9 dN=>aj (bW .GtE i9 (L.int 4) dN) λpm=>bo .And pm (X dN) (Y dN)):=λ{X Y} Iz f4=>by
     refine a3 (pD bX (w0 (by lia))) (G (d0 ..) (au (a:=eo ((ap:Int)<(x.length:Int))) rfl ?_))
     by_cases a:ap<x.length
     ·refine ph (decide_eq_true (mc.mpr ‹_›)) (K8 (Q:=λhd dr=>aF (a5 .Sub (L.int 8) hd dr) λi9 dN=>aj (bW .GtE i9 (L.int 4) dN) λpm=>bo .And pm (X dN) (Y dN)) aa (Nat.le_of_add_right_le ce) (cQ ‹_› (by decide)) (a3 (sh (a:=8) (cQ ‹_› (by decide))) (au (a:=eo ((4:Int)<=((8 - P.nums.length:Nat):Int))) rfl ?_)))
      by_cases b:P.nums.length<=4
      ·exact ph (decide_eq_true (Xo b)) (Iz ⟨a,b⟩)
      ·exact oq (decide_eq_false (by lia)) (f4 λz=>b z.2).2
     ·exact oq (decide_eq_false (GU a)) (f4 λz=>a z.1).1
    refine EW ?_;by_cases aD:ap<x.length/\P.nums.length<=4
    ·have hi:(off+ap)/48=0\/(off+ap)/48=1:=by exact tg aR aD.1
     have tI:=SG (off:=off) aD.1;have AK:dp off x.length ap<=x.length - ap:=rx _ _;have ei:gy (dn+1) P f off x ap=gy dn (jN P f off x ap) f off x (ap+dp off x.length ap):=aY aD;rw [ei] at h;have next:∀h0 hY e7 cn a b c d,dK a2 to h0 hY (jN P f off x ap) e7 cn->Fr tK K cn->e7.length<=T.length+2->
       rt a2 to f off o n c3 q (.int (ap+dp off x.length ap:Nat)) a b c d (ao cn):=λh0 hY e7 cn a b c d b5 dJ gn=>by
      have asm:=Bb (P:=P) (x:=x) aq hi;exact ih c3 b5 (dJ _ _ _ bX rfl) (W.pieceP aq hi) (by lia) (by lia) (.inr ⟨_,_,_,_,rfl⟩) (by lia) (by lia) (by lia) λoQ oC ml aX mm' yX mM l' i7=>h oQ oC ml aX mm' yX (dJ.trans mM) (by lia) i7
     have b6:=ek.app K [(bh.x 0,bt.set ((dd T).map dz))];have body:∀ {N N':L->L->L->L->L->an->Prop},(∀h0 hY e7 cn a b c d,dK a2 to h0 hY (jN P f off x ap) e7 cn->Fr tK K cn->e7.length<=T.length+2->N (.int (ap+dp off x.length ap:Nat)) a b c d (ao cn)/\N' (.int (ap+dp off x.length ap:Nat)) a b c d (ao cn))->∀ {TL TL':L->L->an->Prop},
       (∀cn fj h0 hY e7 (b5:dK a2 to h0 hY fj e7 cn),cn[o]? =J (.x 9,.list (x.map dh))->gG (cJ (fj.fl f) ((off+ap)/48))->e7.length<=60000->p8 a2 to (putP fj (cJ (fj.fl f) ((off+ap)/48)) ((off+ap)%48) ((x.drop ap).take (dp off x.length ap))) e7 1 cn (λH=>N (.int (ap+dp off x.length ap:Nat)) (.int ((off+ap)/48:Nat)) (.int ((off+ap)%48:Nat)) (.int (cJ (fj.fl f) ((off+ap)/48):Nat)) (.int (dp off x.length ap:Nat)) H)->TL (.int ((off+ap)/48:Nat)) (.int ((off+ap)%48:Nat)) (ao cn))->
       (∀cn fj h0 hY e7 (b5:dK a2 to h0 hY fj e7 cn),cn[o]? =J (.x 9,.list (x.map dh))->gG (cJ (fj.fl f) ((off+ap)/48))->e7.length<=60000->p8 a2 to (putP fj (cJ (fj.fl f) ((off+ap)/48)) ((off+ap)%48) ((x.drop ap).take (dp off x.length ap))) e7 1 cn (λH=>N' (.int (ap+dp off x.length ap:Nat)) (.int ((off+ap)/48:Nat)) (.int ((off+ap)%48:Nat)) (.int (cJ (fj.fl f) ((off+ap)/48):Nat)) (.int (dp off x.length ap:Nat)) H)->TL' (.int ((off+ap)/48:Nat)) (.int ((off+ap)%48:Nat)) (ao cn))->
       aF (a5 .Add (.int off) (.int ap) (ao (K++[(.x 0,.set ((dd T).map dz))]))) λkO o0=>aF (a5 .FloorDiv kO (L.int 48) o0) λil jg=>aF (a5 .Add (.int off) (.int ap) jg) λsm kg=>aF (a5 .Mod sm (L.int 48) kg) λso lC=>eq lC (.tup [il,so]) λvQ lD=>kz vQ lD 2 λAR=>fP AR λiX Ju=>fP Ju λkP agm=>aF (cj (.new (a2.fd f)) (.at_ (L.str eC)) lD) λmx hE=>aF (cj mx (.at_ iX) hE) λsp gD=>aj (bW .Eq sp (L.int 0) gD) λrS=>dU rS (aw (n+1) 891 [.new a2.im,.new to] gD λsd iI=>aF (cj (.new (a2.fd f)) (.at_ (L.str eC)) iI) λiG fJ=>aj (fS iG (.at_ iX) sd fJ) λiJ=>TL iX kP iJ) (TL' iX kP gD):=λ{N N'} nE {TL TL'} gm aex=>by
      refine a3 f3 (a3 (kr (c:=48) (by decide)) (a3 f3 (a3 (ks (c:=48) (by decide)) (gz (.x 0) (nQ c2 rfl (hc (hc ?_)))))))
      have cc:=b6.trans (ek.app _ [(.x 0,.tup [.int ((off+ap)/48:Nat),.int ((off+ap)%48:Nat)])]);have gg:=aa.ex cc;refine a3 (gg.pls aq) (a3 (hL (gg.fd f aq).2 (by lia) (vB hi)) (au (a:=((cJ (P.fl f) ((off+ap)/48):Int)==0)) rfl ?_))
      by_cases bu:cJ (P.fl f) ((off+ap)/48)=0
      ·refine jq (G bu rfl) (abq gg W.bmp (Ic aq hi bu) (by lia) λxw u7 op gu fI f7 r7=>?_)
       refine a3 (fI.pls aq) (au (vI fI.z (fI.fd f aq).2 (aC rfl) (by show _<3;lia) (mQ rfl)) ?_)
       refine G (SK hi) ?_;have jf:=fI.setFp aq (eF (P.fl f) ((off+ap)/48) (cF (b2 P))) D5;have n0:=f7.trans (Fr.set (o':=lU (eF (P.fl f) ((off+ap)/48) (cF (b2 P)))) (fI.fd f aq).2 rfl);have ii:cJ (upd (si P).fl f (eF (P.fl f) ((off+ap)/48) (cF (b2 P))) f) ((off+ap)/48)=cF (b2 P):=by(exact G gd (G (Bc hi hi) (G (aY rfl) rfl)))
       refine gm _ _ xw u7 op jf (n0 _ _ _ (cc _ _ _ bX) rfl) (G (show cJ (({si P with fl:=upd (si P).fl f (eF (P.fl f) ((off+ap)/48) (cF (b2 P)))}:cR).fl f) ((off+ap)/48)=cF (b2 P) from ii) (qx _)) (by lia) λse r0 pg kX h6 je pC=>(nE se r0 pg kX _ _ _ _ ?_ (cc.fr.trans (n0.trans je)) (by lia)).1
       have kq:jN P f off x ap=putP {si P with fl:=upd (si P).fl f (eF (P.fl f) ((off+ap)/48) (cF (b2 P)))} (cJ (({si P with fl:=upd (si P).fl f (eF (P.fl f) ((off+ap)/48) (cF (b2 P)))}:cR).fl f) ((off+ap)/48)) ((off+ap)%48) ((x.drop ap).take (dp off x.length ap)):=by
        have e:mn P f ((off+ap)/48)= {pP P with fl:=upd P.fl f (eF (P.fl f) ((off+ap)/48) (cF (b2 P)))}:=aY bu
        unfold jN;refine G e ?_;show putP _ (cJ (upd P.fl f (eF (P.fl f) ((off+ap)/48) (cF (b2 P))) f) ((off+ap)/48)) _ _=putP _ (cJ (upd P.fl f (eF (P.fl f) ((off+ap)/48) (cF (b2 P))) f) ((off+ap)/48)) _ _
        refine G gd (G (Bc hi hi) (G (aY rfl) ?_));unfold putP pP si;dsimp only;(exact G afI rfl)
       exact G kq h6
      ·refine g7 (by simp only [beq_eq_false_iff_ne,ne_eq];lia) ?_
       refine aex _ P ra fp T gg (cc _ _ _ bX) ((W.pl f aq _ hi).resolve_left bu) (by lia) λse r0 pg kX h6 je pC=>(nE se r0 pg kX _ _ _ _ ?_ (cc.fr.trans je) (by lia)).2
       have e:mn P f ((off+ap)/48)=P:=a8 bu;unfold jN;exact G e h6
     rcases bc with rfl|⟨a,b,c,d,rfl⟩
     ·refine TG (oT (X:=λH=>_) (Y:=λH=>_) (λ_=>?_) (λz=>absurd aD z))
      exact aqI (body (N:=rt a2 to f off o n c3 q) (N':=rt a2 to f off o n c3 q) (λh0 hY e7 cn a b c d b5 dJ gn=>⟨next h0 hY e7 cn a b c d b5 dJ gn,next h0 hY e7 cn a b c d b5 dJ gn⟩) (TL:=λa b H=>_) (TL':=λa b H=>_)
       (λcn fj h0 hY e7 b5 u3 j3 gn cI=>Ek (N:=λv c d H=>rt a2 to f off o n c3 q v (.int ((off+ap)/48:Nat)) (.int ((off+ap)%48:Nat)) c d H) aq hi b5 u3 j3 aD.1 (by lia) gn cI) (λcn fj h0 hY e7 b5 u3 j3 gn cI=>Ek (N:=λv c d H=>rt a2 to f off o n c3 q v (.int ((off+ap)/48:Nat)) (.int ((off+ap)%48:Nat)) c d H) aq hi b5 u3 j3 aD.1 (by lia) gn cI))
     ·refine TH (oT (X:=λH=>_) (Y:=λH=>_) (λ_=>?_) (λz=>absurd aD z))
      exact aqJ (body (N:=rt a2 to f off o n c3 q) (N':=rt a2 to f off o n c3 q) (λh0 hY e7 cn a b c d b5 dJ gn=>⟨next h0 hY e7 cn a b c d b5 dJ gn,next h0 hY e7 cn a b c d b5 dJ gn⟩) (TL:=λa b H=>_) (TL':=λa b H=>_)
       (λcn fj h0 hY e7 b5 u3 j3 gn cI=>Ek (N:=λv c d H=>rt a2 to f off o n c3 q v (.int ((off+ap)/48:Nat)) (.int ((off+ap)%48:Nat)) c d H) aq hi b5 u3 j3 aD.1 (by lia) gn cI) (λcn fj h0 hY e7 b5 u3 j3 gn cI=>Ek (N:=λv c d H=>rt a2 to f off o n c3 q v (.int ((off+ap)/48:Nat)) (.int ((off+ap)%48:Nat)) c d H) aq hi b5 u3 j3 aD.1 (by lia) gn cI))
    ·have ei:gy (dn+1) P f off x ap=(ap,P):=a8 aD;rw [ei] at h;have ch:=h ra fp T K mm aa (.refl K) (by lia) bc
     have cd:=h ra fp T _ mm (aa.ex (.app K [(.x 0,.set ((dd T).map dz))])) (Fr.app _ _) (by lia) bc
     rcases bc with rfl|⟨a,b,c,d,rfl⟩
     ·exact TG (oT (X:=λH=>_) (Y:=λH=>_) (λz=>absurd z aD) λ_=>⟨ch,cd⟩)
     ·exact TH (oT (X:=λH=>_) (Y:=λH=>_) (λz=>absurd z aD) λ_=>⟨ch,cd⟩)
end
end
noncomputable def iD(n:Nat):Nat:=1+n%2
noncomputable def pL(n:Nat):Nat:=n/2/5%60
noncomputable def nJ(n:Nat):List UInt8:=f9 (1+n/2/300%20) (hV (65+n/2/300%26))
def kv(P:cR)(n:Nat):cR:=if n/2%5=4 then qZ P (iD n) else(pS P (iD n) (pL n) (nJ n)).2
def lZ(P:cR)(n:Nat):L:=if n/2%5=4 then .none else .int ((pS P (iD n) (pL n) (nJ n)).1:Nat)
theorem Kg(n:Nat):iD n=1\/iD n=2:=by unfold iD;lia
theorem aiZ(n:Nat):(nJ n).length=1+n/2/300%20:=F3
theorem Ki(n:Nat):pL n+(nJ n).length<=96:=by refine G (aiZ ..) ?_;unfold pL;exact XG n
section
variable {k:b3}{q:ez}
theorem ahJ{a c:Nat}:cH (.builtin "max") [.int a,.int c] H=J (.int ((max a c:Nat):Int),H):=by
 show J (L.int (if(a:Int)<c then(c:Int) else a),H)=_
 congr 3
 split<;>lia
theorem abr{off o:Nat}{x:dI}(aq:f=1\/f=2)(aR:off+x.length<=96)(aa:dK a2 to ra fp P T K)(bX:K[o]? =J (.x 9,.list (x.map dh)))(W:et P)(hn:P.nums.length<=6)(ce:T.length<=1000)
  (h:p8 a2 to (kN P f off x) T 200 K λH=>k (.int ((gy (x.length+1) P f off x 0).1:Nat)) H):aw (n+2) 898 [.new a2.im,.new (a2.fd f),.int off,.new o,.new to] (ao K) k:=by
 refine Y8 (agy ?_);refine aqO (ap:=0) aq aR (x.length+1) 1000 aa bX W hn (by lia) (.inl rfl) (by lia) (by lia) (hf _) λh0 hY e7 cn mm b5 dJ gn bc=>?_
 have hJ:kN P f off x=if 0<(gy (x.length+1) P f off x 0).1 then tz (gy (x.length+1) P f off x 0).2 f (off+(gy (x.length+1) P f off x 0).1) else(gy (x.length+1) P f off x 0).2:=rfl
 rw [hJ] at h;generalize gy (x.length+1) P f off x 0=R at *
 have j1:aj (bW .Gt (.int (R.1:Nat)) (L.int 0) (ao cn)) λHo=>dU Ho (aF (cj (.new (a2.fd f)) (.at_ (L.str dH)) (ao cn)) λLA FG=>aF (a5 .Add (.int off) (.int (R.1:Nat)) FG) λLB FH=>aF (cH (.builtin "max") [LA,LB] FH) λKN FI=>aj (fS (.new (a2.fd f)) (.at_ (L.str dH)) KN FI) λFJ=>k (.int (R.1:Nat)) FJ) (k (.int (R.1:Nat)) (ao cn)):=by
  refine au (a:=eo ((0:Int)<(R.1:Nat))) rfl ?_;by_cases bu:0<R.1
  ·rw [aY bu] at h;refine jq (decide_eq_true (mc.mpr ‹_›)) (a3 (b5.szs aq) (a3 f3 (a3 ahJ (au (vH b5.z (b5.fd f aq).1 (aC rfl) rfl rfl) ?_))));refine G PU ?_;have gg:=b5.setFd aq (u:=hY f) (s:= {R.2.fl f with size:=max (R.2.fl f).size (off+R.1)}) (b5.fd f aq).2
   exact h h0 _ e7 _ gg (dJ.trans (Fr.set (b5.fd f aq).1 rfl)) (by lia)
  ·rw [a8 bu] at h;exact g7 (decide_eq_false (by lia)) (h h0 hY e7 cn b5 dJ (by lia))
 rcases bc with rfl|⟨a,b,c,d,rfl⟩
 ·exact W8 j1
 ·exact W9 j1
noncomputable def qB:L->Bool
 | .int a=>eo (0<a)
 |_=>aA
theorem ZQ{v:L}:eu ub Ff (.one v) [] H=J [(nb,v)]:=by kernel_rfl
theorem ZR{v aJ:L}:eu ub Ff (.one v) [(nb,aJ)] H=J [(nb,v)]:=by kernel_rfl
theorem G0{a b c d e aB h i v:L}:eu o9 Fe (.one v) [(cu,a),(ew,b),(fV,c),(ey,d),(bS,e),(sE,aB),(iH,h),(gC,i)] H=J [(cu,a),(ew,b),(fV,c),(ey,d),(bS,e),(sE,aB),(iH,h),(gC,i),(dQ,v)]:=by kernel_rfl
theorem ZE{a b c d e aB h i v aJ:L}:eu o9 Fe (.one v) [(cu,a),(ew,b),(fV,c),(ey,d),(bS,e),(sE,aB),(iH,h),(gC,i),(dQ,aJ)] H=J [(cu,a),(ew,b),(fV,c),(ey,d),(bS,e),(sE,aB),(iH,h),(gC,i),(dQ,v)]:=by kernel_rfl
theorem Di{x:Nat}{Q:an->Prop}(aO:gG x)(aa:dK a2 to ra fp P T K)(hb:hW (P.img 13) x=1)(ce:T.length<=50000)(h:p8 a2 to (dL P x) T 1 K Q):
  aF (cj (.new a2.im) (.at_ (L.int 13)) (ao K)) λBx y3=>aF (a5 .FloorDiv (.int x) (L.int 8) y3) λBy y5=>aF (cj Bx (.at_ By) y5) λBz y6=>aF (a5 .Mod (.int x) (L.int 8) y6) λLL FO=>aF (a5 .LShift (L.int 1) LL FO) λBA y7=>aF (a5 .Sub Bz BA y7) λBB y8=>aF (cj (.new a2.im) (.at_ (L.int 13)) y8) λLM FP=>aF (a5 .FloorDiv (.int x) (L.int 8) FP) λLN y9=>aj (fS LM (.at_ LN) BB y9) λup=>aj (bx (.new to) l4 up) λHF=>bB False (aw n) HF [(L.int 13)] up λanA za=>Q za:=by
 unfold gG at aO;have dl:=aa.len 13 lM;have w3:(P.img 13)[x/8]? =J ((P.img 13)[x/8]?.getD 0):=G (iy (uN aO.2 dl)) rfl;have Dm:((P.img 13).map dh)[x/8]? =J (.int (((P.img 13)[x/8]?.getD 0).toNat:Nat)):=G kY (G w3 rfl);have le:2^(x%8)<=((P.img 13)[x/8]?.getD 0).toNat:=TB _ (rM _) _ (jo _ (by decide)) hb
 refine a3 (hL (p:=13) aa.im (by decide) (aa.row (by decide))) (a3 (kr (a:=x) (c:=8) (by decide)) (a3 (hL (aa.ir 13 lM (by decide)) (CL aO.2) Dm) (a3 (ks (a:=x) (c:=8) (by decide)) (a3 (La (c:=x%8) (by lia)) (a3 (sh le) ?_)))))
 refine a3 (hL (p:=13) aa.im (by decide) (aa.row (by decide))) (a3 (kr (a:=x) (c:=8) (by decide)) (au (vI aa.z (aa.ir 13 lM (by decide)) (aC rfl) (G (d0 ..) (place_lt w3)) (by refine G (d0 ..) ?_;lia)) ?_))
 have H1:((P.img 13).map dh).set (x/8) (.int ((((P.img 13)[x/8]?.getD 0).toNat - 2^(x%8):Nat):Int))=(i8 (P.img 13) x).map dh:=by
  unfold i8;refine G MS ?_;congr 1
  show _=L.int ((hV _).toNat:Int)
  (exact G CJ (G (Ck (eI (sT _ _) (rM _))) rfl))
 refine G H1 ?_;have gg:=aa.setIr (y:=13) (x:=i8 (P.img 13) x) (by decide) lM (by unfold i8;exact G zp dl)
 refine au (qt gg.to) (lS (gg.appT 13 (by lia)) ?_)
 have kq:dL P x= {P with img:=upd P.img 13 (i8 (P.img 13) x),nums:=dT 13 P.nums}:=a8 (Nat.ne_zero_of_lt aO.1)
 rw [kq] at h;exact h ra fp (T++[13]) _ (gg.addT 13) ((Fr.set (aa.ir 13 lM (by decide)) rfl).trans (Fr.set gg.to rfl)) (G iz (cW _))
theorem PZ{RV:L}{Q:an->Prop}(aq:f=1\/f=2)(j0:RV=.int f)(aa:dK a2 to ra fp P T K)(ce:T.length<=50000)(h:p8 a2 to (qV P f) T 1 K Q):
  aj (bx (.new to) l4 (ao K)) λHy=>aF (cj (.new (a2.fd f)) (.at_ (L.str eC)) (ao K)) λBv y2=>aF (cj (.new (a2.fd f)) (.at_ (L.str dH)) y2) λBw uo=>aw (n+2) 881 [.new a2.im,RV,Bv,Bw] uo λKU FM=>bB False (aw (n+2)) Hy [KU] FM λS0 kW=>Q kW:=by
 subst j0;refine au (qt aa.to) (a3 (aa.pls aq) (a3 (aa.szs aq) (abp aa aq λh0 hY e7 cn b5 dJ gn=>lS (b5.appT (fq f) (by lia)) ?_)))
 exact h h0 hY (e7++[fq f]) _ (b5.addT (fq f)) (dJ.trans (Fr.set b5.to rfl)) (by refine G iz ?_;show e7.length+1<=_;exact wm gn 1)
theorem abt(aa:dK a2 to ra fp P T K)(W:et P)(hn:P.nums.length<=6)(ce:T.length<=900)(h:p8 a2 to (kv P m) T 300 K λH=>k (lZ P m) H):aw (n+3) 903 [.new a2.im,.new a2.fs,.int m,.new to] (ao K) k:=by
 have aq:=Kg m;have e1:(1+m%2:Nat)=iD m:=rfl;refine Y9 (a3 (ks (a:=m) (c:=2) (by decide)) (a3 (f3 (a:=1)) (a3 (kr (a:=m) (c:=2) (by decide)) (gz (.x 0) (nQ c2 rfl (hc (hc ?_)))))))
 refine G e1 ?_;have qq:=ek.app K [(.x 0,.tup [.int (iD m:Nat),.int (m/2:Nat)])];have b5:=aa.ex qq;have lk:([.new (a2.fd 1),.new (a2.fd 2)]:List L)[iD m - 1]? =J (.new (a2.fd (iD m))):=by rcases aq with e|e<;>(refine G e ?_)<;>rfl
 refine a3 (sh (a:=iD m) (c:=1) (zw e1)) (a3 (hL b5.fs (XF e1) lk) (gz (.x 0) (nQ c2 rfl (hc (hc ?_)))));have GN:=qq.trans (ek.app _ [(.x 0,.tup [.new (a2.fd (iD m)),.none])]);have gg:=aa.ex GN;refine a3 (ks (a:=m/2) (c:=5) (by decide)) (au (a:=(((m/2%5:Nat):Int)==4)) rfl ?_)
 by_cases bA:m/2%5=4
 ·refine jq (G bA rfl) ?_;have kq:kv P m=qZ P (iD m):=aY bA;have u2:lZ P m=.none:=aY bA;rw [kq,u2] at h;generalize iD m=f at *
  refine cz (W.give aq (ix:=0) (.inl rfl)) λwL E4=>cz (wL.give aq (ix:=1) (.inr rfl)) λwM jd=>?_
  have Ai:({dL P (cJ (P.fl f) 0) with fl:=upd P.fl f (eF (P.fl f) 0 0)}:cR).fl f=eF (P.fl f) 0 0:=gd
  rw [Ai] at jd;have SP:(P.fl f).p0=0\/gG (P.fl f).p0:=W.pl f aq 0 (.inl rfl);have aM:(P.fl f).p1=0\/gG (P.fl f).p1:=W.pl f aq 1 (.inr rfl);have hH:(P.fl f).p0≠0->hW (P.img 13) (P.fl f).p0=1:=E4;have fy:(P.fl f).p1≠0->hW ((dL P (P.fl f).p0).img 13) (P.fl f).p1=1:=jd;refine a3 (gg.pls aq) (pG (gg.fd f aq).2 (wV (items:=[.int (P.fl f).p0,.int (P.fl f).p1,.int (0:Nat)]) (P:=λm=>m=[]\/ ∃v,m=[(nb,v)]) (mm:=λv=>[(nb,v)]) (c:=qB) (f:=id)
   (λp=>by unfold itemAt;simp only [d8 (gg.fd f aq).2]) (λv m bc=>by rcases bc with rfl|⟨u,rfl⟩;exact ZQ;exact ZR) (λv=>.inr ⟨v,rfl⟩) (λv hv q cI=>?_) (λv hv _ q cI=>acN cI) 1000 0 _ [] (.inl rfl) (mQ rfl) (hf _) ?_))
  ·have :∃x:Nat,v=.int x:=by
    simp only [fw,jl,or_false] at hv;rcases hv with rfl|rfl|rfl<;>exact⟨_,rfl⟩
   refine cm this λx al4=>?_;obtain rfl:=al4
   refine adr (au rfl ?_);have ig:eo ((0:Int)<(x:Int))=qB (.int x):=rfl;refine G ig ?_;cases e:qB (.int x)
   ·rw [e] at cI;exact g7 rfl cI
   ·rw [e] at cI;exact jq rfl cI
  ·refine G (zs ..) (G (zm ..) (G (List.map_id ..) ?_));have cp:∀ {mm:Loc} {gu:dB} {xw u7:Nat->Nat} {op:List Nat},dK a2 to xw u7 (dL (dL P (P.fl f).p0) (P.fl f).p1) op gu->Fr tK K gu->op.length<=T.length+2->
     eq (ao gu) (.list [(L.int 0),(L.int 0),(L.int 0)]) λBC zb=>eq zb (.tup [BC,(L.int 0)]) λBD uq=>kz BD uq 2 λAT=>fP AT λLO Jx=>aj (fS (.new (a2.fd f)) (.at_ (L.str eC)) LO uq) λur=>fP Jx λBE agA=>aj (fS (.new (a2.fd f)) (.at_ (L.str dH)) BE ur) λB0=>aj (bx (.new to) l4 B0) λaby=>aF (cj (.new (a2.fd f)) (.at_ (L.str eC)) B0) λaqp UB=>aF (cj (.new (a2.fd f)) (.at_ (L.str dH)) UB) λapS UC=>aw (n+2) 881 [.new a2.im,.int (f:Nat),aqp,apS] UC λSQ Fo=>bB False (aw (n+2)) aby [SQ] Fo λasW Fp=>k .none Fp:=λ{mm gu xw u7 op} fI f7 r7=>by
    have adG:(dL (dL P (P.fl f).p0) (P.fl f).p1).fl=P.fl:=Dh.trans Dh;generalize hP2:dL (dL P (P.fl f).p0) (P.fl f).p1=P2 at *
    refine gz (.fp f) (gz (.x 0) (nQ c2 rfl (hc ?_)));have aP:(gu++[(bh.fp f,bt.list [L.int 0,L.int 0,L.int 0])])[gu.length]? =J (.fp f,lU ⟨0,0,(P.fl f).size⟩):=c2;have Ox:=(ek.app gu [(bh.fp f,bt.list [L.int 0,L.int 0,L.int 0])]).trans (ek.app _ [(.x 0,.tup [.new gu.length,.int 0])]);have jf:=fI.ex Ox;refine au (vH jf.z (jf.fd f aq).1 (aC rfl) rfl rfl) (hc ?_);refine G acv ?_;have h6:=jf.setFd aq (u:=gu.length) (s:=⟨0,0,(P2.fl f).size⟩) (cf aP);refine au (vH h6.z (h6.fd f aq).1 (aC rfl) rfl rfl) (G PU ?_);have qA:=h6.fd f aq;have rg:=h6.setFd aq (u:=upd u7 f gu.length f) (s:=⟨0,0,0⟩) (by
     have :=qA.2;rw [show({P2 with fl:=upd P2.fl f ⟨0,0,(P2.fl f).size⟩}:cR).fl f=⟨0,0,(P2.fl f).size⟩ from gd] at this
     exact this)
    have Ah:upd (upd P2.fl f ⟨0,0,(P2.fl f).size⟩) f ⟨0,0,0⟩=upd P.fl f ⟨0,0,0⟩:=by refine G adG ?_;funext y;unfold upd;split<;>rfl
    rw [Ah] at rg;have Af:qZ P f=qV {P2 with fl:=upd P.fl f ⟨0,0,0⟩} f:=by unfold qZ;(exact G (hP2 ..) rfl)
    rw [Af] at h;exact PZ aq rfl rg (by lia) λanF adN Wm FT Fm Fk asP=>h anF adN Wm FT Fm (f7.trans (Ox.fr.trans ((Fr.set (jf.fd f aq).1 rfl).trans ((Fr.set qA.1 rfl).trans Fk)))) (by lia)
   refine gz (.x 8) (pG c2 ?_);have fI:=gg.ex (ek.app _ [(.x 8,.list (([.int (P.fl f).p0,.int (P.fl f).p1,.int (0:Nat)]:List L).filter qB))]);have f7:Fr tK K _:=(GN.trans (ek.app _ [(.x 8,.list (([.int (P.fl f).p0,.int (P.fl f).p1,.int (0:Nat)]:List L).filter qB))])).fr;have Dl:∀ {x:Nat},¬x=0->qB (.int x)=ae:=λ{x} aO=>decide_eq_true (by lia)
   have u8:qB (.int (0:Nat))=aA:=rfl;by_cases q5:(P.fl f).p0=0
   ·have yL:dL P (P.fl f).p0=P:=aY q5;rw [yL] at fy cp;by_cases gs:(P.fl f).p1=0
    ·have bE:dL P (P.fl f).p1=P:=aY gs;rw [bE] at cp;rw [q5,gs] at fI f7⊢;exact mr (qL c2 (cW 0)) (Xa (cp (mm:=[]) fI f7 (kZ T.length 2)))
    ·have ei:([.int (P.fl f).p0,.int (P.fl f).p1,.int (0:Nat)]:List L).filter qB=[.int (P.fl f).p1]:=by exact G kE (G kE (G kE (G (Dl gs) (G u8 (G q5 (G u8 rfl))))))
     rw [ei] at fI f7⊢;refine iQ (nF c2 rfl) G0 (EU (Di (Q:=λH=>_) (aM.resolve_left gs) fI (fy gs) (by lia) λse r0 pg kX h6 je pC=>?_))
     exact mr (qL (je _ _ _ c2 rfl) (cW 1)) (GQ (cp (mm:=[]) h6 (f7.trans je) (uC pC)))
   ·by_cases gs:(P.fl f).p1=0
    ·have bE:dL (dL P (P.fl f).p0) (P.fl f).p1=dL P (P.fl f).p0:=aY gs;rw [bE] at cp;have ei:([.int (P.fl f).p0,.int (P.fl f).p1,.int (0:Nat)]:List L).filter qB=[.int (P.fl f).p0]:=G kE (G kE (G kE (G (Dl q5) (G u8 (G gs (G u8 rfl))))));rw [ei] at fI f7⊢;refine iQ (nF c2 rfl) G0 (EU (Di (Q:=λH=>_) (SP.resolve_left q5) fI (hH q5) (by lia) λse r0 pg kX h6 je pC=>?_))
     exact mr (qL (je _ _ _ c2 rfl) (cW 1)) (GQ (cp (mm:=[]) h6 (f7.trans je) (uC pC)))
    ·have ei:([.int (P.fl f).p0,.int (P.fl f).p1,.int (0:Nat)]:List L).filter qB=[.int (P.fl f).p0,.int (P.fl f).p1]:=by exact G kE (G kE (G kE (G (Dl q5) (G (Dl gs) (G u8 rfl)))))
     rw [ei] at fI f7⊢;refine iQ (nF c2 rfl) G0 (EU (Di (Q:=λH=>_) (SP.resolve_left q5) fI (hH q5) (by lia) λse r0 pg kX h6 je pC=>?_))
     refine iQ (nF (je _ _ _ c2 rfl) rfl) ZE (EU (Di (Q:=λH=>_) (aM.resolve_left gs) h6 (fy gs) (by lia) λas2 asx aso FS rg we Rh=>?_))
     exact mr (qL (we _ _ _ (je _ _ _ c2 rfl) rfl) (cW 2)) (GQ (cp (mm:=[]) rg (f7.trans (je.trans we)) (by lia)))
 ·refine g7 (by simp only [beq_eq_false_iff_ne,ne_eq];lia) ?_
  have kq:kv P m=(pS P (iD m) (pL m) (nJ m)).2:=a8 bA;have u2:lZ P m=.int ((pS P (iD m) (pL m) (nJ m)).1:Nat):=a8 bA;rw [kq,u2,L4] at h;refine a3 (kr (a:=m/2) (c:=300) (by decide)) (a3 (ks (a:=m/2/300) (c:=26) (by decide)) (a3 (f3 (a:=65)) (gz (.x 0) (a3 (kr (a:=m/2) (c:=300) (by decide)) (a3 (ks (a:=m/2/300) (c:=20) (by decide)) (a3 (f3 (a:=1)) (a3 (KY c2 (by show 1*_<=1000;lia) (by lia) (.x 9)) ?_)))))))
  refine G Ig ?_;have Ag:f9 (1+m/2/300%20) (L.int ((65+m/2/300%26:Nat):Int))=(nJ m).map dh:=by
   unfold nJ;refine G List.map_replicate ?_;congr 1
   show _=L.int ((hV _).toNat:Int)
   have H0:(65+m/2/300%26)%2^8=65+m/2/300%26:=Ck (by lia)
   (exact G CJ (G H0 rfl))
  refine G Ag ?_;have te:=(GN.trans (ek.app _ [(.x 0,.list [.int ((65+m/2/300%26:Nat):Int)])])).trans (ek.app _ [(.x 9,.list ((nJ m).map dh))]);have fI:=aa.ex te;refine a3 (kr (a:=m/2) (c:=5) (by decide)) (a3 (ks (a:=m/2/5) (c:=60) (by decide)) ?_)
  exact abr (off:=pL m) aq (Ki m) fI c2 W hn (by lia) λS3 Qh td jR jf n0 DP=>PZ (n:=n) aq rfl jf (by lia) λse r0 pg kX h6 je pC=>h se r0 pg kX h6 (te.fr.trans (n0.trans je)) (by lia)
end
section
variable {m:Loc}
def lB:aU:=(j8 (fD (bw (aW (bf 44)) 9) 0) 0)
def Fh:aU:=vO lB
def p4:ds:=gF (dO (bf 44)).names (vG lB).names
theorem acO{n:Nat}{ev b0 bC:L}{q:b3}(h:let C:=aw n;q bC H):bO False (aw n) (j8 lB 0) p4 [(dP,ev),(cu,b0),(bS,bC)] H q:=bZ (by kernel_rfl) h
theorem ads{n:Nat}{ev b0 bC:L}{q:Bool->an->Prop}(h:let C:=aw n;aj (bW .LtE (L.int 2) bC H) λG9=>dU G9 (aj (bW .Lt bC (L.int 11) H) λaaD=>bo .And (!aaD) (q aA H) (aj (bx ev (z "read") H) λHa=>bB False C Ha [bC] H λKz Ft=>aF (cj b0 (.at_ bC) Ft) λLr Fu=>aF (cH (.type "bytes") [Lr] Fu) λKA ug=>aj (bW .NotEq Kz KA ug) λHc=>bo .And Hc (q aA ug) (q ae ug))) (aj (bx ev (z "read") H) λaaF=>bB False C aaF [bC] H λann UX=>aF (cj b0 (.at_ bC) UX) λaqf UY=>aF (cH (.type "bytes") [aqf] UY) λano Fv=>aj (bW .NotEq ann ano Fv) λaaG=>bo .And aaG (q aA Fv) (q ae Fv))):jb False (aw n) (m0 lB) p4 [(dP,ev),(cu,b0),(bS,bC)] H q:=bZ (by kernel_rfl) h
def Jf(e:aU):aU:=(Iq e).iter
def aji(e:aU):Pos:=iP e jQ (kListComp:=λ_ _ _ p=>p)
theorem L2{ax:ds}{k:b3}{dW dq iter:aU}{eU:List aU}{sc:jA}{pos:Pos}:bO False C (.ListComp dW [⟨dq,iter,eU,0⟩] sc pos) ax m H k=
 (if z9 ax sc dq then sv False C iter (λH k=>bO False C iter ax m H k) ax m H λs H=>jX False (gF ax sc.names) dq (λm H q=>jb False C eU (gF ax sc.names) m H q) (λm H q=>bO False C dW (gF ax sc.names) m H q) s f6 0 (ow (gF ax sc.names) m) H [] λvs H=>k (.new H.length) (H++[.list vs]) else False):=by rfl
theorem anS{ax:ds}{K:ez}{e:aU}{ct:List cD}{p1 p2 ka:Pos}:b1 False C (.Return (J (.Compare e [.Eq] [.List [] p1] p2)) ka::ct) ax m H K=
 bO False C e ax m H (λv H=>eq H (.list []) λw H=>aj (bW .Eq v w H) λc=>K (.ret (.bool c)) m H):=by kernel_rfl
theorem aoJ:∃p1 p2 ka,bw (aW (bf 44)) 9=.Return (J (.Compare lB [.Eq] [.List [] p1] p2)) ka:=⟨_,_,_,rfl⟩
theorem acG:lB=.ListComp (j8 lB 0) [⟨vO lB,Jf lB,m0 lB,0⟩] (vG lB) (aji lB):=by kernel_rfl
theorem anC{k:kI->an->Prop}:sv False C (Jf lB) (λH k=>bO False C (Jf lB) lF m H k) lF m H k=aj (lV [L.int 22]) λl=>k (.items l) H:=by kernel_rfl
theorem Zc{bV:Loc}{k:b3}(hJ:ow p4 m=bV)(h:aj (lV [L.int 22]) λagz=>jX False p4 Fh (λm H q=>jb False C (m0 lB) p4 m H q) (λm H q=>bO False C (j8 lB 0) p4 m H q) (.items agz) f6 0 bV H [] λAT FQ=>eq FQ (.list AT) λLP ur=>eq ur (.list []) λBE BZ=>aj (bW .Eq LP BE BZ) λabx=>k (L.bool abx) BZ):
  b1 False C ((aW (bf 44)).drop 9) lF m H (dM k):=by
 refine ar6 aoJ λp1 p2 ka e=>?_
 have acF:(aW (bf 44)).drop 9=bw (aW (bf 44)) 9::[]:=by kernel_rfl
 refine G acF (G e (G anS (G acG (G L2 (G (aY (by kernel_rfl)) ?_)))))
 refine bZ (anC (m:=m)).symm ?_;subst hJ;exact h
end
section
variable {x:dI}
theorem RB{n:Nat}(h:x.length<=ap):gy n P f off x ap=(ap,P):=by
 induction n using n6 with
 |zero=>rfl
 |succ n=>exact a8 (λz=>by lia)
theorem aht(aq:f=1\/f=2)(aR:off+x.length<=96)(h:x.length - ap<=48 - (off+ap)%48):(gy n P f off x ap).2.nums.length<=P.nums.length+2:=by
 induction n using n6 with
 |zero=>exact kZ _ _
 |succ n=>
  refine G DV ?_;split
  ·rename_i aD;have e:dp off x.length ap=x.length - ap:=Ga h;exact G (RB (OH e)) (Bb aq (tg aR aD.1))
  ·exact kZ _ _
theorem agK{off ap len p:Nat}(aR:off+len<=96)(e:p=48 - (off+ap)%48):len - (ap+p)<=48 - (off+(ap+p))%48:=by
 have bc:=jo (off+ap) (show 0<48 by decide)
 have bA:=Nat.div_add_mod (off+ap) 48;have z:off+(ap+p)=48*((off+ap)/48+1):=by
  rw [e,Nat.mul_add,<-zu];generalize(off+ap)/48=q at *
  generalize(off+ap)%48=r at *
  clear aR e p;exact Xq bc bA
 have j2:48<=off+(ap+p):=by rw [z];exact Nat.le_mul_of_pos_right 48 (Nat.succ_pos _)
 rw [z,Nat.mul_mod_right];exact Xw aR j2
theorem ahu(aq:f=1\/f=2)(aR:off+x.length<=96):(gy n P f off x ap).2.nums.length<=P.nums.length+4:=by
 induction n using n6 with
 |zero=>exact kZ _ _
 |succ n=>
  refine G DV ?_;split
  ·rename_i aD;have a2:=Bb (P:=P) (x:=x) (off:=off) (ap:=ap) aq (tg aR aD.1);by_cases q:x.length - ap<=48 - (off+ap)%48
   ·have e:dp off x.length ap=x.length - ap:=Ga q;refine G (RB (OH e)) ?_;show(jN P f off x ap).nums.length<=_;lia
   ·have e:dp off x.length ap=48 - (off+ap)%48:=pc (Nat.le_of_not_ge q);have :=aht (n:=n) (P:=jN P f off x ap) (ap:=ap+dp off x.length ap) aq aR (agK aR e);exact cQ this (wm a2 2)
  ·exact kZ _ _
structure hS(P:cR):Prop where
 ok:∀y∈P.nums,gY y/\y<22
theorem hS.add{l:List Nat}{y:Nat}(h:∀z∈l,gY z/\z<22)(hy:gY y/\y<22):∀z∈dT y l,gY z/\z<22:=λz hz=>by
 rcases xk.mp hz with rfl|hz
 ·exact hy
 ·exact h z hz
theorem PL{y:Nat}(h:gG y):gY y/\y<22:=by unfold gG at h;exact⟨.inr (Ch h.1),by lia⟩
theorem Sx:gY 13/\13<22:=⟨lM,by decide⟩
theorem hS.piece(N:hS P)(W:et P)(aq:f=1\/f=2)(hi:(off+ap)/48=0\/(off+ap)/48=1):hS (jN P f off x ap):=by
 refine⟨hS.add ?_ (PL (W.blkP aq hi).2)⟩;unfold mn;split
 ·exact hS.add (hS.add N.ok Sx) (PL (qx _))
 ·exact N.ok
theorem hS.loop(aq:f=1\/f=2)(aR:off+x.length<=96):∀(n:Nat) {P:cR} {ap:Nat},hS P->et P->hS (gy n P f off x ap).2
 |0,P,ap,N,W=>N
 |n+1,P,ap,N,W=>by
  refine G DV ?_;split
  ·rename_i aD;exact hS.loop aq aR n (N.piece W aq (tg aR aD.1)) (W.pieceP aq (tg aR aD.1))
  ·exact N
theorem anZ(aq:f=1\/f=2):gY (fq f)/\fq f<22:=⟨(D4 aq).1,(D4 aq).2.1⟩
theorem hS.rowP(N:hS P)(aq:f=1\/f=2):hS (qV P f):=⟨hS.add N.ok (anZ aq)⟩
theorem hS.give(N:hS P)(y:Nat):hS (dL P y):=by
 unfold dL;split
 ·exact N
 ·exact⟨hS.add N.ok Sx⟩
theorem et.sized(W:et P){aB:Nat->jx}{v:Nat}(hv:v<1000)(bj:∀y,(aB y).p0=(P.fl y).p0/\(aB y).p1=(P.fl y).p1/\((aB y).size=(P.fl y).size\/(aB y).size=v)){img:Nat->List UInt8}{D2:List Nat}(hi:img 13=P.img 13):et ⟨img,aB,D2⟩:=by
 have E:∀y c4,cJ (aB y) c4=cJ (P.fl y) c4:=λy c4=>by unfold cJ;(exact G ((bj y).1) (G ((bj y).2.1) rfl))
 refine⟨?_,λy hy c4 cY=>by show cJ (aB y) c4=0\/gG (cJ (aB y) c4);refine G (E ..) ?_;exact W.pl y hy c4 cY,λy hy=>?_,λy hy c4 cY eN afs oG qF gX bl=>?_⟩
 ·show img 13=ga (b2 ⟨img,aB,D2⟩)
  refine G hi (G W.bmp ?_);unfold b2;(exact G ((bj 1).1) (G ((bj 1).2.1) (G ((bj 2).1) (G ((bj 2).2.1) rfl))))
 ·show(aB y).size<1000
  rcases(bj y).2.2 with e|e
  ·exact G e (W.sz y hy)
  ·exact G e hv
 ·show cJ (aB y) c4=0
  have ve:cJ (aB y) c4=cJ (aB eN) oG:=bl;rw [E] at ve⊢;rw [E] at ve;exact W.dj y hy c4 cY eN afs oG qF gX ve
theorem key{A B:cR}(x:Nat)(e:A.img 13=B.img 13):(dL A x).img 13=(dL B x).img 13:=by
 unfold dL;split
 ·exact e
 ·show upd A.img 13 (i8 (A.img 13) x) 13=upd B.img 13 (i8 (B.img 13) x) 13
  exact G e (gd.trans gd.symm)
theorem Kh{m:Nat}(W:et P)(N:hS P):et (kv P m)/\hS (kv P m)/\fq (iD m)∈(kv P m).nums/\(kv P m).nums.length<=max (P.nums.length+5) 7/\(P.nums.length<=5->(kv P m).nums.length<=8)/\(P.nums.length=0->(kv P m).nums.length<=5):=by
 have aq:=Kg m;unfold kv;split
 ·generalize iD m=f at *
  have Af:qZ P f=qV {dL (dL P (P.fl f).p0) (P.fl f).p1 with fl:=upd P.fl f ⟨0,0,0⟩} f:=rfl
  refine G Af ?_;obtain⟨wL,-⟩:=W.give aq (ix:=0) (.inl rfl);obtain⟨wM,-⟩:=wL.give aq (ix:=1) (.inr rfl);have Ai:({dL P (cJ (P.fl f) 0) with fl:=upd P.fl f (eF (P.fl f) 0 0)}:cR).fl f=eF (P.fl f) 0 0:=gd
  rw [Ai] at wM;have gn:=Dj (P:=P) (x:=(P.fl f).p0);have fY:=Dj (P:=dL P (P.fl f).p0) (x:=(P.fl f).p1);have r7:=uO (x:=fq f) (l:=(dL (dL P (P.fl f).p0) (P.fl f).p1).nums);have WN:et {dL (dL P (P.fl f).p0) (P.fl f).p1 with fl:=upd P.fl f ⟨0,0,0⟩}:=by
   refine wM.sized (v:=0) (by decide) (λy=>?_) ?_
   ·show(upd P.fl f ⟨0,0,0⟩ y).p0=(upd (upd P.fl f (eF (P.fl f) 0 0)) f (eF (eF (P.fl f) 0 0) 1 0) y).p0/\(upd P.fl f ⟨0,0,0⟩ y).p1=(upd (upd P.fl f (eF (P.fl f) 0 0)) f (eF (eF (P.fl f) 0 0) 1 0) y).p1/\((upd P.fl f ⟨0,0,0⟩ y).size=(upd (upd P.fl f (eF (P.fl f) 0 0)) f (eF (eF (P.fl f) 0 0) 1 0) y).size\/(upd P.fl f ⟨0,0,0⟩ y).size=0)
    by_cases q:y=f
    ·subst q;exact G gd (G gd (⟨rfl,rfl,.inr rfl⟩))
    ·exact G (iW q) (G (iW q) (G (iW q) (⟨rfl,rfl,.inl rfl⟩)))
   ·show(dL (dL P (P.fl f).p0) (P.fl f).p1).img 13=(dL {dL P (cJ (P.fl f) 0) with fl:=upd P.fl f (eF (P.fl f) 0 0)} (cJ (eF (P.fl f) 0 0) 1)).img 13
    exact key _ rfl
  refine⟨WN.rowP aq,hS.rowP (P:= {dL (dL P (P.fl f).p0) (P.fl f).p1 with fl:=upd P.fl f ⟨0,0,0⟩}) ⟨((N.give _).give _).ok⟩ aq,xk.mpr (.inl rfl),?_,λh=>?_,λh=>?_⟩
  ·show(dT (fq f) (dL (dL P (P.fl f).p0) (P.fl f).p1).nums).length<=_;exact XD gn fY r7
  ·show(dT (fq f) (dL (dL P (P.fl f).p0) (P.fl f).p1).nums).length<=_;lia
  ·show(dT (fq f) (dL (dL P (P.fl f).p0) (P.fl f).p1).nums).length<=_;lia
 ·have aR:=Ki m;refine G L4 ?_;generalize iD m=f at *
  generalize nJ m=x at *
  generalize pL m=off at *
  obtain⟨a,b⟩:=RF aq W aR;have j0:(kN P f off x).nums=(gy (x.length+1) P f off x 0).2.nums:=by unfold kN;split<;>rfl
  have DP:=ahu (P:=P) (n:=x.length+1) (ap:=0) aq aR;have pC:=uO (x:=fq f) (l:=(kN P f off x).nums);rw [j0] at pC;refine⟨a.rowP aq,hS.rowP ⟨G j0 ((hS.loop aq aR _ N W).ok)⟩ aq,xk.mpr (.inl rfl),?_,λh=>?_,λh=>?_⟩
  ·show(dT (fq f) (kN P f off x).nums).length<=_;exact G j0 (XE DP pC)
  ·have :=b (uC h);rw [j0] at this;show(dT (fq f) (kN P f off x).nums).length<=_;refine G j0 ?_;lia
  ·show(dT (fq f) (kN P f off x).nums).length<=_;refine G j0 ?_;lia
end
section
variable {k:b3}{q:ez}
theorem abv(S:bP A al re K)(hn:re.nums=[])(aD:re.calls=2)(h:k (.bool aA) (ao K)):aw (n+1) 917 [.new A.j] (ao K) k:=by
 have e:xA (ao K) (.new A.j)=J ae:=by
  show((ao K)[A.j]?).bind _=_
  rw [d8 S.j];show(listAt (ao K) re.ns).bind _=_
  unfold listAt;rw [d8 S.ns,hn,aD];rfl
 show cond (ae&&(xA (ao K) (.new A.j)).getD aA) _ _
 rw [e];exact h
theorem S6{v:UInt8}:∀c,bR (f9 c (dh v))=J (f9 c v)
 |0=>rfl
 |c+1=>by
  refine G Cc (G Cc ?_);unfold bR;refine G (S6 c) ?_;show(match oK (.int (v.toNat:Int)),_ with |J c,J r=>J (c::r)|_,_=>ac)=_
  (exact G (vz (rM v)) (G UInt8.ofNat_toNat rfl))
theorem abu{gp:Nat}(aa:eQ A b7 cO al re P K)(W:et P)(hn:P.nums.length<=5)(Da:K[gp]? =J (.x 10,.list [.new (b7 1),.new (b7 2)]))(h:oo A b7 re K (kv P m) λH=>k (lZ P m) H):aw (n+11) 910 [.new gp,.int m] (ao K) k:=by
 have aq:=Kg m;have lk:([.new (b7 1),.new (b7 2)]:List L)[m%2]? =J (.new (b7 (iD m))):=by
  have :m%2=0\/m%2=1:=Nat.mod_two_eq_zero_or_one m;unfold iD;rcases this with e|e<;>(refine G e ?_)<;>rfl
 refine Za (a3 (ks (a:=m) (c:=2) (by decide)) (a3 (hL Da (n7 (jo _ (by decide)) (by decide)) lk) (a3 (kr (a:=m) (c:=2) (by decide)) (gz (.x 0) (nQ c2 rfl (hc (hc ?_)))))))
 have qq:=ek.app K [(.x 0,.tup [.new (b7 (iD m)),.int (m/2:Nat)])];have b5:=aa.ex qq;refine a3 (ks (a:=m/2) (c:=5) (by decide)) (au (a:=(((m/2%5:Nat):Int)==4)) rfl ?_)
 by_cases bA:m/2%5=4
 ·have kq:kv P m=qZ P (iD m):=aY bA;have u2:lZ P m=.none:=aY bA;rw [kq,u2] at h;refine jq (G bA rfl) (au (c1 (b5.nf _ aq).1 rfl rfl) (aaM aq b5 W hn λca2 d9 nl2 dZ gg fH=>h ca2 d9 nl2 dZ gg (qq.fr.trans fH)))
 ·have kq:kv P m=(pS P (iD m) (pL m) (nJ m)).2:=a8 bA;have u2:lZ P m=.int ((pS P (iD m) (pL m) (nJ m)).1:Nat):=a8 bA;rw [kq,u2] at h;refine g7 (by simp only [beq_eq_false_iff_ne,ne_eq];exact Nat.ToInt.of_diseq rfl rfl bA) (au (c1 (b5.nf _ aq).1 rfl rfl) ?_)
  refine a3 (kr (a:=m/2) (c:=5) (by decide)) (a3 (ks (a:=m/2/5) (c:=60) (by decide)) (a3 (kr (a:=m/2) (c:=300) (by decide)) (a3 (ks (a:=m/2/300) (c:=26) (by decide)) (a3 (f3 (a:=65)) (gz (.x 0) (a3 (kr (a:=m/2) (c:=300) (by decide)) (a3 (ks (a:=m/2/300) (c:=20) (by decide)) (a3 (f3 (a:=1)) (a3 (KY c2 (by show 1*_<=1000;lia) (by lia) (.x 9)) ?_)))))))))
  refine G Ig ?_;have oA:L.int ((65+m/2/300%26:Nat):Int)=dh (hV (65+m/2/300%26)):=by
   have H0:(65+m/2/300%26)%2^8=65+m/2/300%26:=Ck (by lia)
   show _=L.int ((hV _).toNat:Int)
   (exact G CJ (G H0 rfl))
  refine a3 (G6 c2 (G F3 (fE (by lia))) (G oA (S6 _))) ?_
  have te:=(qq.trans (ek.app _ [(.x 0,.list [.int ((65+m/2/300%26:Nat):Int)])])).trans (ek.app _ [(.x 9,.list (f9 (1+m/2/300%20) (.int ((65+m/2/300%26:Nat):Int))))]);exact aaL (off:=pL m) (x:=nJ m) aq (Ki m) (aa.ex te) W (uC hn) λca2 d9 nl2 dZ gg fH=>h ca2 d9 nl2 dZ gg (te.fr.trans fH)
theorem eQ.frL{aX:dB}(aa:eQ A b7 cO al re P K)(h:Fr tK K aX):eQ A b7 cO al re P aX:=by
 have S:=aa.S;refine⟨⟨cm S.z λo z=>⟨o,h _ _ _ z rfl⟩,h _ _ _ S.s rfl,h _ _ _ S.n rfl,h _ _ _ S.c rfl,h _ _ _ S.d rfl,h _ _ _ S.j rfl,h _ _ _ S.row rfl,h _ _ _ S.bn rfl,h _ _ _ S.la rfl,h _ _ _ S.ke rfl,h _ _ _ S.un rfl,λt q=>h _ _ _ (S.ut t q) rfl,h _ _ _ S.ns rfl,h _ _ _ S.nt rfl,λb q=>h _ _ _ (S.bo b q) rfl,λb q=>h _ _ _ (S.bd b q) rfl⟩,
  aa.I,aa.hh,aa.pd,λf aq=>⟨h _ _ _ (aa.nf f aq).1 rfl,h _ _ _ (aa.nf f aq).2 rfl⟩,aa.img,aa.nums,aa.calls⟩
theorem dK.frP{aX:dB}(aa:dK a2 to ra fp P T K)(h:Fr r4 K aX)(hz:gW aX):dK a2 to ra fp P T aX:=aa.fr h ⟨rfl,rfl,rfl,λ_=>⟨rfl,rfl,rfl⟩⟩ hz
theorem O2{a b:Nat}(h:¬a=b):kG a b=aA:=by
 rcases aB:kG a b
 ·rfl
 ·exact absurd (Vn aB) h
noncomputable def AP(r:bh):Bool:=kG r.1 25&&(kG r.2 11||kG r.2 12)
theorem Uk{s:Nat}(a:¬s=11)(b:¬s=12):AP (.x s)=aA:=by show(ae&&(kG s 11||kG s 12))=aA;rw [O2 a,O2 b];rfl
theorem G3{gp nP pv:Nat}{gr:List L}{Q:an->Prop}(aa:eQ A b7 cO al re P K)(ma:dK a2 to ra fp P T K)(W:et P)(hn:P.nums.length<=5)(ce:T.length<=900)(Da:K[gp]? =J (.x 10,.list [.new (b7 1),.new (b7 2)]))(rX:K[nP]? =J (.x 11,.list gr))(jZ:K[pv]? =J (.x 12,.list gr))(j7:gr.length<=10)
  (h:∀bJ d9 m3 oQ oC ml (aX:dB),eQ A b7 m3 bJ {re with nums:=(kv P m).nums,ntl:=d9} (kv P m) aX->dK a2 to oQ oC (kv P m) ml aX->ml.length<=T.length+300->aX[gp]? =J (.x 10,.list [.new (b7 1),.new (b7 2)])->aX[nP]? =J (.x 11,.list (gr++[lZ P m]))->aX[pv]? =J (.x 12,.list (gr++[lZ P m]))->
   (∀(i s:Nat) (l:List L),¬s=11->¬s=12->K[i]? =J (.x s,.list l)->aX[i]? =J (.x s,.list l))->Q (ao aX)):
  aj (bx (.new nP) l4 (ao K)) λzX=>aw (n+11) 910 [.new gp,.int m] (ao K) λD7 fJ=>bB False (aw (n+11)) zX [D7] fJ λBg iw=>aj (bx (.new pv) l4 iw) λzY=>aw (n+11) 903 [.new a2.im,.new a2.fs,.int m,.new to] iw λBh kC=>bB False (aw (n+11)) zY [Bh] kC λSU nj=>Q nj:=by
 refine au (qt rX) (abu aa W hn Da λeK d9 jr cn b5 dJ=>?_)
 have rY:=dJ _ _ _ rX rfl;have acV:=dJ _ _ _ jZ rfl;have ada:=dJ _ _ _ Da rfl;have BW:=ma.frP dJ b5.S.z;have Ql:bH gr.length=ae:=fE (by lia)
 refine lS (tN b5.S.z rY (aC rfl) Ql) ?_;have adj:=fo (o:=.list (gr++[lZ P m])) rY;have PY:=aI (o:=.list (gr++[lZ P m])) rY acV nofun
 have adb:=aI (o:=.list (gr++[lZ P m])) rY ada nofun
 have MA:Fr AP cn (cn.set nP (.x 11,.list (gr++[lZ P m]))):=Fr.set rY rfl;have Fn:=BW.fr MA ⟨rfl,rfl,rfl,λ_=>⟨rfl,rfl,rfl⟩⟩ (b5.S.z.set rY (aC rfl))
 refine au (qt PY) (abt Fn W (uC hn) (by omega) λxw u7 op gu ri f7 r7=>?_)
 have gg:eQ A b7 jr eK {re with nums:=(kv P m).nums,ntl:=d9} (kv P m) (cn.set nP (.x 11,.list (gr++[lZ P m]))):=⟨b5.S.set rY rfl,b5.I,b5.hh,b5.pd,λf aq=>⟨aI rY (b5.nf f aq).1 (aC rfl),aI rY (b5.nf f aq).2 (aC rfl)⟩,b5.img,b5.nums,b5.calls⟩
 have fI:=gg.frL f7;have Db:=f7 _ _ _ adj rfl;have oz:=f7 _ _ _ PY rfl;have C9:=f7 _ _ _ adb rfl;refine lS (tN ri.z oz (aC rfl) Ql) ?_;have MB:Fr AP gu (gu.set pv (.x 12,.list (gr++[lZ P m]))):=Fr.set oz rfl;refine h eK d9 jr xw u7 op _ ⟨fI.S.set oz rfl,fI.I,fI.hh,fI.pd,λf aq=>⟨aI oz (fI.nf f aq).1 (aC rfl),aI oz (fI.nf f aq).2 (aC rfl)⟩,fI.img,fI.nums,fI.calls⟩ (ri.fr MB ⟨rfl,rfl,rfl,λ_=>⟨rfl,rfl,rfl⟩⟩ (ri.z.set oz (aC rfl))) r7 (aI oz C9 nofun) (aI oz Db nofun) (fo oz) λi s l cP d6 e=>?_
 have eW:∀ {s:Nat},¬s=11->¬s=12->AP (.x s)=aA:=λ{s} a b=>Uk a b
 exact MB _ _ _ (f7 _ _ _ (MA _ _ _ (dJ _ _ _ e rfl) (eW cP d6)) rfl) (eW cP d6)
end
def AN(r:bh):Bool:=r4 r||tK r||AP r
theorem Fr.wide{S g6:bh->Bool}{K aX:dB}(h:Fr S K aX)(hs:∀r,g6 r=aA->S r=aA):Fr g6 K aX:=λi r o e c9=>h i r o e (hs r c9)
theorem X0(r:bh)(h:AN r=aA):r4 r=aA:=by unfold AN at h;simp only [Ur] at h;exact h.1.1
theorem X1(r:bh)(h:AN r=aA):fN r=aA:=O7 (by decide) (X0 r h)
section
variable {k:b3}{q:ez}
theorem dK.frS{aX:dB}(aa:dK a2 to ra fp P T K)(h:Fr fN K aX)(hz:gW aX):dK a2 to ra fp P T aX:=aa.fr h ⟨rfl,rfl,rfl,λ_=>⟨rfl,rfl,rfl⟩⟩ hz
theorem RO{l:List L}{fR:bh}(e:K[i]? =J (r,.list l))(e2:K[j]? =J (fR,.list l))(aQ:l.all hK=ae):bW .NotEq (.new i) (.new j) (ao K)=J aA:=by
 show(match(ao K)[i]?,(ao K)[j]?with
  |J (.list a),J (.list b)|J (.scr a),J (.list b)=>if a.length=b.length then(if a.all hK&&b.all hK then J (a==b) else ac) else J aA
  |_,_=>ac).map (!·)=_
 refine G (d8 e) (G (d8 e2) ?_);show(if l.length=l.length then(if l.all hK&&l.all hK then J (l==l) else ac) else J aA).map (!·)=_
 refine G (aY rfl) (G aQ ?_);simp
theorem P6{l:List L}{fR:bh}(e:K[i]? =J (r,.list l))(e2:K[j]? =J (fR,.list l))(aQ:l.all hK=ae):bW .Eq (.new i) (.new j) (ao K)=J ae:=by
 show(match(ao K)[i]?,(ao K)[j]?with
  |J (.list a),J (.list b)|J (.scr a),J (.list b)=>if a.length=b.length then(if a.all hK&&b.all hK then J (a==b) else ac) else J aA
  |_,_=>ac)=_
 refine G (d8 e) (G (d8 e2) ?_);show(if l.length=l.length then(if l.all hK&&l.all hK then J (l==l) else ac) else J aA)=_
 refine G (aY rfl) (G aQ ?_);simp
theorem ah0{a:dI}:bW .NotEq (.bytes a) (.bytes a) H=J aA:=by show J (!(a==a))=_;simp
theorem JM{a b:Int}(h:a=b):bW .NotEq (.int a) (.int b) H=J aA:=by subst h;show J (!(a==a))=_;simp
theorem Sw:∀l:List UInt8,bR (l.map dh)=J l
 | []=>rfl
 |a::l=>by
  refine G h9 ?_;unfold bR;refine G (Sw l) ?_;show(match oK (.int (a.toNat:Int)),_ with |J c,J r=>J (c::r)|_,_=>ac)=_
  (exact G (vz (rM a)) (G UInt8.ofNat_toNat rfl))
def K0:List L:=(nn 22).map dz
theorem anX:lV [L.int 22]=J K0:=by rfl
theorem ZS{a b v:L}:eu p4 Fh (.one v) [(dP,a),(cu,b)] H=J [(dP,a),(cu,b),(bS,v)]:=by kernel_rfl
theorem ZT{a b v aJ:L}:eu p4 Fh (.one v) [(dP,a),(cu,b),(bS,aJ)] H=J [(dP,a),(cu,b),(bS,v)]:=by kernel_rfl
theorem abO{a b c d e f aB h i j l:L}:ow p4 [(dP,a),(eB,b),(eO,c),(cu,d),(ew,e),(iq,f),(gC,aB),(io,h),(ey,i),(eX,j),(fV,l)]=[(dP,a),(cu,d)]:=by kernel_rfl
theorem ahr{mm:Loc}(hJ:ow p4 mm=[(dP,.new A.d),(cu,.new a2.im)])(S:bP A al re K)(am:Inv al re)(ma:dK a2 to ra fp P T K)(bA:∀y,gY y->e0 re y=P.img y)(h:∀aX,ek K aX->k (.bool ae) (ao aX)):
  b1 False (aw (n+2)) ((aW (bf 44)).drop 9) lF mm (ao K) (dM k):=by
 refine Zc hJ (au anX (wV (items:=K0) (P:=λm=>m=[(dP,.new A.d),(cu,.new a2.im)]\/ ∃v,m=[(dP,.new A.d),(cu,.new a2.im),(bS,v)]) (mm:=λv=>[(dP,.new A.d),(cu,.new a2.im),(bS,v)]) (c:=λ_=>aA) (f:=id) (λ_=>rfl)
  (λv m bc=>by rcases bc with rfl|⟨u,rfl⟩;exact ZS;exact ZT) (λv=>.inr ⟨v,rfl⟩) (λv hv q cI=>?_) (λv hv _ q cI=>acO cI) 1000 0 _ [] (.inl rfl) (by decide) (by decide) ?_))
 ·refine bT (hQ.mp hv) λy hy al5=>?_;obtain rfl:=al5
  have hy:=MT.mp hy;have Ps:gY y->aj (bx (.new A.d) (z "read") (ao K)) λHa=>bB False (aw (n+2)) Ha [dz y] (ao K) λKz Ft=>aF (cj (.new a2.im) (.at_ (dz y)) Ft) λLr Fu=>aF (cH (.type "bytes") [Lr] Fu) λKA ug=>aj (bW .NotEq Kz KA ug) λHc=>bo .And Hc (q aA ug) (q ae ug):=λaR=>by
   refine au (c1 S.d rfl rfl) (HE S am hy (a3 (hL ma.im (eE ‹_› (by decide)) (ma.row hy)) (a3 (G6 (ma.ir y aR hy) (w0 (by refine G (ma.len y aR) ?_;decide)) (Sw _)) (au (a:=aA) ?_ (oq rfl cI)))))
   exact G (bA y aR) ah0
  refine ads (au (a:=eo ((2:Int)<=(y:Int))) rfl ?_);by_cases a:2<=y
  ·refine jq (decide_eq_true (sI.mpr ‹_›)) (au (a:=eo ((y:Int)<11)) rfl ?_);by_cases b:y<11
   ·exact oq (G (decide_eq_true (mc.mpr ‹_›)) rfl) cI
   ·exact ph (G (decide_eq_false (by lia)) rfl) (Ps (.inr (wo b)))
  ·exact g7 (decide_eq_false (by lia)) (Ps (.inl (wq a)))
 ·have dg:([]:List L)++((K0.drop 0).filter λ_=>aA).map id=[]:=by rfl
  refine G dg (gz (.x 0) (gz (.x 0) (au (P6 (l:=[]) (cf c2) c2 rfl) ?_)));exact h _ ((ek.app K _).trans (ek.app _ _))
abbrev UA(A:g1)(b7 cO:Nat->Nat)(a2:lE)(to:Nat)(ra fp:Nat->Nat)(re:gj)(P:cR)(T:List Nat)(K:dB)(k:b3):Prop:=∀bJ re' aX,bP A bJ re' aX->Inv bJ re'->bJ.held=ac->bJ.pd=[]->re'.nums=[]->re'.calls=0->re'.commits=re.commits+1->re'.unl=[]->
 (∀f,f=1\/f=2->aX[b7 f]? =J (.nd f,rZ A f (P.fl f) (cO f))/\aX[cO f]? =J (.pl f,lU (P.fl f)))->(∀y,gY y->cnt bJ re' y=P.img y)->dK a2 to ra fp P T aX->Fr AN K aX->k (.bool ae) (ao aX)
theorem aep{Bd gp nP pv:Nat}{gr:List L}{DY:L}(aa:eQ A b7 cO al re P K)(ma:dK a2 to ra fp P T K)(N:hS P)(gI:P.nums.length<=8)(IT:P.nums≠ [])(ce:T.length<=4000)(w8:re.calls=2)(bU:re.unl=[])
  (rX:K[nP]? =J (.x 11,.list gr)) (jZ:K[pv]? =J (.x 12,.list gr)) (j7:gr.all hK=ae) (h:UA A b7 cO a2 to ra fp re P T K k):
  ed (aw (n+8)) ((aW (bf 44)).drop 5) lF (dM k) .next [(dP,.new A.d),(eB,.new A.n),(eO,.new gp),(cu,.new a2.im),(ew,.new a2.fs),(iq,.new Bd),(gC,.new nP),(io,.new pv),(ey,.new to),(eX,.int re.writes),(fV,DY)] (ao K):=by
 refine Xb (au (aN aa.S.n rfl rfl) (au (c1 aa.S.j rfl rfl) (abk aa.S w8 λcn b6 dJ=>?_)))
 have BW:=ma.frS dJ b6.z;refine au (RO (dJ _ _ _ rX rfl) (dJ _ _ _ jZ rfl) j7) (lr rfl (au (aN b6.d rfl rfl) (au (JM rfl) (lr rfl ?_))));have nM:re.nums.length<=8:=G aa.nums gI;refine au (aN b6.n rfl rfl) (au (c1 b6.j rfl rfl) (Pk b6 nM ?_));refine K8 (Q:=λanq UZ=>aF (a5 .Sub (L.int 8) anq UZ) λapU Fp=>aj (bW .NotEq (.int (8 - (re.nums.length:Int))) apU Fp) λaax=>bo .Or aax _ _) BW ce (cQ ‹_› (by decide)) ?_
 have cc:=b6.app [(.x 0,.set ((dd T).map dz))];have Fn:=BW.ex (.app cn [(.x 0,.set ((dd T).map dz))]);refine a3 (sh (a:=8) gI) (au (JM (G aa.nums (Xp gI))) (lr rfl ?_));have Vb:uz re.nums:=⟨nM,G aa.nums N.ok⟩;refine au (aN cc.n rfl rfl) (au (c1 cc.j rfl rfl) (abl (re:= {re with calls:=1}) Vb cc (aa.I.calls 1 re.commits) aa.hh aa.pd bU rfl (G aa.nums IT) λz2 KX gu eb o4 hu jC kn lf qr tf wN rN zP f7=>?_))
 have ri:=Fn.frS f7 eb.z;refine au (aN eb.d rfl rfl) (a3 rfl ?_);refine K8 (Q:=λanj UI=>aF (a5 .Mult (L.int 2) anj UI) λap0 UK=>aF (a5 .Add (.int (re.writes+2)) ap0 UK) λap2 UM=>aj (bW .NotEq (.int KX.writes) ap2 UM) λaay=>bo .Or aay _ _) ri ce (cQ ‹_› (by decide)) ?_
 have gV:=eb.app [(.x 0,.set ((dd T).map dz))];have yY:=ri.ex (.app gu [(.x 0,.set ((dd T).map dz))]);refine a3 (xl (a:=2) (c:=P.nums.length) (by decide) (eI ‹_› (by decide))) (a3 rfl (au (JM ?_) (lr rfl ?_)))
 ·refine G tf ?_;show re.writes+2+2*(re.nums.length:Int)=_
  exact G aa.nums rfl
 have oA:=gV.un;rw [wN] at oA;refine au (aN gV.d rfl rfl) (gz (.x 0) (au (RO (l:=[]) (cf oA) c2 rfl) (lr rfl ?_)));have lb:=gV.app [(.x 0,.list [])];have wg:=yY.ex (.app _ [(.x 0,.list [])]);refine au (c1 lb.d rfl rfl) (HE (m:=2) lb o4 (by decide) (Jj ?_))
 refine G zP ?_;generalize hK5:gu++[(bh.x 0,bt.set ((dd T).map dz))]++[(bh.x 0,bt.list [])]=kX at *
 refine a3 (a:=.bytes (jv.take 4)) (b:=ao kX) ?_ (a3 (CQ ⟨by decide,by decide⟩) (au (a:=aA) (by rfl) (lr rfl ?_)))
 ·show(if bH jv.length then(jY jv ac (J 4)).map (L.bytes ·,ao kX) else ac)=_
  rfl
 have je:Fr fN K kX:=by
  exact cU hK5 ((dJ.trans (Fr.app _ _)).trans (f7.trans ((Fr.app _ _).trans (Fr.app _ _))))
 refine ahr abO lb o4 wg (λy hy=>((rN y hy).2).trans (aa.img y hy)) λFS GO=>?_
 have we:Fr fN K FS:=je.trans GO.fr;refine h z2 KX FS (lb.ex GO) o4 hu jC kn lf qr wN (λf aq=>⟨we _ _ _ (aa.nf f aq).1 rfl,we _ _ _ (aa.nf f aq).2 rfl⟩) (λy hy=>((rN y hy).1).trans (aa.img y hy)) (wg.ex GO) (we.wide X1)
end
theorem O1{a b c d e f aB h i j v:L}{H:an}:eu lF Fg (.one v) [(dP,a),(eB,b),(eO,c),(cu,d),(ew,e),(iq,f),(gC,aB),(io,h),(ey,i),(eX,j)] H=J [(dP,a),(eB,b),(eO,c),(cu,d),(ew,e),(iq,f),(gC,aB),(io,h),(ey,i),(eX,j),(fV,v)]:=by kernel_rfl
theorem ZF{a b c d e f aB h i j v aJ:L}{H:an}:eu lF Fg (.one v) [(dP,a),(eB,b),(eO,c),(cu,d),(ew,e),(iq,f),(gC,aB),(io,h),(ey,i),(eX,j),(fV,aJ)] H=J [(dP,a),(eB,b),(eO,c),(cu,d),(ew,e),(iq,f),(gC,aB),(io,h),(ey,i),(eX,j),(fV,v)]:=by kernel_rfl
structure pZ(A:g1)(b7:Nat->Nat)(a2:lE)(gp:Nat)(cO:Nat->Nat)(to:Nat)(ra fp:Nat->Nat)(al:hq)(re:gj)(P:cR)(T:List Nat)(K:dB):Prop where
 S:bP A al re K
 I:Inv al re
 hh:al.held=ac
 pd:al.pd=[]
 nums:re.nums=[]
 calls:re.calls=0
 unl:re.unl=[]
 nf:∀f,f=1\/f=2->K[b7 f]? =J (.nd f,rZ A f (P.fl f) (cO f))/\K[cO f]? =J (.pl f,lU (P.fl f))
 img:∀y,gY y->cnt al re y=P.img y
 W:et P
 GL:dK a2 to ra fp P T K
 er_:K[gp]? =J (.x 10,.list [.new (b7 1),.new (b7 2)])
theorem pZ.ex{A:g1}{b7:Nat->Nat}{a2:lE}{gp:Nat}{cO:Nat->Nat}{to:Nat}{ra fp:Nat->Nat}{al:hq}{re:gj}{P:cR}{T:List Nat}{K aX:dB}(B:pZ A b7 a2 gp cO to ra fp al re P T K)(h:ek K aX):pZ A b7 a2 gp cO to ra fp al re P T aX:=
 ⟨B.S.ex h,B.I,B.hh,B.pd,B.nums,B.calls,B.unl,λf aq=>⟨h _ _ _ (B.nf f aq).1,h _ _ _ (B.nf f aq).2⟩,B.img,B.W,B.GL.ex h,h _ _ _ B.er_⟩
section
variable {k:b3}{gp:Nat}{q:ez}
theorem dK.newTo{u:Nat}(aa:dK a2 to ra fp P T K)(e:K[u]? =J (.to,.list [])):dK a2 u ra fp {P with nums:=[]} [] K:=⟨aa.z,aa.im,aa.ir,aa.fs,aa.fd,e,rfl,aa.len⟩
theorem TM(P:cR)(m:Nat):hK (lZ P m)=ae:=by unfold lZ;split<;>rfl
abbrev Us(A:g1)(b7:Nat->Nat)(a2:lE)(gp:Nat)(re:gj)(K:dB)(k:b3):Prop:=∀m3 tW oQ oC bJ re' P' ml (aX:dB),pZ A b7 a2 gp m3 tW oQ oC bJ re' P' ml aX->re'.commits=re.commits+1->(∀(i s:Nat) (l:List L),¬s=11->¬s=12->K[i]? =J (.x s,.list l)->aX[i]? =J (.x s,.list l))->k (.bool ae) (ao aX)
theorem abw{Bd:Nat}{ms:List Nat}(B:pZ A b7 a2 gp cO to ra fp al re P T K)(ii:K[Bd]? =J (.x 13,.list (ms.map dz)))(bc:(∃a,ms=[a])\/ ∃a b,ms=[a,b])(h:Us A b7 a2 gp re K k):aw (n+12) 922 [.new A.d,.new A.n,.new gp,.new a2.im,.new a2.fs,.new Bd] (ao K) k:=by
 have qq:=(((ek.app K [(bh.x 11,bt.list [])]).trans (ek.app _ [(bh.x 12,bt.list [])])).trans (ek.app _ [(bh.to,bt.list [])])).trans (ek.app _ [(bh.x 0,bt.tup [.new K.length,.new (K++[(bh.x 11,bt.list [])]).length,.new (K++[(bh.x 11,bt.list [])]++[(bh.x 12,bt.list [])]).length,.int re.writes])]);have wJ:=B.S.ex (((ek.app K [(bh.x 11,bt.list [])]).trans (ek.app _ [(bh.x 12,bt.list [])])).trans (ek.app _ [(bh.to,bt.list [])]));refine Zb (gz (.x 11) (gz (.x 12) (gz .to (au (aN wJ.d rfl rfl) (gz (.x 0) (nQ c2 rfl (hc (hc (hc (hc ?_))))))))));have adi:(K++[(bh.x 11,bt.list [])]++[(bh.x 12,bt.list [])]++[(bh.to,bt.list [])]++[(bh.x 0,bt.tup [.new K.length,.new (K++[(bh.x 11,bt.list [])]).length,.new (K++[(bh.x 11,bt.list [])]++[(bh.x 12,bt.list [])]).length,.int re.writes])])[K.length]? =J (.x 11,.list []):=cf (cf (cf c2));have acU:(K++[(bh.x 11,bt.list [])]++[(bh.x 12,bt.list [])]++[(bh.to,bt.list [])]++[(bh.x 0,bt.tup [.new K.length,.new (K++[(bh.x 11,bt.list [])]).length,.new (K++[(bh.x 11,bt.list [])]++[(bh.x 12,bt.list [])]).length,.int re.writes])])[(K++[(bh.x 11,bt.list [])]).length]? =J (.x 12,.list []):=cf (cf c2);have ac6:(K++[(bh.x 11,bt.list [])]++[(bh.x 12,bt.list [])]++[(bh.to,bt.list [])]++[(bh.x 0,bt.tup [.new K.length,.new (K++[(bh.x 11,bt.list [])]).length,.new (K++[(bh.x 11,bt.list [])]++[(bh.x 12,bt.list [])]).length,.int re.writes])])[(K++[(bh.x 11,bt.list [])]++[(bh.x 12,bt.list [])]).length]? =J (.to,.list []):=cf c2;generalize K.length=nP at *
 generalize(K++[(bh.x 11,bt.list [])]).length=pv at *
 generalize(K++[(bh.x 11,bt.list [])]++[(bh.x 12,bt.list [])]).length=tW at *
 generalize K++[(bh.x 11,bt.list [])]++[(bh.x 12,bt.list [])]++[(bh.to,bt.list [])]++[(bh.x 0,bt.tup [.new nP,.new pv,.new tW,.int re.writes])]=cn at *
 have jd:=B.ex qq;have b6:=jd.S;have QI:re.nums.length<=8:=by refine G B.nums ?_;decide
 refine au (aN b6.n rfl rfl) (au (c1 b6.j rfl rfl) (Pl b6 QI (G B.calls rfl) (by refine G B.nums (G B.calls ?_);decide) λdZ cc fH=>?_))
 refine au (aN cc.n rfl rfl) (au (c1 cc.j rfl rfl) (Pl (re:= {re with calls:=re.calls+1}) cc QI (by show cG (re.calls+1+1)=ae;exact G B.calls rfl) (by show(re.nums.length:Int)+(re.calls+1+1)*4<=8;refine G B.nums (G B.calls ?_);decide) λgu eb f7=>?_))
 have rf:Fr fN cn gu:=fH.trans f7;have w8:re.calls+1+1=2:=G B.calls rfl;refine au (aN eb.n rfl rfl) (abv eb B.nums w8 (au rfl (g7 rfl ?_)));have fI:eQ A b7 cO al {re with calls:=re.calls+1+1} {P with nums:=[]} gu:=⟨eb,B.I.calls _ _,B.hh,B.pd.trans B.nums.symm,λf aq=>⟨rf _ _ _ (jd.nf f aq).1 rfl,rf _ _ _ (jd.nf f aq).2 rfl⟩,B.img,B.nums,by show¬re.calls+1+1=0;lia⟩
 have ri:dK a2 tW ra fp {P with nums:=[]} [] gu:=(jd.GL.frS rf eb.z).newTo (rf _ _ _ ac6 rfl)
 have CK:et {P with nums:=[]}:=B.W.img rfl rfl
 have MV:hS {P with nums:=[]}:=⟨(λ_ h=>absurd h jl)⟩
 have Aj:=rf _ _ _ (qq _ _ _ ii) rfl;have C9:=rf _ _ _ jd.er_ rfl;have Db:=rf _ _ _ adi rfl;have oz:=rf _ _ _ acU rfl;have eW:∀ {s:Nat},¬s=11->¬s=12->AN (.x s)=aA:=λ{s} a b=>Uk a b
 have cp:∀ {bJ d9 jr h0 hY e7} {fj:cR} {jR:dB} {gr:List L} {DY:L},eQ A b7 jr bJ {re with calls:=re.calls+1+1,nums:=fj.nums,ntl:=d9} fj jR->dK a2 tW h0 hY fj e7 jR->et fj->hS fj->fj.nums.length<=8->fj.nums≠ []->e7.length<=4000->jR[gp]? =J (.x 10,.list [.new (b7 1),.new (b7 2)])->jR[nP]? =J (.x 11,.list gr)->jR[pv]? =J (.x 12,.list gr)->gr.all hK=ae->
   (∀(i s:Nat) (l:List L),¬s=11->¬s=12->gu[i]? =J (.x s,.list l)->jR[i]? =J (.x s,.list l))->
   ed (aw (n+11)) ((aW (bf 44)).drop 5) lF (dM k) .next [(dP,.new A.d),(eB,.new A.n),(eO,.new gp),(cu,.new a2.im),(ew,.new a2.fs),(iq,.new Bd),(gC,.new nP),(io,.new pv),(ey,.new tW),(eX,.int re.writes),(fV,DY)] (ao jR):=by
  intro bJ d9 jr h0 hY e7 fj jR gr DY aa ma W N gI IT ce e1 e2 aP j7 fr;exact aep (n:=n+3) (re:= {re with calls:=re.calls+1+1,nums:=fj.nums,ntl:=d9}) aa ma N gI IT ce w8 B.unl e2 aP j7 λCV anM kX lb jy hu jC kn lf qr wN rN zP wg je=>h jr tW h0 hY CV anM fj e7 kX ⟨lb,jy,hu,jC,kn,lf,wN,rN,zP,W,wg,je _ _ _ e1 (eW (by decide) (by decide))⟩ qr λi s l cP d6 e=>je _ _ _ (fr i s l cP d6 (rf _ _ _ (qq _ _ _ e) rfl)) (eW cP d6)
 refine pG Aj ?_;rcases bc with⟨a,rfl⟩|⟨a,b,rfl⟩
 ·have dx:=Kh (m:=a) CK MV;refine iQ (nF Aj rfl) O1 (LW (G3 (n:=n) (m:=a) (Q:=λH=>_) fI ri CK (hf _) (hf _) C9 Db oz (hf _) λpq d9 aic S3 Qh td jR jf yY DP jD Lh Lp Ap=>?_))
  refine mr (qL (Ap _ _ _ (by decide) (by decide) Aj) (cW 1)) ?_
  exact cp jf yY dx.1 dx.2.1 (by have :=dx.2.2.2.2.2 rfl;exact cQ ‹_› (by decide)) (λz=>by have :=dx.2.2.1;rw [z] at this;rcases this) (by have :([]:List Nat).length=0:=rfl;lia) jD Lh Lp (by refine G (zs ..) ?_;simp [TM]) Ap
 ·have dx:=Kh (m:=a) CK MV;have el:=Kh (m:=b) dx.1 dx.2.1;have n1:=dx.2.2.2.2.2 rfl;refine iQ (nF Aj rfl) O1 (LW (G3 (n:=n) (m:=a) (Q:=λH=>_) fI ri CK (hf _) (hf _) C9 Db oz (hf _) λpq d9 aic S3 Qh td jR jf yY DP jD Lh Lp Ap=>?_))
  have P3:=Ap _ _ _ (by decide) (by decide) Aj
  have q5:([]:List Nat).length=0:=rfl;refine iQ (nF P3 rfl) ZF (LW (G3 (n:=n) (m:=b) (Q:=λH=>_) (re:= {re with calls:=re.calls+1+1,nums:=(kv {P with nums:=[]} a).nums,ntl:=d9}) jf yY dx.1 n1 (by lia) jD Lh Lp (by show 1<=10;decide) λCV asU asS se r0 pg kX h6 wg pC iO ao3 EB Qj=>?_))
  refine mr (qL (Qj _ _ _ (by decide) (by decide) P3) (cW 2)) ?_
  exact cp h6 wg el.1 el.2.1 (el.2.2.2.2.1 n1) (λz=>by have :=el.2.2.1;rw [z] at this;rcases this) (by lia) iO ao3 EB (by simp [TM]) λi s l cP d6 e=>Qj i s l cP d6 (Ap i s l cP d6 e)
end
variable {gp:Nat}
end Mine.Internal.P
end
noncomputable section
set_option tactic.hygienic true
open PySem PySem.W PyProof.Rows PySem.Calls
namespace Mine.Internal.P
noncomputable def c5{ay:Type}(k:Nat)(p l:List ay):List ay:=k.rec l λ_ y=>p++y
noncomputable def c6(l:List Int):List L:=l.map .int
def f2:ds:=(dO (bf 45)).names
def uc:aU:=(j8 (fD (bw (aW (bf 45)) 0) 0) 2)
def Mx:aU:=vO uc
def ud:ds:=gF (dO (bf 45)).names (vG uc).names
def yS:aU:=nO (bw (aW (bf 45)) 7)
theorem SE{n:Nat}{m9:L}{H:an}{ct:List cD}{K:ez}(h:let C:=aw n;eq H (.list []) λgK cM=>aj (bW .Eq m9 gK cM) λeT=>dU eT (eq cM (.list [(L.int 0),(L.int 1)]) λnT eP=>b1 False C ct f2 [(gL,m9),(ip,nT)] eP K) (jJ (eA L.none) (eA (L.int 10)) λapF Lq=>aF (cj m9 (.sl apF Lq) cM) λi9 dN=>lp i9 dN λafx=>jX False ud Mx (λm H q=>jb False C (m0 uc) ud m H q) (λm H q=>bO False C (j8 uc 0) ud m H q) (.lst afx) f6 0 [] dN [] λvt o0=>eq o0 (.list vt) λil jg=>b1 False C ct f2 [(gL,m9),(ip,il)] jg K)):b1 False (aw n) (bw (aW (bf 45)) 0::ct) f2 [(gL,m9)] H K:=bZ (by kernel_rfl) h
theorem Zd{n:Nat}{m9 pH tR b0 ev bC e3 fG ep:L}{H:an}{k:b3}(h:let C:=aw n;aF (cH (.builtin "len") [pH] H) λSR kg=>aj (lV [(L.int 0),SR,(L.int 2)]) λRc=>gR False f2 yS (λm H q=>b1 False C (eh (bw (aW (bf 45)) 7)) f2 m H q) (.items Rc) f6 0 [(gL,m9),(ip,pH),(l5,tR),(cu,b0),(dP,ev),(bS,bC),(eB,e3),(eO,fG),(ew,ep)] kg (ed C ((aW (bf 45)).drop 8) f2 (dM k))):b1 False (aw n) ((aW (bf 45)).drop 7) f2 [(gL,m9),(ip,pH),(l5,tR),(cu,b0),(dP,ev),(bS,bC),(eB,e3),(eO,fG),(ew,ep)] H (dM k):=bZ (by kernel_rfl) h
theorem aqK{n:Nat}{m9 pH tR b0 ev bC e3 fG ep aN:L}{H:an}{q:ez}(h:let C:=aw n;aF (a5 .Add aN (L.int 2) H) λpQ g3=>jJ (eA aN) (eA pQ) λxS apw=>aF (cj pH (.sl xS apw) g3) λiX hP=>C 922 [ev,e3,fG,b0,ep,iX] hP λsb mN=>aj (ky sb) λHn=>dU (!Hn) (q (.ret (L.bool aA)) [(gL,m9),(ip,pH),(l5,tR),(cu,b0),(dP,ev),(bS,bC),(eB,e3),(eO,fG),(ew,ep),(e4,aN)] mN) (q .next [(gL,m9),(ip,pH),(l5,tR),(cu,b0),(dP,ev),(bS,bC),(eB,e3),(eO,fG),(ew,ep),(e4,aN)] mN)):b1 False (aw n) (eh (bw (aW (bf 45)) 7)) f2 [(gL,m9),(ip,pH),(l5,tR),(cu,b0),(dP,ev),(bS,bC),(eB,e3),(eO,fG),(ew,ep),(e4,aN)] H q:=bZ (by kernel_rfl) h
theorem Xc{n:Nat}{m9 pH tR b0 ev bC e3 fG ep aN:L}{H:an}{k:b3}(h:let C:=aw n;aF (cj fG (.at_ (L.int 0)) H) λvR jh=>aj (aV vR dH jh) λMg=>aF (cj fG (.at_ (L.int 1)) jh) λnR i0=>aj (aV nR dH i0) λv4=>aj (aV e3 hl i0) λBJ=>aj (aV BJ sD i0) λE0=>eq i0 (.list [Mg,v4,E0]) λmy iw=>aF (cj ep (.at_ (L.int 0)) iw) λnS i1=>aF (cj nS (.at_ (L.str dH)) i1) λq2 y0=>aF (cj ep (.at_ (L.int 1)) y0) λl2 rl=>aF (cj l2 (.at_ (L.str dH)) rl) λmz ro=>aF (cH (.builtin "len") [pH] ro) λSW FK=>aF (a5 .Add SW (L.int 1) FK) λaqg U0=>aF (a5 .FloorDiv aqg (L.int 2) U0) λBu sG=>eq sG (.list [q2,mz,Bu]) λmA wh=>aj (bW .Eq my mA wh) λuV=>k (L.bool uV) wh):(let C:=aw n;ed C ((aW (bf 45)).drop 8) f2 (dM k) .next [(gL,m9),(ip,pH),(l5,tR),(cu,b0),(dP,ev),(bS,bC),(eB,e3),(eO,fG),(ew,ep),(e4,aN)] H):=bZ (by kernel_rfl) h
theorem acP{n:Nat}{fg:L}{H:an}{q:b3}(h:let C:=aw n;aF (cH (.builtin "abs") [fg] H) λSY uk=>aF (a5 .Pow (L.int 10) (L.int 12) uk) λaqj wi=>aF (a5 .Mod SY aqj wi) λaqk um=>q aqk um):bO False (aw n) (j8 uc 0) ud [(fV,fg)] H q:=bZ (by kernel_rfl) h
theorem adt{n:Nat}{fg:L}{H:an}{q:Bool->an->Prop}(h:let C:=aw n;q ae H):jb False (aw n) (m0 uc) ud [(fV,fg)] H q:=bZ (by kernel_rfl) h
def B1(l:List L)(dx:bt)(ms:List L):an:=(.scr l::dx::.list ms::.inst 192 [(iY,(.int 48)),(mG,(.int 22)),(z "inodes",(.int 4)),(z "log",(.int 9)),(lA,(.int 2)),(jc,(.int 24)),(eO,(.int 2)),(z "indirect",(.int 12)),(z "log_start",(.int 2)),(BM,(.int 11)),(BL,(.int 13)),(v7,(.int 14))]::(c5 22 [.list [(.int 0)],.list (f9 48 (.int 0))] (.list [(.new 5),(.new 51),(.new 9),(.new 11),(.new 13),(.new 15),(.new 17),(.new 19),(.new 21),(.new 23),(.new 25),(.new 71),(.new 86),(.new 55),(.new 33),(.new 35),(.new 37),(.new 39),(.new 41),(.new 43),(.new 45),(.new 47)]::.ba (64::48::32::16::22::0::0::0::8::0::0::0::4::0::0::0::9::0::0::0::2::0::0::0::11::0::0::0::13::0::0::0::2::(c5 15 [0] []))::.list (c6 [270544960,22,8,4,9,2,11,13,2])::.list (c6 (64::48::32::16::22::0::0::0::8::0::0::0::4::0::0::0::9::0::0::0::2::0::0::0::11::0::0::0::13::0::0::0::2::(c5 15 [0] [])))::.list (c6 [255,63])::.list [(.int 0)]::.list (f9 46 (.int 0))::.list (c6 (255::63::(c5 46 [0] [])))::.list (c6 [1,2])::.list (c6 [0,0,0])::.list (c6 [2,0,0,0,0,0,1,0])::.list (c6 [0,0,0,0])::.list (c6 [2,0,0,0,0,0,1,0,0,0,0,0])::.list (c6 [0,0,0,0])::.list (c6 (2::0::0::0::0::0::1::(c5 9 [0] [])))::.list (c6 [0,0,0,0])::.list (c6 (2::0::0::0::0::0::1::(c5 13 [0] [])))::.list (c6 [0,0,0,0])::.list (c6 (2::0::0::0::0::0::1::(c5 17 [0] [])))::.tup (c6 [11,24])::.list (f9 24 (.int 0))::.list (c6 (c5 24 [0] (2::0::0::0::0::0::1::(c5 17 [0] []))))::.list []::.list (c6 (c5 24 [0] (2::0::0::0::0::0::1::(c5 17 [0] []))))::.list (c6 [0,0,0])::.list (c6 [2,0,0,0,0,0,1,0])::.list (c6 [0,0,0,0])::.list (c6 [2,0,0,0,0,0,1,0,0,0,0,0])::.list (c6 [0,0,0,0])::.list (c6 (2::0::0::0::0::0::1::(c5 9 [0] [])))::.list (c6 [0,0,0,0])::.list (c6 (2::0::0::0::0::0::1::(c5 13 [0] [])))::.list (c6 [0,0,0,0])::.list (c6 (2::0::0::0::0::0::1::(c5 17 [0] [])))::.tup (c6 [12,0])::.list []::.list (c6 (2::0::0::0::0::0::1::(c5 17 [0] [])))::.list (f9 24 (.int 0))::.list (c6 (2::0::0::0::0::0::1::(c5 41 [0] [])))::.inst 754 [(mG,(.int 22)),(dH,(.int 48)),(z "kept",(.new 88)),(z "latest",(.new 89)),(pX,(.new 97)),(eX,(.int 4)),(pW,(.int 1)),(z "last",.none),(yP,.none),(z "is_dead",(.bool aA))]::(c5 2 [.dict [((.int 1),(.bytes (64::48::32::16::22::0::0::0::8::0::0::0::4::0::0::0::9::0::0::0::2::0::0::0::11::0::0::0::13::0::0::0::2::(c5 15 [0] [])))),((.int 11),(.bytes (c5 24 [0] (2::0::0::0::0::0::1::(c5 17 [0] []))))),((.int 12),(.bytes (2::0::0::0::0::0::1::(c5 41 [0] [])))),((.int 13),(.bytes (255::63::(c5 46 [0] []))))]] [.list [(.new 93),(.new 94),(.new 95),(.new 96)],.tup [(.new 48),(.new 87)],.list (c6 [1,11,12,13]),.tup [(.int 1),(.bytes (64::48::32::16::22::0::0::0::8::0::0::0::4::0::0::0::9::0::0::0::2::0::0::0::11::0::0::0::13::0::0::0::2::(c5 15 [0] [])))],.tup [(.int 11),(.bytes (c5 24 [0] (2::0::0::0::0::0::1::(c5 17 [0] []))))],.tup [(.int 12),(.bytes (2::0::0::0::0::0::1::(c5 41 [0] [])))],.tup [(.int 13),(.bytes (255::63::(c5 46 [0] [])))],.list [],.inst 658 [(dP,(.new 87)),(nY,(.int 14)),(dH,(.int 48)),(jc,(.new 99)),(sC,(.new 100)),(z "hits",(.int 0)),(z "reads",(.int 2)),(eX,(.int 0))],.list [(.new 109),(.new 115)],.dict [((.int 11),(.new 109)),((.int 12),(.new 115))],.inst 865 [(fU,(.new 98)),(q7,(.int 2)),(dH,(.int 9)),(eC,(.int 8)),(nY,(.int 8)),(z "each",(.int 4)),(e5,(.new 102)),(t0,(.new 103)),(mH,(.int 0)),(sD,(.int 0))],.list [],.dict [],.inst 441 [(hl,(.new 101)),(fU,(.new 98)),(hO,(.new 3)),(z "table",(.new 105))],.dict [((.int 1),(.new 107)),((.int 2),(.new 113))],.tup (c6 [11,24]),.inst 281 [(eB,(.new 104)),(bS,(.int 1)),(iZ,(.int 1)),(z "kind",(.int 2)),(z "major",(.int 0)),(z "minor",(.int 0)),(z "links",(.int 1)),(dH,(.int 0)),(eC,(.new 111))],.list [],.inst 539 [(bS,(.int 11)),(gf,(.new 110)),(iZ,(.int 0)),(nc,(.int 0))],.ba (c5 24 [0] (2::0::0::0::0::0::1::(c5 17 [0] []))),.list (c6 [0,0,0]),.tup (c6 [12,0]),.inst 281 [(eB,(.new 104)),(bS,(.int 2)),(iZ,(.int 1)),(z "kind",(.int 2)),(z "major",(.int 0)),(z "minor",(.int 0)),(z "links",(.int 1)),(dH,(.int 0)),(eC,(.new 117))],.list [],.inst 539 [(bS,(.int 12)),(gf,(.new 116)),(iZ,(.int 0)),(nc,(.int 0))],.ba (2::0::0::0::0::0::1::(c5 41 [0] [])),.list (c6 [0,0,0]),.list [(.new 107),(.new 113)],.list (c6 [0,0,0]),.dict [((.str eC),(.new 119)),((.str dH),(.int 0))],.list (c6 [0,0,0]),.dict [((.str eC),(.new 121)),((.str dH),(.int 0))],.list [(.new 120),(.new 122)],.tup [(.new 118),(.new 123)]]))))
theorem aok{n:Nat}{l:List L}{dx:bt}{ms:List L}{ct:List cD}{K:ez}:b1 False (aw (n+12)) (bw (aW (bf 45)) 1::bw (aW (bf 45)) 2::bw (aW (bf 45)) 3::bw (aW (bf 45)) 4::bw (aW (bf 45)) 5::bw (aW (bf 45)) 6::ct) (dO (bf 45)).names [(gL,.new 0),(ip,.new 2)] [.scr l,dx,.list ms] K=b1 False (aw (n+12)) ct (dO (bf 45)).names [(gL,(.new 0)),(ip,(.new 2)),(l5,(.new 3)),(cu,(.new 48)),(dP,(.new 87)),(bS,(.int 13)),(eB,(.new 104)),(eO,(.new 118)),(ew,(.new 123))] (B1 l dx ms) K:=by kernel_rfl
def B2(l:List L)(dx el:bt)(ms:List L):an:=(.scr l::dx::el::.list ms::.inst 192 [(iY,(.int 48)),(mG,(.int 22)),(z "inodes",(.int 4)),(z "log",(.int 9)),(lA,(.int 2)),(jc,(.int 24)),(eO,(.int 2)),(z "indirect",(.int 12)),(z "log_start",(.int 2)),(BM,(.int 11)),(BL,(.int 13)),(v7,(.int 14))]::(c5 22 [.list [(.int 0)],.list (f9 48 (.int 0))] (.list [(.new 6),(.new 52),(.new 10),(.new 12),(.new 14),(.new 16),(.new 18),(.new 20),(.new 22),(.new 24),(.new 26),(.new 72),(.new 87),(.new 56),(.new 34),(.new 36),(.new 38),(.new 40),(.new 42),(.new 44),(.new 46),(.new 48)]::.ba (64::48::32::16::22::0::0::0::8::0::0::0::4::0::0::0::9::0::0::0::2::0::0::0::11::0::0::0::13::0::0::0::2::(c5 15 [0] []))::.list (c6 [270544960,22,8,4,9,2,11,13,2])::.list (c6 (64::48::32::16::22::0::0::0::8::0::0::0::4::0::0::0::9::0::0::0::2::0::0::0::11::0::0::0::13::0::0::0::2::(c5 15 [0] [])))::.list (c6 [255,63])::.list [(.int 0)]::.list (f9 46 (.int 0))::.list (c6 (255::63::(c5 46 [0] [])))::.list (c6 [1,2])::.list (c6 [0,0,0])::.list (c6 [2,0,0,0,0,0,1,0])::.list (c6 [0,0,0,0])::.list (c6 [2,0,0,0,0,0,1,0,0,0,0,0])::.list (c6 [0,0,0,0])::.list (c6 (2::0::0::0::0::0::1::(c5 9 [0] [])))::.list (c6 [0,0,0,0])::.list (c6 (2::0::0::0::0::0::1::(c5 13 [0] [])))::.list (c6 [0,0,0,0])::.list (c6 (2::0::0::0::0::0::1::(c5 17 [0] [])))::.tup (c6 [11,24])::.list (f9 24 (.int 0))::.list (c6 (c5 24 [0] (2::0::0::0::0::0::1::(c5 17 [0] []))))::.list []::.list (c6 (c5 24 [0] (2::0::0::0::0::0::1::(c5 17 [0] []))))::.list (c6 [0,0,0])::.list (c6 [2,0,0,0,0,0,1,0])::.list (c6 [0,0,0,0])::.list (c6 [2,0,0,0,0,0,1,0,0,0,0,0])::.list (c6 [0,0,0,0])::.list (c6 (2::0::0::0::0::0::1::(c5 9 [0] [])))::.list (c6 [0,0,0,0])::.list (c6 (2::0::0::0::0::0::1::(c5 13 [0] [])))::.list (c6 [0,0,0,0])::.list (c6 (2::0::0::0::0::0::1::(c5 17 [0] [])))::.tup (c6 [12,0])::.list []::.list (c6 (2::0::0::0::0::0::1::(c5 17 [0] [])))::.list (f9 24 (.int 0))::.list (c6 (2::0::0::0::0::0::1::(c5 41 [0] [])))::.inst 754 [(mG,(.int 22)),(dH,(.int 48)),(z "kept",(.new 89)),(z "latest",(.new 90)),(pX,(.new 98)),(eX,(.int 4)),(pW,(.int 1)),(z "last",.none),(yP,.none),(z "is_dead",(.bool aA))]::(c5 2 [.dict [((.int 1),(.bytes (64::48::32::16::22::0::0::0::8::0::0::0::4::0::0::0::9::0::0::0::2::0::0::0::11::0::0::0::13::0::0::0::2::(c5 15 [0] [])))),((.int 11),(.bytes (c5 24 [0] (2::0::0::0::0::0::1::(c5 17 [0] []))))),((.int 12),(.bytes (2::0::0::0::0::0::1::(c5 41 [0] [])))),((.int 13),(.bytes (255::63::(c5 46 [0] []))))]] [.list [(.new 94),(.new 95),(.new 96),(.new 97)],.tup [(.new 49),(.new 88)],.list (c6 [1,11,12,13]),.tup [(.int 1),(.bytes (64::48::32::16::22::0::0::0::8::0::0::0::4::0::0::0::9::0::0::0::2::0::0::0::11::0::0::0::13::0::0::0::2::(c5 15 [0] [])))],.tup [(.int 11),(.bytes (c5 24 [0] (2::0::0::0::0::0::1::(c5 17 [0] []))))],.tup [(.int 12),(.bytes (2::0::0::0::0::0::1::(c5 41 [0] [])))],.tup [(.int 13),(.bytes (255::63::(c5 46 [0] [])))],.list [],.inst 658 [(dP,(.new 88)),(nY,(.int 14)),(dH,(.int 48)),(jc,(.new 100)),(sC,(.new 101)),(z "hits",(.int 0)),(z "reads",(.int 2)),(eX,(.int 0))],.list [(.new 110),(.new 116)],.dict [((.int 11),(.new 110)),((.int 12),(.new 116))],.inst 865 [(fU,(.new 99)),(q7,(.int 2)),(dH,(.int 9)),(eC,(.int 8)),(nY,(.int 8)),(z "each",(.int 4)),(e5,(.new 103)),(t0,(.new 104)),(mH,(.int 0)),(sD,(.int 0))],.list [],.dict [],.inst 441 [(hl,(.new 102)),(fU,(.new 99)),(hO,(.new 4)),(z "table",(.new 106))],.dict [((.int 1),(.new 108)),((.int 2),(.new 114))],.tup (c6 [11,24]),.inst 281 [(eB,(.new 105)),(bS,(.int 1)),(iZ,(.int 1)),(z "kind",(.int 2)),(z "major",(.int 0)),(z "minor",(.int 0)),(z "links",(.int 1)),(dH,(.int 0)),(eC,(.new 112))],.list [],.inst 539 [(bS,(.int 11)),(gf,(.new 111)),(iZ,(.int 0)),(nc,(.int 0))],.ba (c5 24 [0] (2::0::0::0::0::0::1::(c5 17 [0] []))),.list (c6 [0,0,0]),.tup (c6 [12,0]),.inst 281 [(eB,(.new 105)),(bS,(.int 2)),(iZ,(.int 1)),(z "kind",(.int 2)),(z "major",(.int 0)),(z "minor",(.int 0)),(z "links",(.int 1)),(dH,(.int 0)),(eC,(.new 118))],.list [],.inst 539 [(bS,(.int 12)),(gf,(.new 117)),(iZ,(.int 0)),(nc,(.int 0))],.ba (2::0::0::0::0::0::1::(c5 41 [0] [])),.list (c6 [0,0,0]),.list [(.new 108),(.new 114)],.list (c6 [0,0,0]),.dict [((.str eC),(.new 120)),((.str dH),(.int 0))],.list (c6 [0,0,0]),.dict [((.str eC),(.new 122)),((.str dH),(.int 0))],.list [(.new 121),(.new 123)],.tup [(.new 119),(.new 124)]]))))
theorem aom{n:Nat}{l:List L}{dx el:bt}{ms:List L}{ct:List cD}{K:ez}:b1 False (aw (n+12)) (bw (aW (bf 45)) 1::bw (aW (bf 45)) 2::bw (aW (bf 45)) 3::bw (aW (bf 45)) 4::bw (aW (bf 45)) 5::bw (aW (bf 45)) 6::ct) (dO (bf 45)).names [(gL,.new 0),(ip,.new 3)] [.scr l,dx,el,.list ms] K=b1 False (aw (n+12)) ct (dO (bf 45)).names [(gL,(.new 0)),(ip,(.new 3)),(l5,(.new 4)),(cu,(.new 49)),(dP,(.new 88)),(bS,(.int 13)),(eB,(.new 105)),(eO,(.new 119)),(ew,(.new 124))] (B2 l dx el ms) K:=by kernel_rfl
theorem H8:∀ {rs:List bh} {H:an},rs.length=H.length->ao (rs.zip H)=H
 | [],[],_=>rfl
 | [],_::_,h=>nomatch h
 |_::_,[],h=>nomatch h
 |_::rs,o::H,h=>congrArg (o:: ·) (H8 (rs:=rs) (H:=H) (M2 h))
theorem PR:∀ {l:List (L×L)} {k v:L},dV l k=J v->(k,v)∈l
 | [],_,_,h=>br h
 |(y,u)::l,k,v,h=>by
  rw [oy] at h;by_cases q:y=k
  ·rw [aY q] at h;cases h;rw [q];exact fK
  ·rw [a8 q] at h;exact f8 _ (PR h)
noncomputable def bY:jx:=⟨0,0,0⟩
def AU:List (L×L):=[((.int 1),(.bytes (64::48::32::16::22::0::0::0::8::0::0::0::4::0::0::0::9::0::0::0::2::0::0::0::11::0::0::0::13::0::0::0::2::(c5 15 [0] [])))),((.int 11),(.bytes (c5 24 [0] (2::0::0::0::0::0::1::(c5 17 [0] []))))),((.int 12),(.bytes (2::0::0::0::0::0::1::(c5 41 [0] [])))),((.int 13),(.bytes (255::63::(c5 46 [0] []))))]
def wX:List UInt8:=(c5 24 [0] (2::0::0::0::0::0::1::(c5 17 [0] [])))
def wY:List UInt8:=(2::0::0::0::0::0::1::(c5 41 [0] []))
noncomputable def Jb(y:Nat):List UInt8:=if y=11 then wX else if y=12 then wY else match dV AU (.int y) with
 |J (.bytes x)=>x
 |_=>jv
def uD:cR:= {img:=Jb,fl:=λ_=>bY,nums:=dd [1,11,12,13]}
def qs(d:Nat):hq:= {hits:=0,reads:=2,cw:=0,bs:=[⟨109+d,110+d,11,wX,0,0⟩,⟨115+d,116+d,12,wY,0,0⟩],bnl:=[(.int 11,.new (109+d)),(.int 12,.new (115+d))],held:=ac,pd:=[]}
def xx(d:Nat):gj:= {lal:=AU,kel:=AU,un:=97+d,unl:=[],writes:=4,flushes:=1,ns:=102+d,nums:=[],nt:=103+d,ntl:=[],calls:=0,commits:=0}
theorem Rk:jj AU:=⟨by decide+kernel,by decide+kernel⟩
theorem DB(d:Nat):Inv (qs d) (xx d):=by
 have two:∀ {Q:e6->Prop},Q ⟨109+d,110+d,11,wX,0,0⟩->Q ⟨115+d,116+d,12,wY,0,0⟩->∀b∈(qs d).bs,Q b:=λa b x aO=>by
  rcases fw.mp aO with rfl|aO
  ·exact a
  ·rw [jk.mp aO];exact b
 refine⟨by show [11,12].Nodup;decide,two (by show 11<22;decide) (by show 12<22;decide),two (by show wX.length=48;decide+kernel) (by show wY.length=48;decide+kernel),by show 2<=14;decide,λn=>?_,⟨by show [L.int 11,L.int 12].Nodup;decide,by show∀x∈[L.int 11,L.int 12],x∈Jo;decide+kernel⟩,Rk,Rk,⟨Cb,(λ_ h=>absurd h jl)⟩,λn v e=>?_,λ_=>rfl,Cb,hf _,nofun,two rfl rfl,two rfl rfl,two (λ_ _=>by kernel_rfl) (λ_ _=>by kernel_rfl),nofun⟩
 ·by_cases h:n=11
  ·subst h;rfl
  ·by_cases ak:n=12
   ·subst ak;rfl
   ·have e1:¬L.int 11=L.int (n:Int):=xe (a:=11) λz=>h z.symm
    have e2:¬L.int 12=L.int (n:Int):=xe (a:=12) λz=>ak z.symm
    rw [Ik (two (λz=>h z.symm) (λz=>ak z.symm))]
    exact PS λz=>by
     rcases fw.mp z with z|z
     ·exact e1 z.symm
     ·exact e2 (jk.mp z).symm
 ·have :=PR e;have a:∀p∈AU,(match p.2 with | .bytes x=>x.length==48|_=>aA)=ae:=by decide+kernel
  have :=a _ this;cases v<;>first |exact⟨_,rfl,by simpa using this⟩|cases this
theorem SD{P:Nat->Prop}(h:∀i∈[0,1,11,12,13,14,15,16,17,18,19,20,21],P i){y:Nat}(aR:gY y)(hy:y<22):P y:=
 h y ((by decide:∀y<22,(y<2\/11<=y)->y∈[0,1,11,12,13,14,15,16,17,18,19,20,21]) y hy aR)
theorem DA(d:Nat)(y:Nat):cnt (qs d) (xx d) y=Jb y:=by
 unfold Jb;by_cases h:y=11
 ·subst h;rfl
 ·by_cases ak:y=12
  ·subst ak;rfl
  ·rw [a8 h,a8 ak];unfold cnt;rw [Ik (bs:=(qs d).bs) λb hb=>by
    rcases fw.mp hb with rfl|hb
    ·exact λz=>h z.symm
    ·rw [jk.mp hb];exact λz=>ak z.symm]
   rfl
theorem SJ(ix:Nat):cJ bY ix=0:=by unfold cJ;split<;>rfl
theorem TX:et uD:=⟨by decide+kernel,λ_ _ _ _=>.inl (SJ _),λ_ _=>by show 0<1000;decide,λ_ _ _ _ _ _ _ _ _ _=>SJ _⟩
def an1:List bh:=(.scr::.x 0::.x 14::.s::.x 0::.ir 0::.x 0::.x 0::.x 0::.ir 2::.x 0::.ir 3::.x 0::.ir 4::.x 0::.ir 5::.x 0::.ir 6::.x 0::.ir 7::.x 0::.ir 8::.x 0::.ir 9::.x 0::.ir 10::(c5 7 [.x 0] (.ir 14::.x 0::.ir 15::.x 0::.ir 16::.x 0::.ir 17::.x 0::.ir 18::.x 0::.ir 19::.x 0::.ir 20::.x 0::.ir 21::.im::.x 0::.x 0::.ir 1::.x 0::.x 0::.x 0::.ir 13::(c5 15 [.x 0] (.ir 11::(c5 14 [.x 0] (.ir 12::.d::.ke::.la::.x 0::.x 0::.to::(c5 4 [.x 0] [.un,.c,.row,.bn,.j,.ns,.nt,.n,.tb,.x 0,.nd 1,.x 0,.bo 11,.bd 11,.pl 1,.x 0,.nd 2,.x 0,.bo 12,.bd 12,.pl 2,.x 10,.fp 1,.fd 1,.fp 2,.fd 2,.fs,.x 0]))))))))
def zh(l:List L)(dx:bt)(ms:List L):dB:=an1.zip (B1 l dx ms)
theorem adc{l:List L}{dx:bt}{ms:List L}:ao (zh l dx ms)=B1 l dx ms:=H8 (by kernel_rfl)
def Un:g1:= {s:=3,d:=87,c:=98,j:=101,n:=104,row:=99,bn:=100,la:=89,ke:=88,tb:=105}
noncomputable def ahW(f:Nat):Nat:=if f=1 then 107 else 113
noncomputable def aif(f:Nat):Nat:=if f=1 then 111 else 117
def ahx:lE:= {im:=48,fs:=123,fd:=λf=>if f=1 then 120 else 122}
noncomputable def S4(y:Nat):Nat:=([5,51,9,11,13,15,17,19,21,23,25,71,86,55,33,35,37,39,41,43,45,47]:List Nat)[y]?.getD 0
noncomputable def adO(f:Nat):Nat:=if f=1 then 119 else 121
theorem aad{l:List L}{dx:bt}{ms:List L}:pZ Un ahW ahx 118 aif 92 S4 adO (qs 0) (xx 0) uD [1,11,12,13] (zh l dx ms):=by
 have two:∀ {Q:e6->Prop},Q ⟨109,110,11,wX,0,0⟩->Q ⟨115,116,12,wY,0,0⟩->∀b∈(qs 0).bs,Q b:=λa b x aO=>by
  rcases fw.mp aO with rfl|aO
  ·exact a
  ·rw [jk.mp aO];exact b
 have z:gW (zh l dx ms):=⟨_,rfl⟩;refine⟨⟨z,?_,?_,?_,?_,?_,?_,?_,?_,?_,?_,(λ_ h=>absurd h jl),?_,?_,two ?_ ?_,two ?_ ?_⟩,DB 0,rfl,rfl,rfl,rfl,rfl,?_,λy _=>DA 0 y,TX,⟨z,?_,?_,?_,?_,?_,rfl,?_⟩,?_⟩
 case refine_17=>rintro f (rfl|rfl)<;>constructor<;>kernel_rfl
 case refine_19=>
  intro y h ak;refine SD (P:=λy=>((zh l dx ms))[S4 y]? =J (bh.ir y,bt.list (List.map dh (uD.img y)))) ?_ h ak
  iterate 13 refine MN.mpr ⟨by kernel_rfl,?_⟩
  exact λ_ h=>absurd h jl
 case refine_21=>rintro f (rfl|rfl)<;>constructor<;>kernel_rfl
 case refine_23=>intro y _;rw [show uD.img y=cnt (qs 0) (xx 0) y from(DA 0 y).symm];exact C2 (DB 0)
 all_goals kernel_rfl
def an2:List bh:=(.scr::.x 0::.x 0::.x 14::.s::.x 0::.ir 0::.x 0::.x 0::.x 0::.ir 2::.x 0::.ir 3::.x 0::.ir 4::.x 0::.ir 5::.x 0::.ir 6::.x 0::.ir 7::.x 0::.ir 8::.x 0::.ir 9::.x 0::.ir 10::(c5 7 [.x 0] (.ir 14::.x 0::.ir 15::.x 0::.ir 16::.x 0::.ir 17::.x 0::.ir 18::.x 0::.ir 19::.x 0::.ir 20::.x 0::.ir 21::.im::.x 0::.x 0::.ir 1::.x 0::.x 0::.x 0::.ir 13::(c5 15 [.x 0] (.ir 11::(c5 14 [.x 0] (.ir 12::.d::.ke::.la::.x 0::.x 0::.to::(c5 4 [.x 0] [.un,.c,.row,.bn,.j,.ns,.nt,.n,.tb,.x 0,.nd 1,.x 0,.bo 11,.bd 11,.pl 1,.x 0,.nd 2,.x 0,.bo 12,.bd 12,.pl 2,.x 10,.fp 1,.fd 1,.fp 2,.fd 2,.fs,.x 0]))))))))
def zi(l:List L)(dx el:bt)(ms:List L):dB:=an2.zip (B2 l dx el ms)
theorem ade{l:List L}{dx el:bt}{ms:List L}:ao (zi l dx el ms)=B2 l dx el ms:=H8 (by kernel_rfl)
def Uo:g1:= {s:=4,d:=88,c:=99,j:=102,n:=105,row:=100,bn:=101,la:=90,ke:=89,tb:=106}
noncomputable def ahX(f:Nat):Nat:=if f=1 then 108 else 114
noncomputable def aig(f:Nat):Nat:=if f=1 then 112 else 118
def ahy:lE:= {im:=49,fs:=124,fd:=λf=>if f=1 then 121 else 123}
noncomputable def S5(y:Nat):Nat:=([6,52,10,12,14,16,18,20,22,24,26,72,87,56,34,36,38,40,42,44,46,48]:List Nat)[y]?.getD 0
noncomputable def adP(f:Nat):Nat:=if f=1 then 120 else 122
theorem aae{l:List L}{dx el:bt}{ms:List L}:pZ Uo ahX ahy 119 aig 93 S5 adP (qs 1) (xx 1) uD [1,11,12,13] (zi l dx el ms):=by
 have two:∀ {Q:e6->Prop},Q ⟨110,111,11,wX,0,0⟩->Q ⟨116,117,12,wY,0,0⟩->∀b∈(qs 1).bs,Q b:=λa b x aO=>by
  rcases fw.mp aO with rfl|aO
  ·exact a
  ·rw [jk.mp aO];exact b
 have z:gW (zi l dx el ms):=⟨_,rfl⟩;refine⟨⟨z,?_,?_,?_,?_,?_,?_,?_,?_,?_,?_,(λ_ h=>absurd h jl),?_,?_,two ?_ ?_,two ?_ ?_⟩,DB 1,rfl,rfl,rfl,rfl,rfl,?_,λy _=>DA 1 y,TX,⟨z,?_,?_,?_,?_,?_,rfl,?_⟩,?_⟩
 case refine_17=>rintro f (rfl|rfl)<;>constructor<;>kernel_rfl
 case refine_19=>
  intro y h ak;refine SD (P:=λy=>((zi l dx el ms))[S5 y]? =J (bh.ir y,bt.list (List.map dh (uD.img y)))) ?_ h ak
  iterate 13 refine MN.mpr ⟨by kernel_rfl,?_⟩
  exact λ_ h=>absurd h jl
 case refine_21=>rintro f (rfl|rfl)<;>constructor<;>kernel_rfl
 case refine_23=>intro y _;rw [show uD.img y=cnt (qs 1) (xx 1) y from(DA 1 y).symm];exact C2 (DB 1)
 all_goals kernel_rfl
end Mine.Internal.P
end
noncomputable section
open PySem PySem.W PyProof.Rows PySem.Calls
namespace Mine.Internal.P
def qU(m:Nat):List L:=(nn ((m+1)/2)).map λi=>dz (2*i)
theorem apa{n:Nat}{P:Nat->Prop}(h:∀i∈nn n,P i){m:Nat}(bc:m<n):P m:=h m (MT.mpr bc)
theorem anT{m:Nat}(h:m<=10):lV [.int 0,.int (m:Int),.int 2]=J (qU m):=by
 refine apa (n:=11) (P:=λm:Nat=>lV [.int 0,.int (m:Int),.int 2]=J (qU m)) ?_ (MY h)
 show∀i∈[0,1,2,3,4,5,6,7,8,9,10],_
 iterate 11 refine MN.mpr ⟨rfl,?_⟩
 exact λ_ h=>absurd h jl
section
variable {A:g1}{b7 cO:Nat->Nat}{al:hq}{re:gj}{a2:lE}{to:Nat}{ra fp:Nat->Nat}{P:cR}{T:List Nat}{K:dB}{k:b3}{n gp mk:Nat}{i j:Nat}{r:bh}{q:ez}{H:an}{ms:List Nat}{sc pl nm:L}
abbrev Mz(A:g1)(a2:lE)(gp mk:Nat)(sc pl nm:L):Loc:=[(gL,sc),(ip,.new mk),(l5,pl),(cu,.new a2.im),(dP,.new A.d),(bS,nm),(eB,.new A.n),(eO,.new gp),(ew,.new a2.fs)]
abbrev Fj(A:g1)(a2:lE)(gp mk:Nat)(sc pl nm v:L):Loc:=[(gL,sc),(ip,.new mk),(l5,pl),(cu,.new a2.im),(dP,.new A.d),(bS,nm),(eB,.new A.n),(eO,.new gp),(ew,.new a2.fs),(e4,v)]
theorem ZG{a b c d e f aB h i v:L}:eu f2 yS (.one v) [(gL,a),(ip,b),(l5,c),(cu,d),(dP,e),(bS,f),(eB,aB),(eO,h),(ew,i)] H=J [(gL,a),(ip,b),(l5,c),(cu,d),(dP,e),(bS,f),(eB,aB),(eO,h),(ew,i),(e4,v)]:=by kernel_rfl
theorem ZH{a b c d e f aB h i u v:L}:eu f2 yS (.one v) [(gL,a),(ip,b),(l5,c),(cu,d),(dP,e),(bS,f),(eB,aB),(eO,h),(ew,i),(e4,u)] H=J [(gL,a),(ip,b),(l5,c),(cu,d),(dP,e),(bS,f),(eB,aB),(eO,h),(ew,i),(e4,v)]:=by kernel_rfl
theorem agH{ao4:L}(B:pZ A b7 a2 gp cO to ra fp al re P T K)(hJ:K[mk]? =J (.x 14,.list (ms.map dz)))(ak:ms.length<=10)(aD:re.commits=(((ms.length+1)/2:Nat):Int))(h:∀H,k (.bool ae) H):
  ed (aw (n+12)) ((aW (bf 45)).drop 8) f2 (dM k) .next (Fj A a2 gp mk sc pl nm ao4) (ao K):=by
 have n1:=B.nf 1 (.inl rfl);have n2:=B.nf 2 (.inr rfl);refine Xc (a3 (hL (p:=0) B.er_ (by decide) rfl) (au (aN n1.1 rfl rfl) (a3 (hL (p:=1) B.er_ (by decide) rfl) (au (aN n2.1 rfl rfl) (au (aN B.S.n rfl rfl) (au (aN B.S.j rfl rfl) (gz (.x 0) ?_)))))))
 have ma:=B.GL.ex (ek.app K [(bh.x 0,bt.list [.int (P.fl 1).size,.int (P.fl 2).size,.int re.commits])]);have ch:=ma.fd 1 (.inl rfl);have cd:=ma.fd 2 (.inr rfl);have H4:(K++[(bh.x 0,bt.list [.int (P.fl 1).size,.int (P.fl 2).size,.int re.commits])])[mk]? =_:=cf hJ;have e1:(K++[(bh.x 0,bt.list [.int (P.fl 1).size,.int (P.fl 2).size,.int re.commits])])[K.length]? =_:=c2;refine a3 (hL (p:=0) ma.fs (by decide) rfl) (a3 (DI ch.1 rfl rfl) (a3 (hL (p:=1) ma.fs (by decide) rfl) (a3 (DI cd.1 rfl rfl) (a3 (pD H4 (fE (by refine G (d0 ..) ?_;omega))) ?_))))
 refine G (d0 ..) (a3 (f3 (c:=1)) (a3 (kr (c:=2) (by decide)) (gz (.x 0) ?_)))
 refine au (P6 (cf e1) (cU aD c2) rfl) (h _)
theorem agI(ak:ms.length<=10)(h:∀H,k (.bool ae) H):∀(c3 p:Nat) {mm:Loc} {cO to ra fp al re P T K},pZ A b7 a2 gp cO to ra fp al re P T K->re.commits=(p:Int)->K[mk]? =J (.x 14,.list (ms.map dz))->p<=(ms.length+1)/2->(ms.length+1)/2<p+c3->
   ((mm=Mz A a2 gp mk sc pl nm/\ ¬p=(ms.length+1)/2)\/ ∃v,mm=Fj A a2 gp mk sc pl nm v)->
   gR False f2 yS (λm H q=>b1 False (aw (n+12)) (eh (bw (aW (bf 45)) 7)) f2 m H q) (.items (qU ms.length)) c3 p mm (ao K) (ed (aw (n+12)) ((aW (bf 45)).drop 8) f2 (dM k)):=by
 intro c3;induction c3 with
 |zero=>
  exact @λp mm cO to ra fp al re P T K B aD hJ aZ cC Bl=>by
   exact absurd cC (n8.mpr aZ)
 |succ c3 ih=>
  exact @λp mm cO to ra fp al re P T K B aD hJ aZ cC Bl=>by
   by_cases hp:p=(ms.length+1)/2
   ·rcases Bl with Bl|⟨v,rfl⟩
    ·exact absurd hp Bl.2
    ·refine mr ?_ (agH B hJ ak (hp▸aD) h);show J ((qU ms.length)[p]?.map n3.one)=_
     exact G (mP (by unfold qU;rw [d0,uy];exact iB (id (rd hp)))) rfl
   ·have iC:itemAt (.items (qU ms.length)) p (ao K)=J (J (.one (dz (2*p)))):=by
     show J ((qU ms.length)[p]?.map n3.one)=_
     have :(qU ms.length)[p]? =J (dz (2*p)):=by
      unfold qU;exact G kY (G (B7 (Ci aZ hp)) rfl)
     exact G this rfl
    have step:b1 False (aw (n+12)) (eh (bw (aW (bf 45)) 7)) f2 (Fj A a2 gp mk sc pl nm (dz (2*p))) (ao K) λdn m H=>match dn with
      | .next| .cont=>gR False f2 yS (λm H q=>b1 False (aw (n+12)) (eh (bw (aW (bf 45)) 7)) f2 m H q) (.items (qU ms.length)) c3 (p+1) m H (ed (aw (n+12)) ((aW (bf 45)).drop 8) f2 (dM k))
      | .brk=>ed (aw (n+12)) ((aW (bf 45)).drop 8) f2 (dM k) .next m H
      | .ret v=>ed (aw (n+12)) ((aW (bf 45)).drop 8) f2 (dM k) (.ret v) m H:=by
     refine aqK (a3 (f3 (a:=2*p) (c:=2)) ?_);refine a3 (Tf hJ (fE (by refine G (d0 ..) ?_;omega)) (Xt aZ ak) (by decide) (.x 13)) ?_
     have jd:=B.ex (ek.app K [(bh.x 13,bt.list (((ms.map dz).drop (2*p)).take 2))]);have e1:(K++[(bh.x 13,bt.list (((ms.map dz).drop (2*p)).take 2))])[K.length]? =J (.x 13,.list (((ms.drop (2*p)).take 2).map dz)):=G F4 (G MQ c2);have H4:(K++[(bh.x 13,bt.list (((ms.map dz).drop (2*p)).take 2))])[mk]? =_:=cf hJ;have bc:(∃a,(ms.drop (2*p)).take 2=[a])\/ ∃a b,(ms.drop (2*p)).take 2=[a,b]:=by
      have aQ:(ms.drop (2*p)).length=ms.length - 2*p:=wl;match e:ms.drop (2*p),aQ with
      | [],aQ=>exact(mf (M1 (Xu aZ ‹_›)) aQ).elim
      | [a],_=>exact .inl ⟨a,rfl⟩
      |a::b::_,_=>exact .inr ⟨a,b,rfl⟩
     refine abw (n:=n) jd e1 bc λm3 tW oQ oC bJ re' P' ml aX Up c' adR=>au rfl (g7 rfl ?_)
     exact ih (p+1) Up (G c' (G aD rfl)) (adR _ _ _ (by decide) (by decide) H4) (Xv aZ hp) (rO cC) (.inr ⟨_,rfl⟩)
    rcases Bl with⟨rfl,_⟩|⟨v,rfl⟩
    ·exact iQ iC ZG step
    ·exact iQ iC ZH step
theorem Rl(B:pZ A b7 a2 gp cO to ra fp al re P T K)(aD:re.commits=0)(hJ:K[mk]? =J (.x 14,.list (ms.map dz)))(ai:¬ms.length=0)(ak:ms.length<=10)(h:∀H,k (.bool ae) H):
  b1 False (aw (n+12)) ((aW (bf 45)).drop 7) f2 (Mz A a2 gp mk sc pl nm) (ao K) (dM k):=by
 refine Zd (a3 (pD hJ (fE (by refine G (d0 ..) ?_;omega))) ?_)
 refine G (d0 ..) (au (anT ak) ?_);refine agI ak h f6 0 B aD hJ (hf _) (by unfold f6;exact Xy ak) (.inl ⟨rfl,Xz ai⟩)
end
variable {A:g1}{b7 cO ra fp:Nat->Nat}{al:hq}{re:gj}{a2:lE}{to n gp i j:Nat}{P:cR}{T:List Nat}{K:dB}{r:bh}{H:an}
section
variable {kB bI:an}
section
variable {l:List L}{ct:List cD}{K:ez}{k:b3}{fQ:List Int}
theorem an3(aD:bW .Eq (.new 0) (.new 1) [.scr l,.list []]=J ae)(h:b1 False (aw n) ct f2 [(gL,.new 0),(ip,.new 2)] [.scr l,.list [],.list [.int 0,.int 1]] K):
  b1 False (aw n) (bw (aW (bf 45)) 0::ct) f2 [(gL,.new 0)] [.scr l] K:=by
 exact SE (au aD h)
theorem ahw{i:Nat}{kt:Nat->Prop}(e:H[i]? =J (.list l))(h:kt i):lp (.new i) H kt:=by
 have e:listOf (.new i) H=J i:=by
  show((H[i]?.bind AX).bind λ_=>J i)=_
  rw [e];rfl
 unfold lp;rw [e];exact h
theorem ZI{m:Loc}{v:L}(bc:m=[]\/ ∃u,m=[(fV,u)]):eu ud Mx (.one v) m H=J [(fV,v)]:=by
 rcases bc with rfl|⟨u,rfl⟩<;>kernel_rfl
noncomputable def tO(a:Int):Nat:=a.natAbs%1000000000000
noncomputable def RI:L->L
 | .int a=>dz (tO a)
 |_=>.none
theorem acW{a:Int}{q:b3}(h:q (dz (tO a)) H):bO False (aw n) (j8 uc 0) ud [(fV,.int a)] H q:=by
 refine acP (a3 (a:=.int (a.natAbs:Nat)) (b:=H) rfl (a3 (a:=.int ((1000000000000:Nat):Int)) (b:=H) rfl (a3 (ks (c:=1000000000000) (by decide)) h)))
theorem an5(aD:bW .Eq (.new 0) (.new 1) [.scr (fQ.map .int),.list []]=J aA)(aQ:fQ.length<=63)
  (h:b1 False (aw n) ct f2 [(gL,.new 0),(ip,.new 3)] [.scr (fQ.map .int),.list [],.list ((fQ.take 10).map .int),.list (((fQ.take 10).map tO).map dz)] K):
  b1 False (aw n) (bw (aW (bf 45)) 0::ct) f2 [(gL,.new 0)] [.scr (fQ.map .int)] K:=by
 refine SE (au aD (a3 (a:=.new 2) (b:=[.scr (fQ.map .int),.list [],.list ((fQ.take 10).map .int)]) ?_ ?_))
 ·show(if bH (fQ.map L.int).length then(jY (fQ.map L.int) ac (J 10)).map λl=>(L.new 2,[bt.scr (fQ.map .int),bt.list []]++[bt.list l]) else ac)=_
  rw [aY (fE (by rw [d0];omega))]
  rw [F4];rfl
 ·refine ahw (l:=(fQ.take 10).map .int) rfl (wV (s:=.lst 2) (H:=[.scr (fQ.map .int),.list [],.list ((fQ.take 10).map .int)]) (items:=(fQ.take 10).map .int) (P:=λm=>m=[]\/ ∃u,m=[(fV,u)]) (mm:=λv=>[(fV,v)]) (c:=λ_=>ae) (f:=RI) (λp=>rfl) (λv m bc=>ZI bc) (λv=>.inr ⟨v,rfl⟩) (λv _ q h=>adt h) (λv hv _ q h=>?_) f6 0 [] [] (.inl rfl) ?_ (hf _) ?_)
  ·refine bT (hQ.mp hv) λa _ amb=>?_;obtain rfl:=amb
   exact acW h
  ·rw [d0,o5];unfold f6;exact XO
  ·have e:[]++(((fQ.take 10).map L.int).drop 0|>.filter λ_=>ae).map RI=((fQ.take 10).map tO).map dz:=by
    rw [zs,zm,Vf.mpr (λ_ _=>rfl),B8,B8];rfl
   rw [e];exact h
theorem aoj{dx:bt}{ms:List L}(dg:kB=[.scr l,dx,.list ms])(e1:bI=B1 l dx ms)(h:b1 False (aw (n+12)) ct f2 [(gL,(.new 0)),(ip,(.new 2)),(l5,(.new 3)),(cu,(.new 48)),(dP,(.new 87)),(bS,(.int 13)),(eB,(.new 104)),(eO,(.new 118)),(ew,(.new 123))] bI K):
  b1 False (aw (n+12)) (bw (aW (bf 45)) 1::bw (aW (bf 45)) 2::bw (aW (bf 45)) 3::bw (aW (bf 45)) 4::bw (aW (bf 45)) 5::bw (aW (bf 45)) 6::ct) f2 [(gL,.new 0),(ip,.new 2)] kB K:=by
 subst dg;subst e1;unfold f2 at h⊢;rw [aok];exact h
theorem aol{dx el:bt}{ms:List L}(dg:kB=[.scr l,dx,el,.list ms])(e1:bI=B2 l dx el ms)(h:b1 False (aw (n+12)) ct f2 [(gL,(.new 0)),(ip,(.new 3)),(l5,(.new 4)),(cu,(.new 49)),(dP,(.new 88)),(bS,(.int 13)),(eB,(.new 105)),(eO,(.new 119)),(ew,(.new 124))] bI K):
  b1 False (aw (n+12)) (bw (aW (bf 45)) 1::bw (aW (bf 45)) 2::bw (aW (bf 45)) 3::bw (aW (bf 45)) 4::bw (aW (bf 45)) 5::bw (aW (bf 45)) 6::ct) f2 [(gL,.new 0),(ip,.new 3)] kB K:=by
 subst dg;subst e1;unfold f2 at h⊢;rw [aom];exact h
theorem an4(dg:kB=[.scr l])(e1:bI=[.scr l,.list [],.list [.int 0,.int 1]])(aD:bW .Eq (.new 0) (.new 1) [.scr l,.list []]=J ae)(h:b1 False (aw n) ct f2 [(gL,.new 0),(ip,.new 2)] bI K):
 b1 False (aw n) (bw (aW (bf 45)) 0::ct) f2 [(gL,.new 0)] kB K:=by subst dg;subst e1;exact an3 aD h
theorem an6(dg:kB=[.scr (fQ.map .int)])(e1:bI=[.scr (fQ.map .int),.list [],.list ((fQ.take 10).map .int),.list (((fQ.take 10).map tO).map dz)])(aD:bW .Eq (.new 0) (.new 1) [.scr (fQ.map .int),.list []]=J aA)(aQ:fQ.length<=63)(h:b1 False (aw n) ct f2 [(gL,.new 0),(ip,.new 3)] bI K):
 b1 False (aw n) (bw (aW (bf 45)) 0::ct) f2 [(gL,.new 0)] kB K:=by subst dg;subst e1;exact an5 aD aQ h
theorem agF{KK:dB}{ms:List Nat}(vc:KK=zh l (.list []) [.int 0,.int 1])(bc:ms=[0,1])(w5:kB=[.scr l])(ai:bI=[.scr l,.list [],.list [.int 0,.int 1]])(aQ:l=[])(h:∀H,k (.bool ae) H):b1 False (aw (n+12)) (aW (bf 45)) f2 [(gL,.new 0)] kB (dM k):=by
 have a:=Rl (n:=n) (k:=k) (sc:=.new 0) (pl:=.new 3) (nm:=.int 13) (ms:=ms) (mk:=2) (K:=KK) (by rw [vc];exact aad) rfl (by rw [vc,bc];rfl) (by rw [bc];decide) (by rw [bc];decide) h
 have b:=aoj ai (by rw [vc];exact adc) a
 have c:=an4 w5 ai (by subst aQ;rfl) b
 exact bZ (by kernel_rfl) c
theorem agG{KK:dB}{ms:List Nat}(vc:KK=zi (fQ.map .int) (.list []) (.list ((fQ.take 10).map .int)) (((fQ.take 10).map tO).map dz))(bc:ms=(fQ.take 10).map tO)(w5:kB=[.scr (fQ.map .int)])(ai:bI=[.scr (fQ.map .int),.list [],.list ((fQ.take 10).map .int),.list (((fQ.take 10).map tO).map dz)])(aQ:¬fQ=[])(Iy:fQ.length<=63)(h:∀H,k (.bool ae) H):b1 False (aw (n+12)) (aW (bf 45)) f2 [(gL,.new 0)] kB (dM k):=by
 have a:=Rl (n:=n) (k:=k) (sc:=.new 0) (pl:=.new 4) (nm:=.int 13) (ms:=ms) (mk:=3) (K:=KK) (by rw [vc];exact aae) rfl (by rw [vc,bc];rfl) (by rw [bc];induction fQ using mO with |nil=>exact absurd rfl aQ|cons a b=>simp) (by rw [bc,d0,o5];exact sS 10 fQ.length) h
 have b:=aol ai (by rw [vc];exact ade) a
 have c:=an6 w5 ai (by induction fQ using mO with |nil=>exact absurd rfl aQ|cons a b=>rfl) Iy b
 exact bZ (by kernel_rfl) c
theorem asQ(w5:kB=[.scr (fQ.map .int)])(Iy:fQ.length<=63)(h:∀H,k (.bool ae) H):aw (n+13) 927 [.new 0] kB k:=by
 refine Bk (st:=bf 45) (ss:=aW (bf 45)) (m:=[(gL,.new 0)]) (by kernel_rfl) (by decide) (by kernel_rfl) rfl (by kernel_rfl) ?_
 by_cases e:fQ=[]
 ·exact agF (l:=fQ.map .int) rfl rfl w5 rfl (by rw [e];rfl) h
 ·exact agG rfl rfl w5 rfl e Iy h
end
end
variable {l:List L}
end Mine.Internal.P
end
noncomputable section
open PySem
namespace Mine.Internal
section
variable {M:qg}{A:k4}{E:aG->cs->Prop}{h:bq}{aB:Array GenState}{d:Drawn}{t:Nat}{os:gv}
variable {nm q:Str}{C N:a1}{bs bm tl:List aG}{hdct:Bool}{sn:List Str}{sub:List aG}{ab:Bool}{col:Option Bool}{dd:Option a1}{k0 k1 k2 k3 k5:Option aG}{B newId m1:String}
theorem arV(a9:zx B newId m1 tl)(dv:bm.contains (.type B)=ae){ct:List aG}{Q:Unit->cs->Prop}(dD:h.get? C=J (wE nm q C N bs bm hdct sn sub ab col dd k0 k1 k2 k3 k5 newId))
  (cI:Q () ⟨h,aB,d,t,os⟩):cN M A (rD newId ⟨.ref C::ct,[]⟩) Q E ⟨h,aB,d,t,os⟩:=by
 have aeN:(lK C::bm).contains (.type B)=ae:=by(exact G (uw ..) (G dv (G (E6 ..) rfl)))
 have QR:=a9.noStar;simp only [rD,a9.newKind,a9.newSplit,a9.newRow];repeat (first |refine s9 dD ?_|(refine CH dD ?_;(refine G aeN ?_))|refine wpAny_staticBase_exc dD ?_|refine wpAny_madeBy_exc dD ?_|simp only [bne_self_eq_false,ng,if_false]|wp_step)
 exact cI
theorem arU(a9:zx B newId m1 tl)(dv:bm.contains (.type B)=ae){e:a1}{Ka:Obj}{ct:List aG}{Q:Unit->cs->Prop}
  (dD:h.get? C=J (wE nm q C N bs bm hdct sn sub ab col dd k0 k1 k2 k3 k5 newId)) (bl:h.get? e=J Ka) (IG:Ka.cls=.ref C) (cI:Q () ⟨h,aB,d,t,os⟩):
  cN M A (rD m1 ⟨.ref e::ct,[]⟩) Q E ⟨h,aB,d,t,os⟩:=by
 have Ay:(lK C::bm).contains (.type B)=ae:=by(exact G (uw ..) (G dv (G (E6 ..) rfl)))
 have asE:=a9.noStar;simp only [rD,a9.initKind,a9.initSplit,a9.initRow];repeat (first |(with_reducible refine s9 bl ?_;(refine G IG ?_))|with_reducible refine s9 dD ?_|(with_reducible refine CH dD ?_;(refine G Ay ?_))|wp_step)
 refine wpAny_onRaise ?_;rw [show∀(a b:String) (n:Nat),Bind.check ⟨.positional,"*",B,.self,[⟨"args",.varPos,aA⟩]⟩ a b n (List.map (λx=>x.fst) ({pos:=lK e::ct}:Args).kw)=bK () from
  λa b n=>check_star_args _ _ _ _ _ _]
 exact cK cI
end
section
variable {prog:uG}{w:eS}{A:k4}{R:Result->cs->Prop}{E:aG->cs->Prop}{h:bq}{aB:Array GenState}{d:Drawn}{t:Nat}{os:gv}
variable {nm q:Str}{C N:a1}{bs bm tl:List aG}{hdct:Bool}{sn:List Str}{sub:List aG}{ab:Bool}{col:Option Bool}{dd:Option a1}{k0 k1 k2 k3 k5:Option aG}{B newId m1:String}
theorem arW(a9:zx B newId m1 tl)(dv:bm.contains (.type B)=ae)(dy:bm.contains (.type "AttributeError")=aA)(eT:bm.contains (.type "NameError")=aA){ct:List aG}
  (dD:h.get? C=J (wE nm q C N bs bm hdct sn sub ab col dd k0 k1 k2 k3 k5 newId))
  (cI:R (.ok (.ret (.ref (h.objs.size+1)))) ⟨(h.push {cls:=.type "tuple",data:=.seq ct.toArray}).push
   {cls:=.ref C,data:=.fields #[.ref h.objs.size,.none,.none,.none,.bool aA,.none]},aB,d,t,os⟩) (hrest:ct.length<=mh:=by size_fits):
  codeAny (di prog w) A (.builtin newId ⟨.ref C::ct,[]⟩) R ⟨h,aB,d,t,os⟩:=by
 have asC:=a9.ends;have Ay:(lK C::bm).contains (.type B)=ae:=by rw [uw,dv,E6]
 have aeJ:(lK C::bm).contains (.type "AttributeError")=aA:=G uw (G dy rfl);have aeM:(lK C::bm).contains (.type "NameError")=aA:=G uw (G eT rfl);refine codeAny_builtinAt a9.entry (wpAt_bind (wpAt_bind (wpAt_stack λp ass=>wpAt_of_wpAny ?_)))
 wp_walk
 refine wpAt_of_wpAny (G a9.owner ?_);repeat (first |with_reducible refine wpAny_madeHere_exc a9.canon dD ?_|with_reducible refine s9 dD ?_|(with_reducible refine CH dD ?_;first |(rw [Ay])|rw [aeJ]|rw [aeM])|wp_step)
 rw [ib];exact cI
theorem arY(a9:zx B newId m1 tl)(dv:bm.contains (.type B)=ae)(dy:bm.contains (.type "AttributeError")=aA)(eT:bm.contains (.type "NameError")=aA){ct:List aG}{u5:a1}{A9:Obj}{Q:Fin->cs->Prop}
  (dD:h.get? C=J (wE nm q C N bs bm hdct sn sub ab col dd k0 k1 k2 k3 k5 newId)) (hi:∀av:bq,(∀b o,h.get? b=J o->av.get? b=J o)->PySem.W.Looks (di prog w) av (jp (.ref C) "__init__") (J (.ref u5)))
  (IK:h.get? u5=J A9) (IL:A9.cls=.type "function")
  (cI:∀av e,Heap.MadeExcOf h av e (.ref C) ct->h.objs.size<=av.objs.size->
   cN (di prog w) A (call (.ref u5) (.ref e::ct)) (λr aS=>r=.none/\Q (.done (.ret (.ref e))) aS) E ⟨av,aB,d,t,os⟩) (hrest:ct.length<=mh:=by size_fits):
  cN (di prog w) A (Builtin.«type.__call__» ⟨.ref C::ct,[]⟩) Q E ⟨h,aB,d,t,os⟩:=by
 repeat (first |with_reducible refine s9 dD ?_|with_reducible refine wpAny_madeBy_exc dD ?_|wp_step)
 refine codeAny_call_builtin_code (Gk _ a9.quiet) (arV a9 dv dD ?_);refine arW a9 dv dy eT dD ?_ hrest;have qN:∀b o,h.get? b=J o->((h.push {cls:=.type "tuple",data:=.seq ct.toArray}).push {cls:=.ref C,data:=.fields #[.ref h.objs.size,.none,.none,.none,.bool aA,.none]}).get? b=J o:=λb o e=>k6 _ (k6 _ e)
 have aet:=qN _ _ dD;have aeV:=qN _ _ IK;have QD:((h.push {cls:=.type "tuple",data:=.seq ct.toArray}).push
   {cls:=.ref C,data:=.fields #[.ref h.objs.size,.none,.none,.none,.bool aA,.none]}).get? (h.objs.size+1)=J
   {cls:=.ref C,data:=.fields #[.ref h.objs.size,.none,.none,.none,.bool aA,.none]}:=by heap_get
 have aeK:(lK C::bm).contains (.ref C)=ae:=by simp
 repeat (first |with_reducible refine s9 QD ?_|(with_reducible refine CH aet ?_;(refine G aeK ?_))|wp_step)
 refine(hi _ qN).here (rI (b4 ?_));refine bN (λ_=>ta (T:="function") ⟨_,aeV,IL⟩) (yM (by decide) ?_)
 refine cK (b4 (wI (cI _ (h.objs.size+1) ⟨qN,VD (uB _),h.objs.size,QD,VD (cW _),?_⟩ (by refine G (ib ..) (G (ib ..) ?_);lia)) (λr aS c9=>?_) λ_ _ x=>x))
 ·exact k6 _ (Heap.get?_push_at rfl rfl)
 ·refine cz c9 λalB jG=>?_;obtain rfl:=alB
  wp_walk
  exact jG
theorem arT(a9:zx B newId m1 tl)(dv:bm.contains (.type B)=ae)(dy:bm.contains (.type "AttributeError")=aA)(eT:bm.contains (.type "NameError")=aA){ct:List aG}{u5:a1}{A9:Obj}{Q:aG->cs->Prop}
  (dD:h.get? C=J (wE nm q C N bs bm hdct sn sub ab col dd k0 k1 k2 k3 k5 newId)) (hi:∀av:bq,(∀b o,h.get? b=J o->av.get? b=J o)->PySem.W.Looks (di prog w) av (jp (.ref C) "__init__") (J (.ref u5)))
  (IK:h.get? u5=J A9) (IL:A9.cls=.type "function")
  (cI:∀av e,Heap.MadeExcOf h av e (.ref C) ct->h.objs.size<=av.objs.size->
   cN (di prog w) (A.under (.builtin "type.__call__" ⟨.ref C::ct,[]⟩)) (call (.ref u5) (.ref e::ct)) (λr aS=>r=.none/\Q (.ref e) aS) E ⟨av,aB,d,t,os⟩) (hrest:ct.length<=mh:=by size_fits):
  cN (di prog w) A (call (.ref C) ct) Q E ⟨h,aB,d,t,os⟩:=by
 have ch:=tc_lookup;have cd:=tc_bind (.ref C);have gm:(⟨h,aB,d,t,os⟩:cs).TypeIs (.ref C) "type":=⟨_,dD,rfl⟩;refine CG (Gs ?_);repeat (any_goals (first |assumption|with_reducible refine s9 dD ?_|wp_step))
 refine⟨rfl,?_⟩;refine codeAny_call_builtin_at (Gk _ (by decide+kernel)) NN (wpAny_check_type_call_sub dD (arY (hrest:=hrest) a9 dv dy eT dD hi IK IL λav e bc hz=>?_))
 exact cI av e bc hz
end
section
variable {M:qg}{A:k4}{E:aG->cs->Prop}{s:cs}{Z:Env}
variable {nm q:Str}{C N:a1}{bs bm tl:List aG}{hdct:Bool}{sn:List Str}{sub:List aG}{ab:Bool}{col:Option Bool}{dd:Option a1}{k0 k1 k2 k3 k5:Option aG}{B newId m1:String}
theorem arX{x:Sem aG}{Q:nq->cs->Prop}(dv:bm.contains (.type "BaseException")=ae)(a6:A.handled=ac)
  (h:cN M A x (λv en=>∃e D t,v=.ref e/\en.heap.get? C=J (wE nm q C N bs bm hdct sn sub ab col dd k0 k1 k2 k3 k5 newId)/\
   en.heap.get? e=J {cls:=.ref C,dict:=D,data:=.fields #[t,.none,.none,.none,.bool aA,.none]}/\E (.ref e) en) E s):
  cN M A (raiseStmt Z (J x) ac) Q E s:=by
 have Ay:(lK C::bm).contains (.type "BaseException")=ae:=by(exact G (uw ..) (G dv (G (E6 ..) rfl)))
 refine b4 (wI h (λv en h₁=>?_) λ_ _ x=>x)
 refine tZ h₁ λe D t alC dD bl tB=>?_;obtain rfl:=alC
 obtain⟨hp,aB,d,tk,os⟩:=en;repeat (first |with_reducible refine s9 bl ?_|with_reducible refine s9 dD ?_|(with_reducible refine CH dD ?_;(refine G Ay ?_))|wp_step)
 exact wpAny_raiseNew_none a6 tB
end
variable {A:k4}{E:aG->cs->Prop}{h:bq}{t:Nat}{nm q:Str}{C N:a1}{bs bm tl sub:List aG}{hdct ab:Bool}{sn:List Str}{col:Option Bool}{dd:Option a1}{k0 k1 k2 k3 k5:Option aG}{B newId m1:String}
end Mine.Internal
end
noncomputable section
open PySem PySem.W PyProof.Rows PySem.Calls
namespace Mine.Internal
section
variable {Q:aG->cs->Prop}{e:a1}{Z:Env}{pos:Pos}{v:aG}{x:Str}
theorem af8(P:cB):p5 P 36 (aL 2 0):=⟨JW,_,by kernel_rfl,rfl,rfl,rfl,rfl,rfl,rfl,by kernel_rfl,λs vs X aQ=>by refine oX (JA aQ) λa0 hu alt=>?_;obtain rfl:=alt;exact binds_K (K:=dk P) X rfl (show _=J JV from rfl) rfl rfl rfl⟩
theorem an9:Eb (aL 2 0)=ae:=by decide+kernel
theorem Sz(P:cB):ue P 36 (aL 2 0):=Ii (af8 P) an9
section
variable {w:eS}{A:k4}{E:aG->cs->Prop}{s:cs}
theorem X9{P:cB}{f:a1}{st:cD}{vs':List aG}{R:Result->cs->Prop}(a9:ue P f st)(B:(dk P).In s.heap)(ae6:s.heap.NoLimit)(aQ:vs'.length=(fF st).args.length)(bA:A.depth<1000)
  (h:∀Z cP,Z.scope=dO st->Z.globals=k8->Z.builtins=s5->uF s Z.locals (kk Z.kindOf (((fF st).args.map (·.arg)).zip vs') λ_=>ac) Z.cells (s4 Z.kindOf (((fF st).args.map (·.arg)).zip vs') λ_=>ac) cP->
   cP.gens=s.gens->cP.os=s.os->cN (di prog w) (A.deeper Z) (execs (aW st) Z) (λf aS=>R (.ok (.ret (match f with | .ret v=>v|_=>.none))) aS) (λ_ _=>False) cP):
  codeAny (di prog w) A (.call (.ref f) ⟨vs',[]⟩) R s:=by
 refine Uh a9.fd λo fd aR aeQ hb iS bj ll ID Az IE=>Ui (codeRec_of B Az) λc J8 acb apb aD IX II cI=>?_
 have pz:=a9.co;have AD:=a9.gen;rw [<-iS] at pz AD;refine Gs ?_;show cN _ _ (callAny (.ref f) ⟨vs',[]⟩) _ _ _
 refine bN (λ_=>GA (B _ _ aR)) ?_
 simp only [aeQ,callFunction,pz,AD,hb,aD];refine b4 (m:=rF (.ref c) 1) (mi IX II cI (bN (λ_=>cK) ?_))
 refine bN (λ_=>IE s vs' B aQ _ _ _ _) (G ll ?_)
 have j5:fd.scope.kind=.function:=G iS a9.kind;refine b4 (wpAny_newFunctionEnv_cells j5 (λx aO=>?_) λZ bl aS X=>?_)
 ·refine G iS ?_;rcases a9.pk _ (List.of_mem_zip aO).1 with ai|ai
  ·exact .inl ai
  ·exact .inr ⟨ai,z4 _ _ _ (.inr (mem_of_lookup ai))⟩
 exact bN (λ_=>wpAny_enterFrame (ae6.keeps X.toInCall.keep) bA) (oX X.toInCall.same λai tk qG=>cK ⟨rfl,codeAny_func (wI (h Z aS (G bl iS) (G bl bj) (G bl ID) X (by(exact G qG rfl)) (by(exact G qG rfl))) (λ_ _ x=>x) λ_ _ x=>x.elim)⟩)
end
section
variable {w:eS}{A:k4}{E:aG->cs->Prop}{s:cs}
theorem Z7:aW (aL 2 0)=[.Expr (.Call (.Attribute (.Name yN ⟨8,8,8,18⟩) pV ⟨8,8,8,27⟩) [.Name bQ ⟨8,28,8,32⟩,.Name kT ⟨8,34,8,40⟩] [] ⟨8,8,8,41⟩) ⟨8,8,8,41⟩,
 .Assign [.Attribute (.Name bQ ⟨9,8,9,12⟩) kT ⟨9,8,9,19⟩] (.Name kT ⟨9,22,9,28⟩) ⟨9,8,9,28⟩]:=by kernel_rfl
theorem adC(P:cB):findCls (dk P) (.type "ValueError") (.type "type") pV=J (.val (.builtin "ValueError.__init__")):=by kernel_rfl
theorem adB(P:cB):nr (dk P) (.ref 76) "__setattr__"=J (J (.builtin "object.__setattr__")):=by kernel_rfl
theorem adA(P:cB):nr (dk P) (.ref 76) kT=J ac:=by kernel_rfl
theorem aoS(P:cB):subIn (dk P) (.ref 76) (.type "object")=J ae:=by kernel_rfl
theorem apn:typeOf (.type "ValueError")=bK (.type "type"):=by kernel_rfl
theorem aoQ:Manifest.isStub "ValueError"=aA:=by decide+kernel
theorem aeB:handedIn (.builtin "ValueError.__init__")=ae:=by kernel_rfl
theorem aac:zC yN=J (.type "ValueError"):=by kernel_rfl
theorem aem(P:cB):nsIn (dk P) k8 yN=J ac:=by kernel_rfl
theorem adz(P:cB):nr (dk P) (.ref 76) "__init__"=J (J (.ref 36)):=by kernel_rfl
noncomputable abbrev qw(D:Option a1)(t:aG):Obj:= {cls:=.ref 76,dict:=D,data:=.fields #[t,.none,.none,.none,.bool aA,.none]}
theorem z6{P:cB}{h:bq}(X:(dk P).In h):∃nm q bs hdct sn sub ab col dd k0 k1 k2 k3 k5,h.get? 76=J (wE nm q 76 75 bs (.ref 39::[.type "ValueError",.type "Exception",.type "BaseException",.type "object"]) hdct sn sub ab col dd k0 k1 k2 k3 k5 "ValueError.__new__"):=
 ⟨_,_,_,_,_,_,_,_,_,_,_,_,_,_,X 76 _ rfl⟩
theorem Dd:zx "ValueError" "ValueError.__new__" "ValueError.__init__" [.type "ValueError",.type "Exception",.type "BaseException",.type "object"]:=PySem.F.excBase_ValueError
theorem abD{t:a1}{ct:List aG}(B:(dk w.params).In s.heap)(bl:s.heap.get? e=J (qw ac (.ref t)))(c9:ct.length<10)
  (q:∀aS,(∀b o,b≠e->s.heap.get? b=J o->aS.heap.get? b=J o)->aS.heap.get? e=J (qw ac (.ref s.heap.objs.size))->aS.gens=s.gens->aS.os=s.os->s.heap.objs.size<=aS.heap.objs.size->Q .none aS):
  cN (di prog w) A (PySem.call (.builtin "ValueError.__init__") (.ref e::ct)) Q E s:=by
 obtain⟨nm,Bf,bs,hdct,sn,sub,ab,col,dd,k0,k1,k2,k3,k5,dD⟩:=z6 B;obtain⟨a6,aB,d,tk,os⟩:=s;refine CG (codeAny_call_builtin Dd.init.plain Dd.initEntry (arU Dd (by decide) dD bl rfl ?_))
 unfold Builtin.«BaseException.__init__»;refine jt (by simp) ?_
 unfold newTuple asn;have w9:(a6.push {cls:=.type "tuple",data:=.seq ct.toArray}).get? e=J (qw ac (.ref t)):=k6 _ bl;refine b4 (qo (b4 (b4 (mi w9 rfl (x:=.ref t) rfl (b4 (GF w9 rfl (by simp) ?_))))) (by show ct.toArray.size<=mh;refine G iA (G k9 ?_);lia))
 refine wpAny_letGo (cK (q _ (λb o hb fc=>?_) ?_ rfl rfl ?_))
 ·show Heap.get? (NH _ _ _) b=_
  refine G (uE _ _ (Cm hb)) ?_;exact k6 _ fc
 ·show Heap.get? (NH _ _ _) e=_
  refine G (sZ _ w9 rfl) ?_;rfl
 ·show a6.objs.size<=(NH _ _ _).objs.size
  refine G (qf ..) ?_;show _<=(Heap.push a6 _).objs.size
  exact G (ib ..) (uB _)
theorem aoi{t:aG}{Q:Unit->cs->Prop}(B:(dk w.params).In s.heap)(bl:s.heap.get? e=J (qw ac t))
  (q:∀aS D,(∀b o,b≠e->s.heap.get? b=J o->aS.heap.get? b=J o)->aS.heap.get? e=J (qw (J D) t)->aS.gens=s.gens->aS.os=s.os->s.heap.objs.size<=aS.heap.objs.size->Q () aS):
  cN (di prog w) A (setAttr (.ref e) kT v) Q E s:=by
 obtain⟨nm,Bf,bs,hdct,sn,sub,ab,col,dd,k0,k1,k2,k3,k5,dD⟩:=z6 B;obtain⟨a6,aB,d,tk,os⟩:=s;have am:InstAt a6 e (qw ac t) 76 ac:=⟨bl,rfl,rfl,trivial⟩;have zL:=PySem.F.store_object;refine set_plain (s:=⟨a6,aB,d,tk,os⟩) B am (adB _) ?_;have sub:Looks (di prog w) a6 (isInstance (.ref e) (.type "object")) ae:=am.type.andThen (looks_subIn B (aoS _));refine codeAny_call_builtin zL.slot.plain zL.entry (@check_slot (di prog w) _ _ ⟨a6,aB,d,tk+1,os⟩ "object.__setattr__" "object" "__setattr__" (.ref e) [.str kT tk,v] [] _ zL.kind zL.split sub (zL.args (.ref e) (.str kT tk) v) ?_);have bc:Looks (di prog w) a6 (mroOf (.ref 76)) [.ref 76,.ref 39,.type "ValueError",.type "Exception",.type "BaseException",.type "object"]:=(Looks.ld (part:=ac) (B 76 _ rfl)).andThen .now;have Va:Looks (di prog w) a6 (Builtin.ObjectAttr.storeTaker? ac) ac:=.now;refine G (osa_eq ..) (G (refuse_eq ..) ?_);refine b4 (b4 (am.type.at (b4 (bc.at ?_))));refine G (refuseLoop_ref ..) (G (refuseLoop_ref ..) (G (PySem.F.store_ValueError.passes ..) ?_));refine cK (bN (λ_=>am.type.at) (b4 ((Cv B (adA _)).at (bN (λ_=>Va.at) ?_))))
 have aD:∃i5,clsIn (dk w.params) 76=J i5/\i5.hasDict=ae:=⟨_,rfl,rfl⟩;refine bT aD λi5 aD pA=>bN (λ_=>cK) (b4 (b4 (NX bl (b4 ((looks_clsIn B aD).at ?_)))))
 refine G pA ?_;have w9:(a6.push {cls:=.type "dict",data:=.dict #[]}).get? e=J (qw ac t):=k6 _ bl;have QA:e≠a6.objs.size:=mf (gE bl);refine bN (λ_=>wpAny_alloc) (bN (λ_=>wpAny_update w9) (cK ?_))
 have aeY:((a6.push {cls:=.type "dict",data:=.dict #[]}).update e λo=> {o with dict:=J a6.objs.size}).get? a6.objs.size=J {cls:=.type "dict",data:=.dict #[]}:=
  (VE _ _ _ _ QA.symm).trans (hU _ rfl)
 have AH:((a6.push {cls:=.type "dict",data:=.dict #[]}).update e λo=> {o with dict:=J a6.objs.size}).Ns a6.objs.size (λ_=>ac):=
  ⟨_,#[],_,aeY,rfl,λe bl=>absurd bl (by simp),λ_=>rfl⟩
 show cN _ _ (VB a6.objs.size (.str kT tk) kT v) _ _ _
 unfold VB Builtin.ObjectAttr.newKeyGuard;refine bN (λ_=>cK) (b4 (wpAny_nsSet1 (Heap.Ns1.of_empty AH) λav lm hs=>?_))
 refine E1 (lm.count (Within.cons kT v Within.nil)) λJ7 asw asv afa aeP aeL=>?_
 refine bN (λ_=>NY afa (G aeP (pastItsLine_dict (cQ aeL (by refine G sN ?_;refine G List.length_nil ?_;refine G k9 ?_;exact F7 (0+1) 16777216))))) ?_
 refine cK (q _ a6.objs.size (λb o hb fc=>?_) ?_ rfl rfl ?_)
 ·exact(hs.2 b (mf (gE fc))).trans ((VE _ _ _ _ hb).trans (k6 _ fc))
 ·exact(hs.2 e QA).trans (sZ _ w9 rfl)
 ·show a6.objs.size<=av.objs.size
  refine G hs.1 (G (qf ..) (G (ib ..) ?_));exact uB _
theorem aef{pl:Sem Bool}{Q:aG×List aG->cs->Prop}(X:(dk w.params).In s.heap)(q:Q (.builtin "ValueError.__init__",[]) {s with toks:=s.toks+1}):cN (di prog w) A (getMethod (.type "ValueError") pV pl) Q E s:=by
 have afm:NS (.type "ValueError")=bK ac:=by unfold NS;dsimp only;exact G aoQ rfl
 have MK:Looks (di prog w) s.heap (typeOf (.type "ValueError")) (.type "type"):=Looks.of_pure apn;have bj:nr (dk w.params) (.type "type") "__getattribute__"=J (J (.builtin "type.__getattribute__")):=type_tga;unfold getMethod specialOf;refine b4 (b4 (MK.here ((Cv X bj).here ?_)));refine yM canon_tga (b4 (wI (Q:=λv=>Q (v,[])) (E:=E) ?_ (λ_ _ z=>cK z) λ_ _ z=>z))
 have Vc:Looks (di prog w) s.heap (NS (.type "ValueError")) ac:=Looks.of_pure afm;refine cls_open X Vc MK bj (looks_hook X (r:=ac) (by rfl)) (by show subIn (dk w.params) _ _=_;rfl) (adC _)
  (cK (by show cN _ _ (handedOut _) _ _ _;exact G (handedOut_of aeB) (cK q)))
theorem CO{m:Str->Option aG}(hk:Z.scope.kind=.function)(aQ:Z.kindOf x=J .local)(hn:s.heap.Ns Z.locals m)(hv:m x=J v)(aO:(x==("__debug__":Str))=aA)(q:Q v s):
 cN (di prog w) A (eval (.Name x pos) Z) Q E s:=wpAny_Name (wpAny_loadName_local hk aQ hn hv q) aO
theorem X8(B:l7 w s.heap)(hk:Z.scope.kind=.function)(aQ:Z.kindOf x=J .globalImplicit)(bj:Z.globals=k8)(hb:Z.builtins=s5)
  (ai:nsIn (dk w.params) k8 x=J ac) (ak:zC x=J v) (aZ:x≠"__name__") (aO:(x==("__debug__":Str))=aA) (q:Q v s):cN (di prog w) A (eval (.Name x pos) Z) Q E s:=by
 refine wpAny_Name ?_ aO;unfold loadName;simp only [Gm,hk,aQ,NJ,E5,ng,if_false];unfold loadGlobal;refine G bj (b4 ((Go B.k ai).here ?_));refine bT B.b λxj tD bc=>G hb (bN (λ_=>wpAny_nsGet tD) (G (bc x aZ) (G ak ?_)))
 exact cK q
theorem OT(X:(dk w.params).In s.heap)(hk:Z.scope.kind=.function)(aQ:Z.kindOf x=J .globalImplicit)(bj:Z.globals=k8)
  (ai:nsIn (dk w.params) k8 x=J (J v)) (aO:(x==("__debug__":Str))=aA) (q:Q v s):cN (di prog w) A (eval (.Name x pos) Z) Q E s:=by
 refine wpAny_Name ?_ aO;unfold loadName;simp only [Gm,hk,aQ,NJ,E5,ng,if_false];unfold loadGlobal;exact G bj (b4 ((Go X ai).here (cK q)))
theorem aoV:s7 (.Call (.Attribute (.Name yN ⟨8,8,8,18⟩) pV ⟨8,8,8,27⟩) [.Name bQ ⟨8,28,8,32⟩,.Name kT ⟨8,34,8,40⟩] [] ⟨8,8,8,41⟩) ac 8 Z=bK aA:=rfl
theorem ah8:(dO (aL 2 0)).names.lookup bQ=J .local /\(dO (aL 2 0)).names.lookup kT=J .local /\(dO (aL 2 0)).names.lookup yN=J .globalImplicit:=by decide+kernel
theorem afL{bu:bq}{t:a1}{tk:Tok}(B:l7 w bu)(k0:∀b o,bu.get? b=J o->s.heap.get? b=J o)(gX:bu.get? e=ac)(bA:A.depth<990)(bl:s.heap.get? e=J (qw ac (.ref t)))
  (q:∀aS D vM,(∀b o,b≠e->s.heap.get? b=J o->aS.heap.get? b=J o)->aS.heap.get? e=J (qw (J D) (.ref vM))->aS.gens=s.gens->aS.os=s.os->s.heap.objs.size<=aS.heap.objs.size->s.heap.objs.size<=vM->Q .none aS):
  cN (di prog w) A (PySem.call (.ref 36) [.ref e,.str x tk]) Q E s:=by
 have E7:=B.keeps k0;have jL:∀b o,bu.get? b=J o->b≠e:=λb o fc z=>by rw [z,gX] at fc;exact br fc
 refine CG (X9 (Sz w.params) E7.k E7.lim rfl (eE ‹_› (by decide)) λZ cP iS bj hb X d1 dx=>?_)
 have hk:Z.scope.kind=.function:=G iS ((Sz w.params).kind);refine dS ah8 λn1 n2 A4=>?_
 have gn:Z.kindOf bQ=J .local :=by show Z.scope.names.lookup _=_;exact G iS n1
 have fY:Z.kindOf kT=J .local :=by show Z.scope.names.lookup _=_;exact G iS n2
 have r7:Z.kindOf yN=J .globalImplicit:=by show Z.scope.names.lookup _=_;exact G iS A4
 have DN:=X.toInCall.keep;have mu:s.heap.objs.size<=Z.locals:=X.toInCall.fresh;have dW:e<s.heap.objs.size:=gE bl;have ahY:Z.locals≠e:=λz=>by rw [z] at mu;exact jn _ (eE dW mu)
 have ns:=X.toInCall.ns;have QS:s.heap.objs.size<=cP.heap.objs.size:=jz (eI mu ns.lt);have vs:kk Z.kindOf (((fF (aL 2 0)).args.map (·.arg)).zip [.ref e,.str x tk]) (λ_=>ac) bQ=J (.ref e):=by
  show kk Z.kindOf [(bQ,.ref e),(kT,.str x tk)] (λ_=>ac) bQ=J (.ref e)
  unfold kk;refine G (aY gn) ?_;unfold kk;refine G (aY fY) ?_;unfold kk;exact(a8 (by decide)).trans (aY rfl)
 have bg:kk Z.kindOf (((fF (aL 2 0)).args.map (·.arg)).zip [.ref e,.str x tk]) (λ_=>ac) kT=J (.str x tk):=by
  show kk Z.kindOf [(bQ,.ref e),(kT,.str x tk)] (λ_=>ac) kT=J (.str x tk)
  unfold kk;refine G (aY gn) ?_;unfold kk;refine G (aY fY) ?_;unfold kk;exact aY rfl
 generalize kk Z.kindOf (((fF (aL 2 0)).args.map (·.arg)).zip [.ref e,.str x tk]) (λ_=>ac)=nm at ns vs bg
 have e1:=DN _ _ bl;have jd:l7 w cP.heap:=E7.keeps DN;refine G Z7 ?_;refine NU (wpAny_Expr_any (prog:=prog) (w:=w) ?_ (by unfold interactive;exact G hk rfl) aoV)
 refine methodCall_KW (X8 jd hk r7 bj hb (aem _) aac (by decide) (by decide) (aef jd.k ?_))
 refine callWith_builtin rfl (evalArgs_plain (spliced_cons (CO hk gn ns vs (by decide) (spliced_cons (CO hk fY ns bg (by decide) (spliced_nil ?_))))))
 refine abD jd.k e1 (by simp) λd6 k2 e2 g2 el fu=>?_
 have RU:d6.heap.Ns Z.locals nm:=let⟨o,aH,ii,a,b⟩:=ns;⟨o,aH,ii,k2 _ _ ahY a,b⟩
 have Uq:l7 w d6.heap:=B.keeps λb o fc=>k2 _ _ (jL _ _ fc) (DN _ _ (k0 _ _ fc))
 refine NU (wpAny_Assign_stores (CO hk fY RU bg (by decide) ?_) rfl rfl)
 show cN _ _ (PySem.assign (.Attribute (.Name bQ ⟨9,8,9,12⟩) kT ⟨9,8,9,19⟩) Z (.str x tk)) _ _ _
 have mV:∀o n pos aJ,PySem.assign (.Attribute o n pos) Z aJ=(gO [aJ] (eval o Z)>>=λeM=>gw pos.atName>>=λ_=>gO [aJ,eM] (setAttr eM n aJ)>>=λ_=>zF [aJ,eM] []):=λ_ _ _ _=>rfl
 refine G (mV ..) (b4 (rI (CO hk gn RU vs (by decide) (b4 (GG (b4 (rI (aoi Uq.k e2 λhN D k3 aP hx r9 f1=>wpAny_release (wpAny_execs_nil ?_)))))))))
 exact q _ D _ (λb o hb fc=>k3 _ _ hb (k2 _ _ hb (DN _ _ fc))) aP (hx.trans (g2.trans d1)) (r9.trans (el.trans dx)) (cQ QS (cQ fu f1)) QS
end
end
variable {Q E:aG->cs->Prop}{Z:Env}{pos:Pos}{x:Str}{w:eS}{A:k4}{s:cs}
theorem agb(P:cB):wC (dk P) (.ref 76)=ae:=by kernel_rfl
theorem Qo(P:cB):nsIn (dk P) k8 sA=J (J (.ref 76)):=by kernel_rfl
structure N2(h av:bq)(e:a1):Prop where
 keep:∀b o,h.get? b=J o->av.get? b=J o
 new:h.get? e=ac
 obj:∃D t,av.get? e=J (qw D (.ref t))
 size:h.objs.size<=av.objs.size
theorem ahG{x:Str}{tk:Tok}{Q:aG->cs->Prop}(B:l7 w s.heap)(bA:A.depth<970)(q:∀aS e,N2 s.heap aS.heap e->aS.gens=s.gens->aS.os=s.os->Q (.ref e) aS):cN (di prog w) A (PySem.call (.ref 76) [.str x tk]) Q E s:=by
 obtain⟨nm,Bf,bs,hdct,sn,sub,ab,col,dd,k0,k1,k2,k3,k5,dD⟩:=z6 B.k;obtain⟨a6,aB,d,apc,os⟩:=s;refine arT Dd (by decide) (by decide) (by decide) dD (λav k=>Cv (B.k.keeps k) (adz _)) (B.k 36 _ rfl) rfl (λav e m ahS=>?_) (by simp [k9])
 refine kS m.there λt dF jK A2=>?_
 refine afL (s:=⟨av,aB,d,apc,os⟩) B m.keeps m.new (by show A.depth+1<990;exact eI ‹_› (by decide)) dF λaS D vM k1 k2 k3 oH k5 Q8=>⟨rfl,q aS e ⟨λb o fc=>k1 b o (λz=>by rw [z,m.new] at fc;exact br fc) (m.keeps b o fc),m.new,⟨_,_,k2⟩,cQ ahS k5⟩ k3 oH⟩
theorem anG{Z:Env}{x:Str}{k:Nat}{JQ PG ps pos:Pos}{Q:nq->cs->Prop}(B:l7 w s.heap)(a6:A.handled=ac)(bA:A.depth<970)(hk:Z.scope.kind=.function)(aQ:Z.kindOf sA=J .globalImplicit)(bj:Z.globals=k8)
  (q:∀aS e,N2 s.heap aS.heap e->aS.gens=s.gens->aS.os=s.os->E (.ref e) aS):cN (di prog w) A (exec (.Raise (J (.Call (.Name sA JQ) [.Constant (.str x) k PG] [] ps)) ac pos) Z) Q E s:=by
 obtain⟨nm,Bf,bs,hdct,sn,sub,ab,col,dd,k0,k1,k2,k3,k5,dD⟩:=z6 B.k;refine G (arm_exec_Raise ..) (bN (λ_=>GG) (arX (C:=76) (bm:=.ref 39::[.type "ValueError",.type "Exception",.type "BaseException",.type "object"]) (nm:=nm) (q:=Bf) (N:=75) (bs:=bs) (hdct:=hdct) (sn:=sn) (sub:=sub) (ab:=ab) (col:=col) (dd:=dd) (k0:=k0) (k1:=k1) (k2:=k2) (k3:=k3) (k5:=k5) (newId:="ValueError.__new__") (by decide) a6 ?_))
 refine b4 (wpAny_Call_ofName (OT B.k hk aQ bj (Qo _) (by decide) ?_))
 refine callWith_of (P:=λh=>(dk w.params).In h) rfl (keeps_K (agb _)) (evalArgs_plain (spliced_cons (Constant_str (k:=k) (pos:=PG) (spliced_nil ⟨B.k,?_⟩))))
 exact ahG (s:= {s with toks:=s.toks+1}) B bA λaS e r aB o=>oX r.obj λD t bl=>bN (λ_=>GG) (cK ⟨e,D,.ref t,rfl,r.keep _ _ dD,bl,q aS e r aB o⟩)
noncomputable def pI(h:bq):List a1->bq
 | []=>h
 |b::l=>pI (h.hide b) l
theorem Kb:∀ {l:List a1} {h:bq} {b:a1} {o:Obj},(pI h l).get? b=J o->h.get? b=J o
 | [],_,_,_,e=>e
 |_::l,_,_,_,e=>Heap.of_hide (Kb (l:=l) e)
theorem JJ:∀ {l:List a1} {h:bq} {b:a1},h.get? b=ac->(pI h l).get? b=ac:=λ{l h b} e=>by
 cases q:(pI h l).get? b with
 |none=>rfl
 |some o=>rw [Kb q] at e;exact br e.symm
theorem ahH{b:a1}(l:List a1):∀ {h:bq},b∈l->(pI h l).get? b=ac:=by
 induction l with
 |nil=>intro h m;rcases m
 |cons c l ih=>
  intro h m;show(pI (h.hide c) l).get? b=ac
  rcases fw.mp m with rfl|m
  ·exact JJ (Heap.hide_self h b)
  ·exact ih m
theorem RE{b:a1}{o:Obj}(l:List a1):∀ {h:bq},b∉l->h.get? b=J o->(pI h l).get? b=J o:=by
 induction l with
 |nil=>intro h m e;exact e
 |cons c l ih=>intro h m e;exact ih (λz=>m (f8 _ z)) ((Heap.hide_ne h λz=>m (by exact G z fK)).trans e)
theorem Qk{h base:bq}:∀ {l:List Env},(∀Z∈l,Z.scope.kind≠.module/\∃b,Z.frame=J b/\base.get? b=ac/\∃o aH n,h.get? b=J o/\o.data=.dict aH n)->h.FunFrames base l
 | [],_=>trivial
 |Z::l,k=>by
  refine ar0 (k Z fK) λa b e f o aH n aB dd=>?_
  exact⟨a,⟨b,o,e,f,aB,λvs q=>by rw [dd] at q;cases q⟩,Qk λe bl=>k e (f8 _ bl)⟩
theorem bz.frames{a9:List a1}{n:Nat}{ah:Ctx}(ok:bz a9 n ah):∃A,ah.In A/\A.handled=ac/\A.depth+2*n<990/\A.frames=J (ah.code.envs++pf ah.below):=by
 obtain⟨⟨A,a,q,b,c⟩,-,-,-⟩:=ok;exact⟨{A with frames:=J (ah.code.envs++pf ah.below)},⟨a.1,a.2.1,λl aQ=>ci aQ,a.2.2.2.1,a.2.2.2.2⟩,q,b,rfl⟩
def yQ:mL:=λf vs H k=>f≠917/\tm False (λ_ _ _ _=>False) f vs H k
theorem PH{Θ:fa}{d:Nat}:nZ Θ d (λ_ _ _ _=>False):=λ_ _ _ _ h=>h.elim
theorem ab4{Θ:fa}{d:Nat}:nZ Θ (d+5) yQ:=λf vs H k h=>by
 refine cz h λq h=>?_
 unfold tm at h;cases e:r1 f with
 |none=>rw [e] at h;exact h.elim
 |some st=>
  rw [e] at h;refine cz (Ij Θ.w.params e) λa9 c=>?_
  by_cases aQ:vs.length=(fF st).args.length
  ·exact Pq a9 (λb=>(Tk PH 40).2 _ c) aQ (by simpa only [aQ,if_true] using h)
  ·simp only [aQ,if_false] at h
section
variable {Θ:fa}{d:Nat}{ah:Ctx}{ρ:cq}{m:Loc}{H:an}{h av:bq}
structure GM(fs:List a1)(h av:bq):Prop where
 keep:∀b o,h.get? b=J o->b∉fs->av.get? b=J o
 slot:∀b o,h.get? b=J o->b∈fs->∃sl,av.get? b=J {o with slots:=sl}
theorem fW.turned(x:fW Θ ρ H h)(t:GM Θ.fs h av):fW Θ ρ H av:=by
 have fh:∀(i:Nat) (p:a1×a1),ρ[i]? =J p->p.1∉Θ.fs/\p.2∉Θ.fs:=λi p e=>⟨λz=>((x.frm _ z).2.2 i p e).1 rfl,λz=>((x.frm _ z).2.2 i p e).2 rfl⟩
 refine⟨x.len,λb o e=>t.keep b o (x.old b o e) λz=>?_,x.low,x.sep,λi p o e1 e2=>(x.obj i p o e1 e2).keeps (λo e=>t.keep _ o e (fh i p e1).1) λo e=>t.keep _ o e (fh i p e1).2,λb hb=>?_⟩
 ·have :=(x.frm b z).1;rw [e] at this;exact br this.symm
 ·refine dS (x.frm b hb) λa alp f=>?_;obtain⟨o,e,c,aH,n,dd⟩:=alp
  exact cm (t.slot b o e hb) λsl cT=>⟨a,⟨_,cT,c,aH,n,dd⟩,f⟩
end
def yV(H:an)(i:Nat):Prop:=∃(aN:List (Str×L)) (l:Nat) (c e oI:Int) (eW:List L),H[i]? =J (.inst 865 aN)/\cy aN sB=ac/\cy aN yO=ac/\cy aN e5=J (.new l)/\
 cy aN mH=J (.int c)/\cy aN (z "each")=J (.int e)/\cy aN nY=J (.int oI)/\H[l]? =J (.list eW)/\bH eW.length=ae/\cG (c+1)=ae/\cG e=ae/\oI<eW.length+(c+1)*e
theorem DR{ay:Type}{l:List (Str×L)}{x:Str}{aB:L->Option ay}{c:ay->L}{y:ay}(h:∀v y,aB v=J y->v=c y)(e:(cy l x).bind aB=J y):cy l x=J (c y):=gb e λv e1 e2=>e1.trans (congrArg J (h v y e2))
theorem adZ{vs:List L}{H:an}{k:L->an->Prop}(h:Bj False vs H k):∃i,vs=[.new i]/\yV H i/\k (.bool aA) H:=by
 rcases vs with _|⟨v,vs⟩
 ·exact h.elim
 rcases vs with _|⟨_,_⟩
 ·rcases e:xA H v with _|b
  ·have h:cond (ae&&(xA H v).getD aA) (k (.bool aA) H) False:=h;rw [e] at h;exact h.elim
  ·have h:cond (ae&&(xA H v).getD aA) (k (.bool aA) H) False:=h;rw [e] at h;rcases b
   ·exact h.elim
   ·refine gb e λj e1 e=>gb e λo ej e=>gb e λp e2 e=>gb e λl aP e=>gb e λc jD e=>gb e λd iO e=>gb e λoI Ae e=>gb e λeW ei e=>?_
    have b:=ci e;refine cz (fm b) λhH b=>cz (fm b) λfy b=>cz (fm b) λfz b=>cz (fm b) λjV b=>cz (fm b) λot b=>cz (fm b) λrQ tj=>?_
    rw [JN e1];rw [afN e2,Vn hH] at ej;exact⟨j,rfl,⟨p.2,l,c,d,oI,eW,ej,Ge.mp fy,Ge.mp fz,DR (λ_ _=>JN) aP,DR (λ_ _=>r3) jD,DR (λ_ _=>r3) iO,DR (λ_ _=>r3) Ae,xi ei,jV,ot,rQ,of_decide_eq_true tj⟩,h⟩
 ·exact h.elim
theorem aeE{H:an}{i:Nat}{k:L->an->Prop}(a9:yV H i)(h:k (.bool aA) H):tm False (λ_ _ _ _=>False) 792 [.new i] H k:=by
 obtain⟨aN,l,c,e,oI,eW,ej,fy,fz,e1,e2,aP,jD,ei,jV,ot,rQ,tj⟩:=a9;have bL:∀ {n:Str} {v:L},cy aN n=J v->(∀s,v≠.st s)->aV (.new i) n H=J v:=λ{n v} e hv=>by
  unfold aV;simp only [ej,e];rcases v<;>first |rfl|exact absurd rfl (hv _)
 have hu:=bL e1 (by simp)
 have jC:=bL e2 (by simp)
 have kn:=bL aP (by simp)
 have lf:=bL jD (by simp)
 have ar:cH (.builtin "len") [.new l] H=J (.int eW.length,H):=by
  show(H[l]?).bind _=_
  rw [ei];exact aY jV
 have bm:a5 .Mult (.int (c+1)) (.int e) H=J (.int ((c+1)*e),H):=by
  show(if(cG (c+1)&&cG e)=ae then J (L.int ((c+1)*e),H) else ac)=_
  refine G ot (G rQ ?_);rfl
 have Zo:bW .LtE (.int (eW.length+(c+1)*e)) (.int oI) H=J aA:=by
  show J (eo ((eW.length:Int)+(c+1)*e<=oI))=J aA
  (exact G (decide_eq_false (Int.not_le.mpr tj)) rfl)
 have w:=P.YX (n:=0) (self:=.new i) (H:=H) (k:=k) (by
  show P.aj (aV (.new i) e5 H) _
  refine G hu ?_;show P.aF (cH (.builtin "len") [.new l] H) _
  refine G ar ?_;show P.aj (aV (.new i) mH H) _
  refine G jC ?_;show P.aj (aV (.new i) (z "each") H) _
  refine G kn ?_;show P.aF (a5 .Mult (.int (c+1)) (.int e) H) _
  refine G bm ?_;show P.aj (aV (.new i) nY H) _
  refine G lf ?_;show P.aj (bW .LtE (.int (eW.length+(c+1)*e)) (.int oI) H) λpn=>k (L.bool pn) H
  exact G Zo (h))
 exact w
abbrev Bo:aU:=.UnaryOp .Not (.Call (.Attribute (.Name bQ ⟨579,15,579,19⟩) yO ⟨579,15,579,28⟩) [] [] ⟨579,15,579,30⟩) ⟨579,11,579,30⟩
abbrev anR:cD:=.AugAssign (.Attribute (.Name bQ ⟨581,8,581,12⟩) mH ⟨581,8,581,18⟩) .Add (.Constant (.int 1) 0 ⟨581,22,581,23⟩) ⟨581,8,581,23⟩
theorem Z8:aW (aL 34 4)=[.If Bo [.Raise (J (.Call (.Name sA ⟨580,18,580,24⟩) [.Constant (.str (z "the log")) 0 ⟨580,25,580,34⟩] [] ⟨580,18,580,35⟩)) ac ⟨580,12,580,35⟩] [] ⟨579,8,580,35⟩,anR]:=by kernel_rfl
theorem abL:ts 40 Bo=ae:=by decide+kernel
theorem ah9:(dO (aL 34 4)).names.lookup sA=J .globalImplicit:=by decide+kernel
theorem ao7{v:L}{H:an}{k:Bool->an->Prop}{W:an->(L->an->Prop)->Prop}:ge False yQ Bo W (dO (aL 34 4)).names (((fF (aL 34 4)).args.map (·.arg)).zip [v]) H k=
 P.aj (bx v yO H) λc=>bB False yQ c [] H λr H=>P.aj (ky r) λb=>k (!b) H:=by kernel_rfl
theorem ao8{H:an}{i:Nat}(a9:yV H i){W:an->(L->an->Prop)->Prop}:ge False yQ Bo W (dO (aL 34 4)).names (((fF (aL 34 4)).args.map (·.arg)).zip [.new i]) H (λb bb=>b=ae/\bb=H):=by
 refine G ao7 ?_;have ig:bx (.new i) yO H=J (.fn 792 [.new i]):=by
  refine Uj a9 λaN l c e oI eW ej fy fz _=>?_
  unfold bx;simp only [ej,fz];rfl
 exact G ig (⟨by decide,aeE a9 ⟨rfl,rfl⟩⟩)
variable {Θ:fa}{d:Nat}{ah:Ctx}{ρ:cq}{m:Loc}{H:an}{h av:bq}
theorem adW{base:bq}{n:Nat}(ok:bz Θ.fs n ah)(lW:fW Θ ρ H h)(sk:h.UpToSlots av)(bc:∀b∈Θ.fs,base.get? b=ac):av.FunFrames base (ah.code.envs++pf ah.below):=
 Qk λZ bl=>by
  obtain⟨a,b,hb,e⟩:=ok.fr Z bl;refine dS (lW.frm b hb) λ_ alr _=>?_;obtain⟨o,aR,-,aH,n,dd⟩:=alr
  obtain⟨sl,cT⟩:=sk b o aR λvs q=>by rw [dd] at q;cases q
  exact⟨a,b,e,bc b hb,_,aH,n,cT,dd⟩
theorem d3.outer{X:List a1}{du:cq}{ai ak:bq}(ext:gM h ai)(nD:∀b∈X,h.objs.size<=b)(cd:d3 X ρ ai du ak):d3 [] ρ h du ak:=by
 refine⟨cd.sub,λi p e hi=>?_,λb o e hb _=>cd.keep b o (ext.1 b o e) hb λz=>?_,cQ ext.2 cd.size⟩
 ·have :=cd.new i p e hi;have :=ext.2;lia
 ·exact absurd (gE e) (n8.mpr (nD b z))
def FV(Θ:fa)(outer:List Env)(ρ:cq)(H:an)(h:bq)(e:aG)(av:bq):Prop:=∃a2 du ak mV a0,fW {Θ with fs:=a2::Θ.fs} du H ak/\d3 [] ρ h du ak/\e=.ref mV/\
 Heap.FlyingW (pI ak (a2::Θ.fs)) outer mV (.ref 76) a0 av/\ak.UpToSlots av
theorem ZU{i:Nat}{aJ:aG}(ok:bz Θ.fs (d+15) ah)(lW:fW Θ ρ H h)(f0:bg ρ (.new i) aJ)(a9:yV H i):
  dm Θ.w Θ.O ah (PySem.call (.ref 806) [aJ]) (λ_ _=>False) (FV Θ (ah.code.envs++pf ah.below) ρ H h) h:=by
 refine cz (Ij Θ.w.params (f:=806) (st:=aL 34 4) rfl) λUx _=>H6 (d:=d+10) (vs:=[.new i]) Ux rfl ok lW (.cons f0 .nil) λgU Z ai vA aD Ds iS ext nD IC gk=>Jl aD ?_
 have k1:bz (Θ.fr Z).fs (d+10+4) gU:=vA;refine G Z8 (G (CB ..) ?_);refine dm.bind (G (exec_If ..) ?_);have ce:ST (Θ.fr Z) yQ (d+10) Bo:=(tU (Θ:=Θ.fr Z) (d:=d+10) (ab4 (d:=d+5)) 40).t _ abL;refine dm.bindJ (af.standAt (dm.bindJ (af.mono (ce (k:=λb bb=>b=ae/\bb=H) k1 gk (G iS (ao8 a9))) λb ak cV=>?_)))
 obtain⟨du,jK,cM,cX,cd,aM,a7,q3⟩:=cV;subst aM a7 q3;refine G (aY rfl) (G (CB ..) ?_);refine dm.bind (Uf k1.frames λA cS a6 bA qD=>?_)
 have AA:gU.code.envs=[Z]:=G aD rfl;have IN:A.frames=J (Z::(ah.code.envs++pf ah.below)):=G qD (G AA (G IC rfl));have hk:Z.scope.kind=.function:=cX.fr.kind;refine dm.any cS λs e1 e2 aP=>?_
 subst e1;have aQ:Z.kindOf sA=J .globalImplicit:=by show Z.scope.names.lookup _=_;exact G iS ah9
 refine anG cX.rel.base a6 (by lia) hk aQ cX.fr.glob λaS e r aB o=>⟨?_,by refine G aB ?_;exact e2,by refine G o ?_;exact aP⟩
 refine dm.any cS λhN e1 e2 aP=>oX r.obj λD t bl=>?_
 have vP:s.heap.UpToSlots aS.heap:=.of_keeps r.keep;have IP:=adW (base:=pI s.heap (Z.locals::Θ.fs)) k1 cX.rel vP λb hb=>ahH _ hb
 rw [AA,IC] at IP;rw [<-e1] at IP bl vP;refine wpAny_leaving_firstW (a0:=.ref t) IN IP Ds bl (λb o fc=>by exact G e1 (r.keep b o (Kb fc))) (JJ r.new) rfl rfl rfl λgl mu=>⟨?_,e2,aP⟩
 refine v5 mu λaz aT ca c7=>?_
 exact⟨Z.locals,du,s.heap,e,.ref t,cX.rel,cd.outer ext nD,rfl,⟨az,JJ r.new,aT.2.2,ca⟩,vP.trans c7⟩
theorem dm.ite_{ay:Type}{c:Prop}{_:Decidable c}{t u:Sem ay}{Q:ay->bq->Prop}{X:aG->bq->Prop}(k1:dm Θ.w Θ.O ah t Q X h)(k2:dm Θ.w Θ.O ah u Q X h):dm Θ.w Θ.O ah (if c then t else u) Q X h:=by
 by_cases q:c
 ·rw [aY q];exact k1
 ·rw [a8 q];exact k2
theorem abB{i:Nat}{p1 p2 ka:Pos}(hp:(p2.endLine==ka.line)=ae)(ok:bz Θ.fs (d+15) ah)(a:bD Θ Z ρ m H h)(e:oJ Z.scope.names m hl=J (.new i))(a9:yV H i):
  dm Θ.w Θ.O ah (eval (.Call (.Attribute (.Name hl p1) sB p2) [] [] ka) Z) (λ_ _=>False) (λe av=>∃bG ai,bD Θ Z bG m H ai/\d3 (own Z) ρ h bG ai/\FV Θ (ah.code.envs++pf ah.below) bG H ai e av) h:=by
 have dg:eval (.Call (.Attribute (.Name hl p1) sB p2) [] [] ka) Z=(eval (.Name hl p1) Z>>=λeM=>gw p2.atName>>=λ_=>Gw (.Name hl p1) sB p2 ka Z eM (0+0) (jB ka (ic [] Z)) []):=rfl
 have Kc:bz Θ.fs (d+11+4) ah:=ok;refine G dg (G (eval_Name _ _ _ (by decide)) ?_)
 refine dm.bindJ (af.bv (λ_=>af.standAt) (af.mono (Bm ok a e) λo' ai ⟨bG,dF,bI,bL,ch,aM,a7,b9⟩=>dm.bindJ (af.standAt ?_)))
 subst aM a7;unfold Gw;have ig:bx (.new i) sB bI=J (.fn 806 [.new i]):=by
  refine Uj a9 λaN l c e oI eW ej fy fz _=>?_
  unfold bx;simp only [ej,fy];rfl
 have Ib:NQ (0+0) (jB ka (ic [] Z)) []=ae:=by rfl
 refine G Ib (dm.bindJ (af.holding (af.mono (Ro Kc bL b9 ig) λc' ak cV=>?_)))
 obtain⟨du,jK,cM,cX,cd,aM,a7,q3⟩:=cV;subst aM a7;obtain⟨f',An⟩:=c';refine dS (id q3) λd1 g2 hx=>?_
 dsimp only at d1 g2;subst d1;unfold methodCallPos;refine G hp ?_;simp only [Bool.not_true,Bool.false_or,if_true,zk];refine cz ((tU (Θ:=Θ) (d:=d+11) PH 40).es [] rfl) λhn hs=>?_
 have yL:ju False (λ_ _ _ _=>False) [] Z.scope.names jK cM (λvs bb=>vs=[]/\bb=cM):=⟨rfl,rfl⟩
 unfold Cy;refine dm.bindJ (af.holding (af.mono (Ee (f':=.ref 806) (pos:=ka) hs hn Kc cX yL) λzR aZ ⟨kf,A2,cg,fx,ee,aM,a7,vs,gJ,iF,vC⟩=>dm.bindJ (af.standAt ?_)))
 subst aM iF vC;obtain⟨vs',iT⟩:=zR;dsimp only at a7 gJ;subst a7;rcases gJ;have n1:(jB ka (ic [] Z)).any (·.1)=aA:=rfl;refine G n1 (dm.bindJ (af.mono (Tp Kc fx (q3.sub ee.sub)) λqN cC cV=>?_))
 obtain⟨q9,A3,eD,ko,jE,aM,a7,Be⟩:=cV;subst aM a7;refine bT (All2.one (g2.mono λ_ _ r=>r.sub (ee.sub.trans jE.sub))) λaJ als f0=>?_;obtain rfl:=als
 have vw:dm Θ.w Θ.O ah (PySem.call (.ref 806) [aJ]) (λ_ _=>False) (λe av=>∃bG ai,bD Θ Z bG A3 eD ai/\d3 (own Z) ρ h bG ai/\FV Θ (ah.code.envs++pf ah.below) bG eD ai e av) cC:=
  (ZU ok ko.rel f0 a9).mono (λ_ _ z=>z) λe av z=>⟨q9,cC,ko,ch.trans (cd.trans (ee.trans jE)),z⟩
 have vN:∀ {t:Sem aG} {X:aG->bq->Prop},dm Θ.w Θ.O ah t (λ_ _=>False) X cC->dm Θ.w Θ.O ah (t>>=λr=>gO [r] point>>=λ_=>bK r) (λ_ _=>False) X cC:=λce=>
  dm.bind (ce.mono (λ_ _ z=>z.elim) λ_ _ z=>z)
 rcases Be with rfl|rfl
 ·exact dm.ite_ (vN vw) (vN (dm.keep vw))
 ·exact vN vw
theorem aga(P:cB):p5 P 917 (bf 43):=⟨(yK 2),_,by kernel_rfl,rfl,rfl,rfl,rfl,rfl,rfl,by kernel_rfl,λs vs X aQ=>by refine cm (Jz aQ) λa0 alu=>?_;obtain rfl:=alu;exact BindsTo.of_eq rfl⟩
theorem aiT(P:cB):ue P 917 (bf 43):=Ii (aga P) (by decide+kernel)
theorem Z9:aW (bf 43)=[.Try [.Expr (.Call (.Attribute (.Name hl ⟨691,8,691,15⟩) sB ⟨691,8,691,21⟩) [] [] ⟨691,8,691,23⟩) ⟨691,8,691,23⟩]
 [.ExceptHandler (J (.Name sA ⟨692,11,692,17⟩)) ac [.Return (J (.Constant (.bool aA) 0 ⟨693,15,693,20⟩)) ⟨693,8,693,20⟩] ⟨692,4,693,20⟩] [] [] ⟨690,4,693,20⟩,
 .Return (J (.Constant (.bool ae) 0 ⟨694,11,694,15⟩)) ⟨694,4,694,15⟩]:=by kernel_rfl
theorem aii{v:L}:oJ (dO (bf 43)).names (((fF (bf 43)).args.map (·.arg)).zip [v]) hl=J v:=by kernel_rfl
theorem aia:(dO (bf 43)).names.lookup sA=J .globalImplicit:=by decide+kernel
theorem ahI{Θ:fa}(x:fW Θ ρ H h):∀b o,Θ.h₀.get? b=J o->(pI h Θ.fs).get? b=J o:=λb o e=>
 RE _ (λz=>by have :=(x.frm b z).1;rw [e] at this;exact br this.symm) (x.old b o e)
theorem apf{Θ:fa}{av:bq}(x:fW Θ ρ H h)(st:(pI h Θ.fs).StaysIn av)(sk:h.UpToSlots av):GM Θ.fs h av:=
 ⟨λb o e hn=>st b o (RE _ hn e),λb o e hb=>sk b o e λvs q=>by
  refine dS (x.frm b hb) λ_ alv _=>?_;obtain⟨o',cT,-,aH,n,dd⟩:=alv
  rw [e] at cT;obtain rfl:=ci cT;rw [dd] at q;cases q⟩
theorem d3.turned{Θ:fa}{X:List a1}{du:cq}{aZ gH:bq}(f:d3 X ρ h du aZ)(x:fW Θ du H aZ)(t:GM Θ.fs aZ gH)(hz:h.objs.size<=gH.objs.size):d3 X ρ h du gH:=
 ⟨f.sub,f.new,λb o e hb f4=>(f.keep b o e hb f4).trans λo' cT=>by
  by_cases q:b∈Θ.fs
  ·refine cm (t.slot b o' cT q) λsl Ae=>?_
   refine dS (x.frm b q) λ_ alw _=>?_;refine kS alw λel e2 dy _=>?_
   rw [cT] at e2;obtain rfl:=ci e2;exact⟨sl,Ae,λz=>absurd dy z⟩
  ·exact .of (t.keep b o' cT q),hz⟩
theorem anY{Θ:fa}{d:Nat}{vs:List L}{k:L->an->Prop}(bu:Bj False vs H k):BS Θ (d+25) 917 vs H k:=by
 intro ah ρ h vs' ok lW hv;refine kS (adZ bu) λi alx a9 kt=>?_;obtain rfl:=alx
 refine dm.toJ (H6 (d:=d+20) (aiT _) rfl ok lW hv λgU Z ai vA aD Ds iS ext nD IC gk=>Jl aD (.of ?_))
 have k1:bz (Θ.fr Z).fs (d+9+15) gU:=vA;refine G Z9 (G (CB ..) ?_);refine af.bind ?_;show af _ _ _ (gw _>>=λ_=>tryStmt aA (execs [_] Z) [_] (execs [] Z) [] Z) _ _
 refine af.bind (af.standAt ?_);refine af.bind (dm.attempt ?_);refine G (CB ..) (dm.bind (G (exec_Expr _ _ _ (RS gk) rfl) (dm.bindJ (af.standAt (dm.bind ((abB rfl k1 gk (G iS aii) a9).mono (λ_ _ z=>z.elim) λe av z=>?_))))))
 refine ar5 z λbG ak bL ch a2 du aZ mV a0 gJ ee aly QC sk=>?_;clear z;obtain rfl:=aly
 have AA:gU.code.envs=[Z]:=G aD rfl;refine Uf k1.frames λA cS a6 bA qD=>?_
 have IN:A.frames=J (Z::pf gU.below):=G qD (G AA rfl);rw [AA] at QC;refine af.any cS λs e1 e2 aP=>?_
 subst e1;refine b4 (wpAny_looks_onW IN Ds QC λcC aeZ apN=>?_)
 refine b4 (wpAny_landsW aeZ λgl Ao apO=>?_)
 have Mt:l7 Θ.w gl:=Θ.base.keeps λb o e=>Ao.1 b o (ahI gJ b o e)
 have hk:Z.scope.kind=.function:=bL.fr.kind;have aQ:Z.kindOf sA=J .globalImplicit:=by show Z.scope.names.lookup _=_;exact G iS aia
 obtain⟨nm,Bf,bs,hdct,sn,sub,ab,col,dd,c0,dv,dy,eT,kJ,dD⟩:=z6 Mt.k;refine tY Ao.first λKa gr aeR IG _ _=>?_
 refine wpAny_handleBy_cons (codeAny_handlers_test (OT Mt.k hk aQ bL.fr.glob (Qo _) (by decide) (wpAny_excMatches_sub_self dD aeR IG (by decide) ?_))) (by intro q;cases q)
 refine codeAny_handlers_suite (wpAny_setFlight_noneW Ao.1 Ao.2.2.1 Ao.2.2.2.at λgH aoI _ _ agg=>?_)
 refine NU (G (exec_Return_some ..) (b4 (GG (b4 (hG (a:=.bool aA) rfl (cK ?_))))));have apP:aZ.UpToSlots gH:=sk.trans (apN.trans (apO.trans λb o e hn=>⟨o.slots,agg b o e hn⟩))
 have T:=apf gJ aoI apP;have hd:=gJ.turned T;have hz:h.objs.size<=gH.objs.size:=by
  refine dS (gJ.frm Z.locals (f8 _ fK)) λ_ alz _=>?_;refine bT alz λo e _=>?_
  exact cm (T.slot _ _ e (f8 _ fK)) λsl cT=>jz (eI (nD _ fK) (gE cT))
 refine⟨af.pure ?_,e2,aP⟩;exact⟨du,H,.bool aA,⟨hd.len,hd.old,hd.low,hd.sep,hd.obj,λb hb=>hd.frm b (f8 _ (f8 _ hb))⟩,((ch.trans ee.wide).outer ext nD).turned gJ T hz,rfl,kt⟩
theorem PI(w:eS)(bp:gv)(h₀:bq)(B:l7 w h₀):∀(n:Nat) (fs:List a1),nZ ⟨w,bp,h₀,B,fs⟩ (5*n+25) (Ea False n)
 |0,fs=>λ_ _ _ _ h=>h.elim
 |n+1,fs=>λf vs H k h=>by
  have h:(if f=917 then Bj False vs H k else tm False (Ea False n) f vs H k):=h
  by_cases q:f=917
  ·rw [aY q] at h;subst q;exact anY (d:=5*(n+1)) h
  ·rw [a8 q] at h;unfold tm at h;cases e:r1 f with
   |none=>rw [e] at h;exact h.elim
   |some st=>
    rw [e] at h;refine cz (Ij w.params e) λa9 c=>?_
    by_cases aQ:vs.length=(fF st).args.length
    ·exact Pq (d:=5*n+25) a9 (λb=>(Tk (PI w bp h₀ B n (b::fs)) 40).2 _ c) aQ (by simpa only [aQ,if_true] using h)
    ·simp only [aQ,if_false] at h
theorem afR{ρ:cq}{vs:List aG}{ns:List Int}(x:IntsAre vs ns):All2 (bg ρ) (ns.map L.int) vs:=by
 induction x with
 |nil=>exact .nil
 |cons n t h ih=>exact .cons ⟨t,rfl⟩ ih
theorem ad2:(frameCount l6.below+l6.code.weight<=301):=by decide+kernel
theorem ad3:(l6.units<=100):=by decide+kernel
theorem ad4:qP l6.code=ae:=by kernel_rfl
theorem ad1:l6.In {depth:=301,units:=100}:=⟨rfl,ad2,(λ_ h=>nomatch h),(λ_ h=>nomatch h),ad3⟩
theorem ad5:∀x∈l6.below,qP x.1=ae:=λx h=>nomatch h
theorem aiV(n:Nat)(h:n<200):bz [] n l6:=by
 refine⟨⟨_,ad1,rfl,?_,?_⟩,ad4,ad5,λZ h=>nomatch h⟩
 ·show 301+2*n<990
  omega
 ·show 100+40*n<9800
  omega
theorem Ba{ay:Type}{a b:ay}{i:Nat}(h:[a][i]? =J b):i=0/\b=a:=by
 induction i using n6 with
 |zero=>obtain rfl:=ci h;exact⟨rfl,rfl⟩
 |succ i=>exact br h
theorem aqM:Ov:=by
 intro w en B bj a vs ns ha hi hn;have C:=PI w en.os en.heap B 13 [] 927 [.new 0] [.scr (ns.map .int)] (λv _=>v=.bool ae) (P.asQ rfl hn λ_=>rfl)
 have lW:fW ⟨w,en.os,en.heap,B,[]⟩ [(a,a)] [.scr (ns.map .int)] en.heap:=by
  refine⟨rfl,λ_ _ e=>e,λi p e q=>absurd (Ba e).1 q,λi j p q e1 e2 jL=>absurd ((Ba e1).1.trans (Ba e2).1.symm) jL,λi p o e1 e2=>?_,λb hb=>nomatch hb⟩
  refine cz (Ba e1) λal6 al7=>?_;obtain rfl:=al6;obtain rfl:=al7
  refine cz (Ba e2) λ_ al8=>?_;obtain rfl:=al8
  exact⟨rfl,vs,ha,afR hi⟩
 refine lJ _ _ _ (λv _ aS y=>?_) (λ_ _ _ y=>y) _ _ (C l6 [(a,a)] en.heap [.ref a] (aiV _ (by decide)) lW (.cons ⟨(a,a),rfl,rfl⟩ .nil) en jQ rfl bj rfl)
 refine dS y λal9 nC o'=>?_;refine tZ al9 λcb bb kb fR _ hv Kt=>?_;obtain rfl:=Kt
 exact⟨hv,fR.old,o',nC⟩
theorem cw:PySem.Challenge.rw_nz0227_01.Holds:=afb aqM
end Mine.Internal
end
theorem PySem.Challenge.cw_nz0227_01_holds : PySem.Challenge.rw_nz0227_01.Holds :=
 Mine.Internal.cw
