import PyProof.Rows.All
import Wide.All
import OpenK.AllK
import Wide.FinOn
import KE.LcSums
import KE.KIntText
import Lean
import PySem.Challenge.RW_nn0098_01
open PySem PySem.W PySem.Spec PySem.Calls PySem.Challenge PyProof.Rows
set_option maxRecDepth 100000
set_option Elab.async false
set_option linter.unusedVariables false
set_option genSizeOf false
set_option genInjectivity false
set_option tactic.hygienic false
set_option bootstrap.genMatcherCode false
namespace Mine.Internal
open _root_.Array renaming getElem?_setIfInBounds_ne->oj
open _root_.Bool renaming true->ac,false->ae,and_eq_true->af,not_eq_true'->aL,or_eq_true->aZ,and_eq_true_iff->bJ,and_false->bY,false_eq_true->cm,false_or->fL,eq_iff_iff->ky,false_ne_true->mW
open _root_.Classical renaming byContradiction->p0
open _root_.Eq renaming mpr->bA
open _root_.False renaming elim->mR
open _root_.ForInStep renaming yield->fc
open _root_.Int renaming le_trans->bx,add_le_add_right->cH,fmod_nonneg_of_pos->dm,fdiv_eq_ediv_of_nonneg->eV,fmod_lt_of_pos->fU,add_assoc->hH,toNat_of_nonneg->iG,ofNat->iX,not_lt->ku,ofNat_lt->pn
open _root_.LawfulBEq renaming eq_of_beq->gz
open _root_.List renaming casesOn->ai,all_eq_true->am,mem_append_right->an,mem_append_left->av,length_append->aw,length_map->az,mem_flatMap->aC,mem_cons->aD,mem_singleton->aF,mem_map->aG,map_inj_left->aH,map_cons->aK,getElem?_eq_some_iff->aP,size_toArray->aT,lookup_cons->aW,isEmpty_iff->aX,append_assoc->a0,append_nil->bf,getElem?_eq_getElem->bg,length_cons->bH,all_append->bQ,zip_cons_cons->cj,all_cons->cn,take_append_drop->cD,map_append->cN,getElem?_append_left->cR,range->cU,forIn_cons->da,mem_map_of_mem->de,mem_of_mem_drop->dM,not_mem_nil->dW,length->dZ,nodup_cons->d9,nil_append->ed,mem_append->ee,getElem?_concat_length->ey,any_eq_true->fb,length_reverse->fj,filterMap_cons->fk,any_cons->fK,mem_range->gi,getElem?_set_self->gj,forIn_nil->gm,mem_of_mem_take->hG,length_set->ip,map_map->iF,nodup_nil->iW,mem_of_find?_eq_some->ja,reverse_cons->ji,lookup->jj,getElem?_map->jk,map_reverse->jK,filter_cons_of_pos->jL,length_zip->kq,length_nil->kr,find?_cons->kt,getElem?_toArray->kA,mem_of_getElem?->lN,rec->oe,map_nil->og,all_map->oh
open _root_.List.cons renaming inj->bj
open _root_.Nat renaming le_of_ble_eq_true->aj,ble->aU,ble_eq_true_of_le->aV,beq->a7,le_refl->a8,eq_of_beq_eq_true->a9,lt_of_lt_of_le->bd,le_trans->bC,casesOn->bN,ne_of_lt->bP,lt_succ_self->bS,ne_of_gt->bX,lt_of_le_of_lt->cV,zero_add->dk,zero_le->dp,le_of_lt->dQ,add_le_add_right->dR,le_succ->eT,le_add_right->fh,lt_succ_of_lt->gr,add_le_add->i4,succ_le_succ->j9,le_of_not_lt->ka,ne_of_beq_eq_false->ko,add_left_cancel->mP,add_le_add_left->mQ,lt_irrefl->mU,succ_add->ph,beq_refl->pi
open _root_.Nat.succ renaming inj->g9
open _root_.Option renaming some->aa,none->ak,map_eq_some_iff->aM,isSome_iff_exists->bu,bind_eq_some_iff->cG,isNone_iff_eq_none->dA,map_some->j8
open _root_.Option.some renaming inj->eL
open _root_.PyProof.Rows renaming callWith_type->mT
open _root_.PySem renaming wpAny_bind->ah,Value->al,Str->ao,Addr->aq,Shared->ax,wpAny_pure->aA,World->aJ,Expr->aY,DictEntry->ba,Around->bc,Heap->bz,wpAny_field->bF,wpAny_holding->bW,OsState->cQ,wpAny_mono->c7,wpAny_loadName_local->dd,Params->dw,wpAny_seqItems->dF,Stmt->dG,Obj->dJ,wpAny_newObj_type->dU,wpAny_callSpecial?_slot->d8,wpAny_setField_rec->er,Scope->eJ,NameKind->eK,wpAny_standAt->gh,IsPair->gt,wpAny_getItem_str_slice->gy,Pos->gA,wpAny_loadPart->g6,getMethod_builtin->g7,wpAny_call_entry->ix,wpAny_call->iy,wpAny_Name->iz,wpAny_setField->jI,Sem->j5,wpAny_execs_nil->mt,post_val_or_str->mu,wpAny_updateSeq_pair->nW,codeAny_call_builtin->nY,Result->n4,IsZip->n6,GenState->n7,wpAny_onRaise->pX,ExceptHandler->pZ
open _root_.PySem.Builtin renaming divisionGoesByPylong->pq
open _root_.PySem.Builtin.Int renaming intBits->gD
open _root_.PySem.Builtin.Range renaming rangeSize->oi
open _root_.PySem.Builtin.SmallTypes renaming nextOf->bL,ownedTupleIsFree->cS,ownedTupleHandOut->iY
open _root_.PySem.Calls renaming callWith_builtin->kb,evalArgs_plain->nX,Name_function_global->n5
open _root_.PySem.Challenge renaming rw_nn0098_01->lj
open _root_.PySem.Code renaming builtin->iI,quiet_builtin->mV
open _root_.PySem.Expr renaming casesOn->be
open _root_.PySem.Heap renaming get?_push_of_some->ay,get?_push_size->aO,lt_size->bp,get?_update_other->cw,size_push->cL,get?_update_self->dy,SameBut->ki,dictOf_iff->kx
open _root_.PySem.NameKind renaming free->cC
open _root_.PySem.Obj renaming mapFields->g8
open _root_.PySem.PyData renaming canLayAll0->eh,keyHash->fW,depthAll->pY
open _root_.PySem.SeqAt renaming shaped->dH
open _root_.PySem.Str renaming ofString->iT
open _root_.PySem.TablesWhole renaming wSs->gq,Alg->mO
open _root_.PySem.Txt renaming slice->a6,lower->fg
open _root_.PySem.Value renaming ref->bZ,none->eI
open _root_.PySem.W renaming Frag->bt,Looks->fE,boot_heap->iA,looks_mroIn->iS,piece_app->li,looks_findIn->l9,SharedT->ma
open _root_.PySem.W.Fast renaming sEq->ag,sEq_iff->aI,tw8326940854005059898->du,tw16421684217811934046->iH,tw14364793385576792824->j6,tw10110043849684766642->j7,tw9446332074065402090->kh
open _root_.PySem.W.Looks renaming of_pure->mv
open _root_.PySem.W.WData renaming int->gM
noncomputable section
section
set_option maxHeartbeats 0
theorem FT:@OpenLaw.wellSaid=@kh:=PySem.W.Fast.te9446332074065402090
theorem XG(A:mO Bool)(hb:A.both=λa b=>a&&b)(top:eJ)(cx:TablesWhole.Ctx)(sc:eJ)(a b:List dG)(h:gq A top cx sc a=ac)(k:gq A top cx sc b=ac):gq A top cx sc (a++b)=ac:=by induction a with
 |nil=>exact k|cons s l ih=>have h1:A.both (TablesWhole.wS A top cx sc s) (gq A top cx sc l)=ac:=h;show A.both (TablesWhole.wS A top cx sc s) (gq A top cx sc (l++b))=ac;rw[hb,af]at h1;rw[hb,h1.1,ih h1.2];rfl
theorem Tx(A:mO Bool)(hb:A.both=λa b=>a&&b)(top:eJ)(cx:TablesWhole.Ctx)(sc:eJ)(n:Nat)(l:List dG)(h:iH A top cx sc (l.take n)=ac)(k:iH A top cx sc (l.drop n)=ac):iH A top cx sc l=ac:=by rw[<-Fast.te16421684217811934046]at h k⊢;have z:=XG A hb top cx sc _ _ h k;rwa[cD]at z
theorem XH(A:mO Bool)(hb:A.both=λa b=>a&&b)(hu:A.unit=ac){x y z:Bool}(hx:x=ac)(hy:y=ac)(hz:z=ac):Fast.tw8308236283776574652 A [x,y,z]=ac:=by show A.both x (A.both y (A.both z A.unit))=ac;rw[hb,hu,hx,hy,hz];rfl
theorem LY:Fast.tw8377067652309620493 (Fast.tw2368527892694137696 Challenge.rw_nn0098_01).prog=ac:=by delta Fast.tw8377067652309620493 Fast.tw6116379765354995101;refine XH _ rfl rfl rfl rfl (Tx _ rfl _ _ _ 60 _ ?_ (Tx _ rfl _ _ _ 60 _ ?_ (Tx _ rfl _ _ _ 50 _ ?_ ?_)));all_goals decide+kernel
theorem X4(k:Look)(a b:List dG)(h:noRoadLSs k a=ac)(h2:noRoadLSs k b=ac):noRoadLSs k (a++b)=ac:=by induction a with
 |nil=>exact h2|cons s l ih=>have h1:(noRoadLS k s&&noRoadLSs k l)=ac:=h;show(noRoadLS k s&&noRoadLSs k (l++b))=ac;rw[af]at h1;rw[h1.1,ih h1.2];rfl
theorem Ui(k:Look)(n:Nat)(l:List dG)(h:du k (l.take n)=ac)(h2:du k (l.drop n)=ac):du k l=ac:=by rw[<-Fast.te8326940854005059898]at h h2⊢;have z:=X4 k _ _ h h2;rwa[cD]at z
theorem Pn{s s':Bool}{b b':List ao}(e1:s=s')(e2:b=b'){l:List dG}(h:du {strict:=s',foot:=ak,bare:=b'} l=ac):du {strict:=s,foot:=ak,bare:=b} l=ac:=e1▸e2▸h
theorem Vc{α:Type}{f:α->Bool}{a b c:α}(h1:f a=ae)(h2:f b=ae)(h3:f c=ae):R.filterR f [a,b,c]=[]:=by simp[R.filterR,h1,h2,h3]
theorem Uw{b:Bool}(h:b=ac):(!b)=ae:=by rw[h];rfl
theorem T8:lj.wellSaid=ac:=by
  rw[FT];unfold kh;repeat'(with_reducible refine look_both ?_ ?_)
  · unfold PySem.W.Fast.tw17960256430627541270;unfold PySem.W.Fast.tw2436336058641802641 PySem.W.Fast.tw12908688711261696721;repeat'(with_reducible refine look_both ?_ ?_)
    ·decide+kernel
    ·decide+kernel
    ·exact LY
    ·decide+kernel
    ·exact Pn (Uw (by decide+kernel)) (Vc (by decide+kernel) (by decide+kernel) (by decide+kernel)) (Ui _ 60 _ (by decide+kernel) (Ui _ 60 _ (by decide+kernel) (Ui _ 50 _ (by decide+kernel) (by decide+kernel))))
    all_goals decide+kernel
  all_goals decide+kernel
end
theorem xK{P:Prop}(h:∀G:Prop,(P->G)->G):P:=h P id
theorem qu{m a d:Int}(h:decide (a<=d)=ac):m+a<=m+d:=Int.add_le_add_left (of_decide_eq_true h) m
theorem pH{m a b d:Int}(h:decide (a+b<=d)=ac):m+a+b<=m+d:=(hH m a b).symm▸qu h
theorem yV{m a b c d:Int}(h:decide (a+b+c<=d)=ac):m+a+b+c<=m+d:=(hH m a b).symm▸pH (a:=a+b) h
theorem tQ{m a b c e d:Int}(h:decide (a+b+c+e<=d)=ac):m+a+b+c+e<=m+d:=(hH m a b).symm▸yV (a:=a+b) h
theorem AR{m a b c e f d:Int}(h:decide (a+b+c+e+f<=d)=ac):m+a+b+c+e+f<=m+d:=(hH m a b).symm▸tQ (a:=a+b) h
theorem yU{m a b c e f g d:Int}(h:decide (a+b+c+e+f+g<=d)=ac):m+a+b+c+e+f+g<=m+d:=(hH m a b).symm▸AR (a:=a+b) h
theorem Zt{m a b c e f g i d:Int}(h:decide (a+b+c+e+f+g+i<=d)=ac):m+a+b+c+e+f+g+i<=m+d:=(hH m a b).symm▸yU (a:=a+b) h
theorem iZ{m d:Int}(h:decide (0<=d)=ac):m<=m+d:=Int.le_add_of_nonneg_right (of_decide_eq_true h)
theorem yW{m M d:Int}(k:m+d<=M)(h:decide (0<=d)=ac):m<=M:=bx (iZ h) k
theorem Jo{m M a d:Int}(k:m+d<=M)(h:decide (a<=d)=ac):m+a<=M:=bx (qu h) k
theorem At{m M a b d:Int}(k:m+d<=M)(h:decide (a+b<=d)=ac):m+a+b<=M:=bx (pH h) k
theorem Jn{m M a b c d:Int}(k:m+d<=M)(h:decide (a+b+c<=d)=ac):m+a+b+c<=M:=bx (yV h) k
theorem Zv{m M a b c e d:Int}(k:m+d<=M)(h:decide (a+b+c+e<=d)=ac):m+a+b+c+e<=M:=bx (tQ h) k
theorem Od{m M a b c:Int}(k:M<=m+a)(h:decide (a+b<=c)=ac):M+b<=m+c:=bx (cH k b) (pH h)
theorem Te{m M a b c d:Int}(k:M<=m+a)(h:decide (a+b+c<=d)=ac):M+b+c<=m+d:=bx (cH (cH k b) c) (yV h)
theorem Zs{m M a b c e d:Int}(k:M<=m+a)(h:decide (a+b+c+e<=d)=ac):M+b+c+e<=m+d:=bx (cH (cH (cH k b) c) e) (tQ h)
theorem Oe{m a b:Int}(k:a<=m)(h:decide (b<=a)=ac):b<=m:=bx (of_decide_eq_true h) k
theorem nT{m a b:Nat}(k:m<=a)(h:aU a b=ac):m<=b:=bC k (aj h)
theorem nR{m a b c:Nat}(k:m<=a)(h:aU (a+c) b=ac):m+c<=b:=bC (dR k c) (aj h)
theorem nL{m a b c:Nat}(k:m<=a)(h:aU (c+a) b=ac):c+m<=b:=bC (mQ k c) (aj h)
theorem Uz{m a b c d:Nat}(k:m<=a)(h:aU (a+c+d) b=ac):m+c+d<=b:=bC (dR (dR k c) d) (aj h)
theorem nA{m a b n c:Nat}(k:m<=a)(l:n<=c)(h:aU (a+c) b=ac):m+n<=b:=bC (i4 k l) (aj h)
theorem Yh{m a b n c o d:Nat}(k:m<=a)(l:n<=c)(p:o<=d)(h:aU (a+c+d) b=ac):m+n+o<=b:=bC (i4 (i4 k l) p) (aj h)
theorem W0{m a b n c d:Nat}(k:m<=a)(l:n<=c)(h:aU (a+d+c) b=ac):m+d+n<=b:=bC (i4 (dR k d) l) (aj h)
theorem Yg{m a b n c d:Nat}(k:m<=a)(l:n<=c)(h:aU (a+c+d) b=ac):m+n+d<=b:=bC (dR (i4 k l) d) (aj h)
theorem iB{w a b:Int}(k:a<=w)(l:w<b)(h:decide (-9223372036854775808<=a)=ac)(j:decide (b<=9223372036854775809)=ac):-9223372036854775808<=w/\w<=9223372036854775808:=⟨bx (of_decide_eq_true h) k,Int.le_of_lt_add_one (Int.lt_of_lt_of_le l (of_decide_eq_true j))⟩
theorem nS{N a b:Nat}(h:Nat.blt a b=ac):N+a<N+b:=Nat.add_lt_add_left (aj h) N
theorem S2{N b:Nat}(h:Nat.blt 0 b=ac):N<N+b:=Nat.add_lt_add_left (aj h) N
theorem nN{N a b:Nat}(h:a7 a b=ae):¬N+a=N+b:=λe=>ko h (mP e)
theorem UA{N a:Nat}(h:a7 a 0=ae):¬N+a=N:=λe=>ko h (mP (m:=a) (k:=0) e)
theorem Ye{N a:Nat}(h:a7 a 0=ae):¬N=N+a:=λe=>ko h (mP (m:=a) (k:=0) e.symm)
theorem bD{a D d:Nat}(h:a+4*D<990)(e:D=d+1):a+4*d<990:=cV (mQ (Nat.mul_le_mul_left 4 (eT d)) a) (by subst e;exact h)
theorem bU{a D d:Nat}(h:a+16*D+200<9900)(e:D=d+1):a+16*d+200<9900:=cV (dR (mQ (Nat.mul_le_mul_left 16 (eT d)) a) 200) (by subst e;exact h)
theorem nQ{N x k:Nat}(h:x<=k)(d:aU (k+25) N=ac):N=N-x-25+x+25:=by show N=N-x-25+(x+25);rw[Nat.sub_sub];exact(Nat.sub_add_cancel (nR h d)).symm
theorem sL{w a b c:Int}(k:a<=w)(h:decide (b<=a-c)=ac):b<=w-c:=bx (of_decide_eq_true h) (Int.sub_le_sub_right k c)
theorem sU{w a b c:Int}(k:w<=a)(h:decide (a-c<=b)=ac):w-c<=b:=bx (Int.sub_le_sub_right k c) (of_decide_eq_true h)
theorem pL{w a b c:Int}(k:a<=w)(h:decide (b<=a+c)=ac):b<=w+c:=bx (of_decide_eq_true h) (cH k c)
theorem pU{w a b c:Int}(k:w<=a)(h:decide (a+c<=b)=ac):w+c<=b:=bx (cH k c) (of_decide_eq_true h)
theorem qL{w a b c:Int}(k:w<=a)(h:decide (b<=c-a)=ac):b<=c-w:=bx (of_decide_eq_true h) (Int.sub_le_sub_left k c)
theorem qU{w a b c:Int}(k:a<=w)(h:decide (c-a<=b)=ac):c-w<=b:=bx (Int.sub_le_sub_left k c) (of_decide_eq_true h)
theorem Yw{w a b:Int}(k:a<=w)(h:decide (b<=a)=ac):b<=w:=bx (of_decide_eq_true h) k
theorem Yv{w a b:Int}(k:w<=a)(h:decide (a<=b)=ac):w<=b:=bx k (of_decide_eq_true h)
theorem Zu{w:Int}{a:Int}{n:Nat}(k:0<=w)(l:w<=a)(h:decide (a<(n:Int))=ac):w.natAbs<n:=pn.mp ((Int.natAbs_of_nonneg k).symm▸Int.lt_of_le_of_lt l (of_decide_eq_true h))
theorem nI{a b:Nat}(h:(a:Int)<b):a<b:=pn.mp h
theorem nJ{a b:Nat}(h:a<b):(a:Int)<b:=pn.mpr h
theorem nK{a n b c:Nat}(e:a=n)(l:n<=b)(h:decide ((b:Int)<c)=ac):(a:Int)<c:=Int.lt_of_le_of_lt (Int.ofNat_le.mpr (e▸l)) (of_decide_eq_true h)
theorem nC{a b n:Nat}(h:a+(b+1)<=n):a+1+b<=n:=(Nat.add_right_comm a 1 b)▸h
theorem nZ{x k:Nat}(h:x<=k)(d:aU k 1000000=ac):(0:Int)<=0/\(0:Int)<=1000000/\(0:Int)<=(x:Int)/\(x:Int)<=1000000:=⟨Int.le_refl 0,by decide,Int.natCast_nonneg x,Int.ofNat_le.mpr (nT h d)⟩
theorem Zh{a b D d:Nat}(h:a+4*D<990)(e:D=d+1)(l:b<=a+1):b+4*d<990:=by lia
theorem Zg{a b D d:Nat}(h:a+16*D+200<9900)(e:D=d+1)(l:b<=a+4):b+16*d+200<9900:=by lia
theorem bn{b:Type}{a:b}{C:Prop}(h:ak=aa a):C:=nomatch h
theorem us{b:Type}{a:b}{C:Prop}(h:aa a=ak):C:=nomatch h
theorem cy{C:Prop}(h:ae=ac):C:=nomatch h
theorem mX{C:Prop}(h:ac=ae):C:=nomatch h
theorem bB{p q C:Prop}(h:p/\q)(k:p->q->C):C:=k h.1 h.2
theorem fi{p q r C:Prop}(h:p/\q/\r)(k:p->q->r->C):C:=k h.1 h.2.1 h.2.2
theorem N3{p q r s C:Prop}(h:p/\q/\r/\s)(k:p->q->r->s->C):C:=k h.1 h.2.1 h.2.2.1 h.2.2.2
theorem N2{p q r s t C:Prop}(h:p/\q/\r/\s/\t)(k:p->q->r->s->t->C):C:=k h.1 h.2.1 h.2.2.1 h.2.2.2.1 h.2.2.2.2
theorem Ws{p q r s t u C:Prop}(h:p/\q/\r/\s/\t/\u)(k:p->q->r->s->t->u->C):C:=k h.1 h.2.1 h.2.2.1 h.2.2.2.1 h.2.2.2.2.1 h.2.2.2.2.2
theorem Tv{p q r s t u v C:Prop}(h:p/\q/\r/\s/\t/\u/\v)(k:p->q->r->s->t->u->v->C):C:=k h.1 h.2.1 h.2.2.1 h.2.2.2.1 h.2.2.2.2.1 h.2.2.2.2.2.1 h.2.2.2.2.2.2
theorem Wr{p q r s t u v w C:Prop}(h:p/\q/\r/\s/\t/\u/\v/\w)(k:p->q->r->s->t->u->v->w->C):C:=k h.1 h.2.1 h.2.2.1 h.2.2.2.1 h.2.2.2.2.1 h.2.2.2.2.2.1 h.2.2.2.2.2.2.1 h.2.2.2.2.2.2.2
theorem Wq{p q r s t u v w y C:Prop}(h:p/\q/\r/\s/\t/\u/\v/\w/\y)(k:p->q->r->s->t->u->v->w->y->C):C:=k h.1 h.2.1 h.2.2.1 h.2.2.2.1 h.2.2.2.2.1 h.2.2.2.2.2.1 h.2.2.2.2.2.2.1 h.2.2.2.2.2.2.2.1 h.2.2.2.2.2.2.2.2
theorem aQ{b:Type}{p:b->Prop}{C:Prop}(h:∃a,p a)(k:∀a,p a->C):C:=h.elim λa h=>k a h
theorem aE{b:Type}{p q:b->Prop}{C:Prop}(h:∃a,p a/\q a)(k:∀a,p a->q a->C):C:=h.elim λa h=>k a h.1 h.2
theorem cz{b:Type}{p q r:b->Prop}{C:Prop}(h:∃a,p a/\q a/\r a)(k:∀a,p a->q a->r a->C):C:=h.elim λa h=>k a h.1 h.2.1 h.2.2
theorem xP{b:Type}{p q r s:b->Prop}{C:Prop}(h:∃a,p a/\q a/\r a/\s a)(k:∀a,p a->q a->r a->s a->C):C:=h.elim λa h=>k a h.1 h.2.1 h.2.2.1 h.2.2.2
theorem ej{c β:Type}{p:c->β->Prop}{C:Prop}(h:∃a b,p a b)(k:∀a b,p a b->C):C:=h.elim λa h=>h.elim λb h=>k a b h
theorem c8{c β:Type}{p q:c->β->Prop}{C:Prop}(h:∃a b,p a b/\q a b)(k:∀a b,p a b->q a b->C):C:=h.elim λa h=>h.elim λb h=>k a b h.1 h.2
theorem fY{c β:Type}{p q r:c->β->Prop}{C:Prop}(h:∃a b,p a b/\q a b/\r a b)(k:∀a b,p a b->q a b->r a b->C):C:=h.elim λa h=>h.elim λb h=>k a b h.1 h.2.1 h.2.2
theorem qC{c β:Type}{p q r s:c->β->Prop}{C:Prop}(h:∃a b,p a b/\q a b/\r a b/\s a b)(k:∀a b,p a b->q a b->r a b->s a b->C):C:=h.elim λa h=>h.elim λb h=>k a b h.1 h.2.1 h.2.2.1 h.2.2.2
theorem se{c β:Type}{p q r s t:c->β->Prop}{C:Prop}(h:∃a b,p a b/\q a b/\r a b/\s a b/\t a b)(k:∀a b,p a b->q a b->r a b->s a b->t a b->C):C:=h.elim λa h=>h.elim λb h=>k a b h.1 h.2.1 h.2.2.1 h.2.2.2.1 h.2.2.2.2
theorem pv{d β e:Type}{p:d->β->e->Prop}{C:Prop}(h:∃a b c,p a b c)(k:∀a b c,p a b c->C):C:=h.elim λa h=>h.elim λb h=>h.elim λc h=>k a b c h
theorem d0{d β e:Type}{p q:d->β->e->Prop}{C:Prop}(h:∃a b c,p a b c/\q a b c)(k:∀a b c,p a b c->q a b c->C):C:=h.elim λa h=>h.elim λb h=>h.elim λc h=>k a b c h.1 h.2
theorem kB{d β e:Type}{p q r:d->β->e->Prop}{C:Prop}(h:∃a b c,p a b c/\q a b c/\r a b c)(k:∀a b c,p a b c->q a b c->r a b c->C):C:=h.elim λa h=>h.elim λb h=>h.elim λc h=>k a b c h.1 h.2.1 h.2.2
theorem hY{d β e:Type}{p q r s:d->β->e->Prop}{C:Prop}(h:∃a b c,p a b c/\q a b c/\r a b c/\s a b c)(k:∀a b c,p a b c->q a b c->r a b c->s a b c->C):C:=h.elim λa h=>h.elim λb h=>h.elim λc h=>k a b c h.1 h.2.1 h.2.2.1 h.2.2.2
theorem Ot{d β e:Type}{p q r s t:d->β->e->Prop}{C:Prop}(h:∃a b c,p a b c/\q a b c/\r a b c/\s a b c/\t a b c)(k:∀a b c,p a b c->q a b c->r a b c->s a b c->t a b c->C):C:=h.elim λa h=>h.elim λb h=>h.elim λc h=>k a b c h.1 h.2.1 h.2.2.1 h.2.2.2.1 h.2.2.2.2
theorem xN{d β e:Type}{p q r s t u:d->β->e->Prop}{C:Prop}(h:∃a b c,p a b c/\q a b c/\r a b c/\s a b c/\t a b c/\u a b c)(k:∀a b c,p a b c->q a b c->r a b c->s a b c->t a b c->u a b c->C):C:=h.elim λa h=>h.elim λb h=>h.elim λc h=>k a b c h.1 h.2.1 h.2.2.1 h.2.2.2.1 h.2.2.2.2.1 h.2.2.2.2.2
theorem xM{e β f g:Type}{p:e->β->f->g->Prop}{C:Prop}(h:∃a b c d,p a b c d)(k:∀a b c d,p a b c d->C):C:=h.elim λa h=>h.elim λb h=>h.elim λc h=>h.elim λd h=>k a b c d h
theorem ut{e β f g:Type}{p q:e->β->f->g->Prop}{C:Prop}(h:∃a b c d,p a b c d/\q a b c d)(k:∀a b c d,p a b c d->q a b c d->C):C:=h.elim λa h=>h.elim λb h=>h.elim λc h=>h.elim λd h=>k a b c d h.1 h.2
theorem pt{e β f g:Type}{p q r:e->β->f->g->Prop}{C:Prop}(h:∃a b c d,p a b c d/\q a b c d/\r a b c d)(k:∀a b c d,p a b c d->q a b c d->r a b c d->C):C:=h.elim λa h=>h.elim λb h=>h.elim λc h=>h.elim λd h=>k a b c d h.1 h.2.1 h.2.2
theorem xL{e β f g:Type}{p q r s:e->β->f->g->Prop}{C:Prop}(h:∃a b c d,p a b c d/\q a b c d/\r a b c d/\s a b c d)(k:∀a b c d,p a b c d->q a b c d->r a b c d->s a b c d->C):C:=h.elim λa h=>h.elim λb h=>h.elim λc h=>h.elim λd h=>k a b c d h.1 h.2.1 h.2.2.1 h.2.2.2
theorem Oq{f β g i j:Type}{p q:f->β->g->i->j->Prop}{C:Prop}(h:∃a b c d e,p a b c d e/\q a b c d e)(k:∀a b c d e,p a b c d e->q a b c d e->C):C:=h.elim λa h=>h.elim λb h=>h.elim λc h=>h.elim λd h=>h.elim λe h=>k a b c d e h.1 h.2
theorem Im{f β g i j:Type}{p q r:f->β->g->i->j->Prop}{C:Prop}(h:∃a b c d e,p a b c d e/\q a b c d e/\r a b c d e)(k:∀a b c d e,p a b c d e->q a b c d e->r a b c d e->C):C:=h.elim λa h=>h.elim λb h=>h.elim λc h=>h.elim λd h=>h.elim λe h=>k a b c d e h.1 h.2.1 h.2.2
theorem AW{g β i j l m:Type}{p q:g->β->i->j->l->m->Prop}{C:Prop}(h:∃a b c d e f,p a b c d e f/\q a b c d e f)(k:∀a b c d e f,p a b c d e f->q a b c d e f->C):C:=h.elim λa h=>h.elim λb h=>h.elim λc h=>h.elim λd h=>h.elim λe h=>h.elim λf h=>k a b c d e f h.1 h.2
theorem cM{c β:Type}{p:c->β->Prop}(a:c)(b:β)(h:p a b):∃a b,p a b:=⟨a,b,h⟩
theorem dB{d β e:Type}{p:d->β->e->Prop}(a:d)(b:β)(c:e)(h:p a b c):∃a b c,p a b c:=⟨a,b,c,h⟩
theorem mS{e β f g:Type}{p:e->β->f->g->Prop}(a:e)(b:β)(c:f)(d:g)(h:p a b c d):∃a b c d,p a b c d:=⟨a,b,c,d,h⟩
theorem Il{f β g i j:Type}{p:f->β->g->i->j->Prop}(a:f)(b:β)(c:g)(d:i)(e:j)(h:p a b c d e):∃a b c d e,p a b c d e:=⟨a,b,c,d,e,h⟩
theorem Op{g β i j k l:Type}{p:g->β->i->j->k->l->Prop}(a:g)(b:β)(c:i)(d:j)(e:k)(f:l)(h:p a b c d e f):∃a b c d e f,p a b c d e f:=⟨a,b,c,d,e,f,h⟩
theorem XF{i β j k l m n:Type}{p:i->β->j->k->l->m->n->Prop}(a:i)(b:β)(c:j)(d:k)(e:l)(f:m)(g:n)(h:p a b c d e f g):∃a b c d e f g,p a b c d e f g:=⟨a,b,c,d,e,f,g,h⟩
theorem xO{a:Type}(o:Option a){C:Prop}(h:o=ak->C)(k:∀v,o=aa v->C):C:=by induction o with
 |none=>exact h rfl|some v=>exact k v rfl
theorem xB(b:Bool){C:Prop}(h:b=ae->C)(k:b=ac->C):C:=by induction b with
 |false=>exact h rfl|true=>exact k rfl
inductive BI where|len|abs|any|list|tuple|str|int|range|zip
inductive V where|none|bool(b:Bool)|int(i:Int)|str(s:ao)|ref(a:aq)|bi(b:BI)|tup(l:List V)|lst(l:List V)|inst(C:aq)(fs:List (ao×V))|dict(l:List (V×V))|any|ptr(i:Nat)|exc(C:aq)|FY(a b:Int)
inductive Cell where|lst(r:Bool)(l:List V)|inst(C:aq)(fs:List (ao×V))|dict(l:List (V×V))|dead(v:V)|ch(x:V)
inductive Arg where|v(v:V)|c(c:Cell)
inductive b0 where|v(v:V)|fresh(r:Bool)(l:List V)
inductive Fl where|next|brk|cont|ret(v:V)
abbrev Vs:=List (ao×V)
abbrev Cs:=List Cell
structure Loc where
 env:Vs
 sc:eJ
 lf:Bool
abbrev aS:=Bool->List Arg->(Cs->b0->Prop)->(aq->Prop)->Prop
abbrev Spec:=Bool->aq->List Arg->(Cs->b0->Prop)->(aq->Prop)->Prop
abbrev XP:=aq->Cs->Prop
abbrev XS:=aq->Vs->Cs->Prop
structure Fn where
 params:List ao
 pO:List V
 body:List dG
 scope:eJ
 keep:Option Bool
inductive Kind where|plain|keep|exc
structure JX where
 init:aq
 kind:Kind
 loose:List ao
structure PG where
 glob:ao->Option V
 fn:aq->Option Fn
 cls:aq->Option JX
 meth:aq->ao->Option aq
 sub:aq->aq->Bool
 field:aq->ao->Bool
 cur:aq
def gd(b:Bool)(A:Prop):Prop:=@Bool.rec (λz9=>Prop) False A b
def br(b:Bool)(A B:Prop):Prop:=@Bool.rec (λz9=>Prop) B A b
def cd{α:Type}(b:Bool)(x y:α):α:=@Bool.rec (λz9=>α) y x b
def wp{α:Type}(o:Option α)(Q:α->Prop):Prop:=@Option.rec α (λz9=>Prop) False Q o
noncomputable def jT(v:Kind):Bool:=by cases v with
 |exc=>exact ac|_=>exact ae
def cK(P:PG)(C:aq):Bool:=match P.cls C with
 |aa k=>jT k.kind|ak=>ae
def iv{α:Type}(x:ao)(l:List (ao×α)):Option α:=@oe (ao×α) (λz9=>Option α) ak (λp z9 r=>cd (ag x p.1) (aa p.2) r) l
def kj(x:ao)(v:V)(l:Vs):Vs:=@oe (ao×V) (λz9=>Vs) [(x,v)] (λp t r=>cd (ag p.1 x) ((p.1,v)::t) (p::r)) l
def fG(C:aq):List ao:=cd (a7 C 631) ["number"] (cd (a7 C 723) ["by_code"] [])
def qd(x:ao)(l:List ao):Bool:=@oe ao (λz9=>Bool) ae (λy z9 r=>cd (ag x y) ac r) l
noncomputable def fits(n:Nat):Bool:=aU n 1000000
noncomputable def pG(v:V):Bool:=by cases v with
 |ptr _=>exact ac|_=>exact ae
noncomputable def gG(v:V):Bool:=by cases v with
 |str _=>exact ac|int _=>exact ac|_=>exact ae
def pN{α β:Type}(f:α->Cs->(β->Cs->Prop)->Prop):List α->Cs->(List β->Cs->Prop)->Prop
 |[],cs,k=>k [] cs|x::xs,cs,k=>f x cs λy cs=>pN f xs cs λys cs=>k (y::ys) cs
def MP(f:V->Cs->(V->Cs->Prop)->Prop)(lo:List ao)(p:ao×V)(cs:Cs)(k:ao×V->Cs->Prop):Prop:=br (qd p.1 lo) (k (p.1,.any) cs) (f p.2 cs λv cs=>k (p.1,v) cs)
def Rb(f:V->Cs->(V->Cs->Prop)->Prop)(p:V×V)(cs:Cs)(k:V×V->Cs->Prop):Prop:=f p.2 cs λv cs=>k (p.1,v) cs
def Rc(f:V->Cs->(V->Cs->Prop)->Prop)(i:Nat)(c:Cell)(cs:Cs)(k:V->Cs->Prop):Prop:=match c with
 |.dead v=>k v cs|.lst _ l=>k (.lst l) (cs.set i (.dead (.lst l)))|.inst C fs=>pN (MP f (fG C)) fs (cs.set i (.dead .any)) λfs cs=>k (.inst C fs) (cs.set i (.dead (.inst C fs)))|.dict l=>gd (l.all λp=>gG p.1) (pN (Rb f) l (cs.set i (.dead .any)) λl cs=>k (.dict l) (cs.set i (.dead (.dict l))))|.ch _=>False
def U8(f:Nat->Cs->(V->Cs->Prop)->Prop)(v:V)(cs:Cs)(k:V->Cs->Prop):Prop:=match v with
 |.ptr i=>f i cs k|v=>k v cs
def U9:Nat->V->Cs->(V->Cs->Prop)->Prop
 |0=>λz9 z9 z9=>False|n+1=>U8 λi cs k=>wp cs[i]? λc=>Rc (U9 n) i c cs k
def l8:V->Cs->(V->Cs->Prop)->Prop:=U9 5
def nf(c:Cell)(cs:Cs)(Q:V->Cs->Prop):Prop:=Q (.ptr cs.length) (cs++[c])
noncomputable def seen:Option Cell->V
 |aa (.dead v)=>v|aa (.lst _ l)=>.lst l|aa (.inst C fs)=>.inst C fs|aa (.dict l)=>.dict l|_=>.any
def view(cs:Cs):V->V
 |.ptr i=>seen cs[i]?|v=>v
mutual noncomputable def toD:V->Option PyData
 |.none=>aa .none|.bool b=>aa (.bool b)|.int i=>aa (.int i)|.str s=>aa (.str s)|.tup l=>(lV l).map .tuple|.lst l=>(lV l).map .list|_=>ak noncomputable def lV:List V->Option (List PyData)
 |[]=>aa []|v::vs=>match toD v with
  |aa d=>(lV vs).map (d::·)|ak=>ak end
def uB(a b:V)(Q:Bool->Prop):Prop:=wp (toD a) λd=>wp (toD b) λe=>gd (dH d&&dH e) (Q (d.eqv e))
noncomputable def bO(x:ao):Bool:=x.cps.toList.all λc=>Nat.blt c 0x110000
noncomputable def dX(v:V):Option ao:=by cases v with
 |str s=>exact aa s|_=>exact ak
noncomputable def fu(v:V):Option Int:=by cases v with
 |int i=>exact aa i|_=>exact ak
def wP(v:V):Bool:=match dX v with
 |aa s=>bO s|ak=>ae
def dj(x:ao)(v:V):Bool:=match dX v with
 |aa s=>ag s x|ak=>ae
def jS(v:V):Bool:=(dX v).isSome
def intsOf:List V->Option (List Int)
 |[]=>aa []|v::r=>match fu v with
  |aa i=>(intsOf r).map (i::·)|ak=>ak
noncomputable def tN:List Int->List Int->Bool
 |[],[]=>ac|a::l,b::m=>decide (a=b)&&tN l m|_,_=>ae
inductive Key where|str(s:ao)|int(i:Int)|tup(l:List Int)
def keyOf(v:V):Option Key:=by cases v with
 |str s=>exact aa (.str s)|int i=>exact aa (.int i)|tup l=>exact(intsOf l).map .tup|_=>exact ak
noncomputable def Key.v:Key->V
 |.str s=>.str s|.int i=>.int i|.tup l=>.tup (l.map .int)
def Key.is:Key->V->Option Bool
 |.str s,v=>(dX v).map λt=>ag t s|.int i,v=>(fu v).map λj=>decide (j=i)|.tup l,v=>match v with
  |.tup m=>(intsOf m).map λm=>tN m l|_=>ak
def eY(k:Key)(l:List (V×V)):Option (Option V):=@oe (V×V) (λz9=>Option (Option V)) (aa ak) (λp z9 r=>match k.is p.1with
 |aa b=>cd b (aa (aa p.2)) r|ak=>ak) l
def putK(k:Key)(v:V)(l:List (V×V)):Option (List (V×V)):=@oe (V×V) (λz9=>Option (List (V×V))) (aa [(k.v,v)]) (λp t r=>match k.is p.1with
 |aa b=>cd b (aa ((p.1,v)::t)) (r.map (p::·))|ak=>ak) l
def om(v:V)(Q:Bool->Prop):Prop:=match v with
 |.none=>Q ae|.bool b=>Q b|.int i=>Q (i !=0)|.str s=>gd (fits s.length) (Q (s.length !=0))|.lst l=>gd (fits l.length) (Q (l.length !=0))|.tup l=>gd (fits l.length) (Q (l.length !=0))|_=>False
def L4(v:V)(l:List V)(Q:Bool->Prop):Prop:=wp (toD v) λd=>wp (lV l) λxs=>gd (eh xs&&d.canLay0&&decide (d.depth<=64)) (Q (xs.any λy=>y.eqv d))
def idxOf(v:ao):Nat->List V->Option Nat
 |_,[]=>ak|n,x::xs=>match dX x with
  |aa s=>cd (ag s v) (aa n) (idxOf v (n+1) xs)|ak=>ak
def m8(v:ao):List V->Option (List V)
 |[]=>ak|x::xs=>match dX x with
  |aa s=>cd (ag s v) (aa xs) ((m8 v xs).map (x::·))|ak=>ak
noncomputable def FF(l:List Nat):V:=.str ⟨l.toArray⟩
def chars(s:ao):List V:=s.cps.toList.map λc=>FF [c]
noncomputable def small(i:Int):Bool:=decide (i.natAbs<2^4000)
noncomputable def gF(i:Int):Bool:=decide (i.natAbs<2^1900)
def OB(op:Operator)(a b:Int)(Q:V->Prop):Prop:=by cases op with
 |Add=>exact Q (.int (a+b))|Sub=>exact Q (.int (a-b))|Mult=>exact gd (small a&&small b) (Q (.int (a*b)))|FloorDiv=>exact gd (decide (b≠0)&&small b) (Q (.int (a.fdiv b)))|Mod=>exact gd (decide (b≠0)) (Q (.int (a.fmod b)))|LShift=>exact gd (decide (0<=b/\b<=1000000/\a.natAbs<2^64)) (Q (.int (a*2^b.toNat)))|RShift=>exact gd (decide (0<=b)) (Q (.int (a.fdiv (2^b.toNat))))|Pow=>exact gd (decide (0<=b/\b<=1000000/\a.natAbs<2^64)) (Q (.int (a^b.toNat)))|BitAnd=>exact Q (.int (Builtin.bitAnd a b))|BitOr=>exact Q (.int (Builtin.bitOr a b))|BitXor=>exact Q (.int (Builtin.bitXor a b))|_=>exact False
noncomputable def isAdd(v:Operator):Bool:=by cases v with
 |Add=>exact ac|_=>exact ae
noncomputable def nG(v:V):Option (List V):=by cases v with
 |lst l=>exact aa l|_=>exact ak
def sY(op:Operator)(a b:V)(cs:Cs)(Q:V->Cs->Prop):Prop:=by cases a with
 |int x=>exact wp (fu b) λy=>OB op x y λv=>Q v cs|str x=>exact wp (dX b) λy=>gd (isAdd op) (gd (fits (x.length+y.length)) (Q (.str (x++y)) cs))|lst x=>exact wp (nG b) λy=>gd (isAdd op) (gd (fits (x.length+y.length)) (nf (.lst ae (x++y)) cs Q))|_=>exact False
def uA(a b:V)(Q:Int->Int->Prop):Prop:=wp (fu a) λx=>wp (fu b) λy=>Q x y
def Ty(a b:V)(Q:Bool->Prop):Prop:=by cases b with
 |none=>exact(match a with
  |.none=>Q ac|.any=>False|.ptr _=>False|.ref _=>False|.bi _=>False|.exc _=>False|.FY _ _=>False|_=>Q ae)|_=>exact False
noncomputable def P6:V->Bool
 |.lst l=>l.isEmpty|_=>ae
def SF(a b:V)(Q:Bool->Prop):Prop:=match a with
 |.str x=>(match b with
  |.str y=>gd (bO x&&bO y) (Q (ag x y))|b=>uB (.str x) b Q)|.lst x=>(match P6 b with
  |ac=>gd (fits x.length) (Q x.isEmpty)|ae=>uB (.lst x) b Q)|a=>uB a b Q
def J2(a:V)(l:List V)(Q:Bool->Prop):Prop:=match a with
 |.str x=>gd (bO x&&l.all wP) (Q (l.any (dj x)))|a=>L4 a l Q
def SE(a b:V)(Q:Bool->Prop):Prop:=match b with
 |.str y=>wp (dX a) λx=>Q (PySem.Txt.contains y x)|.tup l=>J2 a l Q|.lst l=>J2 a l Q|.dict l=>(match a with
  |.str x=>gd (l.all λp=>jS p.1) (Q (l.any λp=>dj x p.1))|a=>wp (keyOf a) λk=>wp (eY k l) λo=>Q o.isSome)|_=>False
def E7(op:CmpOp)(a b:V)(Q:Bool->Prop):Prop:=match op with
 |.Eq=>SF a b Q|.NotEq=>SF a b λq=>Q (!q)|.Lt=>uA a b λx y=>Q (decide (x<y))|.LtE=>uA a b λx y=>Q (decide (x<=y))|.Gt=>uA a b λx y=>Q (decide (y<x))|.GtE=>uA a b λx y=>Q (decide (y<=x))|.Is=>Ty a b Q|.IsNot=>Ty a b λq=>Q (!q)|.In=>SE a b Q|.NotIn=>SE a b λq=>Q (!q)
def Iq(op:UnaryOp)(a:V)(Q:V->Prop):Prop:=by cases op with
 |USub=>exact wp (fu a) λx=>Q (.int (-x))|Not=>exact om a λb=>Q (.bool (!b))|_=>exact False
def itemAt(l:List V)(i:Int):Option V:=cd (fits l.length) (match seqIndex? i l.length with
 |aa j=>l[j]?|ak=>ak) ak
noncomputable def ib(l:List V)(lo hi st:Option Int):List V:=(sliceRange (sliceBounds lo hi st l.length).1 (sliceBounds lo hi st l.length).2.1 (sliceBounds lo hi st l.length).2.2).filterMap (l[·]?)
def pk(Q:V->Prop):List V->Int->Prop
 |[],_=>False|v::l,k=>br (decide (k=0)) (Q v) (pk Q l (k-1))
def ro(l:List V)(k:Int)(Q:V->Prop):Prop:=gd (fits l.length) (br (decide (k<0)) (pk Q l (k+l.length)) (pk Q l k))
def Iv(o i:V)(Q:V->Prop):Prop:=match o with
 |.lst l=>wp (fu i) λk=>ro l k Q|.tup l=>wp (fu i) λk=>ro l k Q|.str s=>wp (fu i) λk=>gd (fits s.length&&PySem.fitsSsize k&&(Txt.charAt s k).isSome) (Q (.str (Txt.item s k)))|.dict l=>wp (keyOf i) λk=>wp (eY k l) λo=>wp o Q|_=>False
def v9(o:V)(lo hi st:Option Int)(cs:Cs)(Q:V->Cs->Prop):Prop:=match o with
 |.str s=>gd (fits s.length) (gd st.isNone (Q (.str (a6 s lo hi)) cs))|.lst l=>gd (fits l.length) (gd (decide (st≠aa 0)) (nf (.lst ae (ib l lo hi st)) cs Q))|_=>False
noncomputable def te(i:Int):ao:=iT (toString i)
noncomputable def jb(c:Nat):List Nat->List (List Nat)
 |[]=>[[]]|a::l=>match a7 a c with
  |ac=>[]::jb c l|ae=>match jb c l with
   |p::ps=>(a::p)::ps|[]=>[[a]]
noncomputable def one?{α:Type}:List α->Option α
 |[]=>ak|a::l=>match l with
  |[]=>aa a|_::_=>ak
def p7{α:Type}:List α->Option (α×α)
 |[]=>ak|a::l=>(one? l).map λb=>(a,b)
inductive SM where|split|lower|lstrip
def KN(n:ao):Option SM:=cd (ag n "split") (aa .split) (cd (ag n "lower") (aa .lower) (cd (ag n "lstrip") (aa .lstrip) ak))
inductive LM where|append|reverse|remove|index
def Mg(n:ao):Option LM:=cd (ag n "append") (aa .append) (cd (ag n "reverse") (aa .reverse) (cd (ag n "remove") (aa .remove) (cd (ag n "index") (aa .index) ak)))
def Ir(s:ao)(m:SM)(args:List V)(cs:Cs)(Q:V->Cs->Prop):Prop:=match m with
 |.split=>(match args with
  |[]=>gd (fits s.length) (nf (.lst ae ((Txt.words s).map .str)) cs Q)|a::l=>wp (one? (a::l)) λa=>wp (dX a) λsep=>wp (one? sep.cps.toList) λc=>gd (fits s.length) (nf (.lst ae ((jb c s.cps.toList).map FF)) cs Q))|.lower=>gd args.isEmpty (gd (fits s.length) (Q (.str (fg s)) cs))|.lstrip=>wp (one? args) λa=>wp (dX a) λx=>gd (fits s.length) (Q (.str (Txt.lstripChars s x)) cs)
noncomputable def CY(v:Cell):Option (Bool×List V):=by cases v with
 |lst r l=>exact aa (r,l)|_=>exact ak
noncomputable def xc(v:Cell):Option (aq×Vs):=by cases v with
 |inst C fs=>exact aa (C,fs)|_=>exact ak
noncomputable def ua(v:Cell):Option (List (V×V)):=by cases v with
 |dict l=>exact aa l|_=>exact ak
def sF(cs:Cs)(i:Nat)(k:Bool->List V->Prop):Prop:=wp cs[i]? λc=>wp (CY c) λp=>k p.1 p.2
noncomputable def nF(v:V):Option Nat:=by cases v with
 |ptr i=>exact aa i|_=>exact ak
def A5(o:V)(l:List V)(m:LM)(args:List V)(cs:Cs)(Q:V->Cs->Prop):Prop:=match m with
 |.append=>wp (nF o) λi=>wp (one? args) λv=>l8 v cs λv cs=>sF cs i λr l=>gd (fits l.length) (Q .none (cs.set i (.lst r (l++[v]))))|.reverse=>wp (nF o) λi=>gd args.isEmpty (sF cs i λr l=>gd (fits l.length) (Q .none (cs.set i (.lst r l.reverse))))|.remove=>wp (nF o) λi=>wp (one? args) λv=>wp (dX v) λv=>sF cs i λr l=>gd (fits l.length&&l.all jS) (wp (m8 v l) λl'=>Q .none (cs.set i (.lst r l')))|.index=>wp (one? args) λv=>wp (dX v) λv=>gd (fits l.length&&l.all jS) (wp (idxOf v 0 l) λn=>Q (.int n) cs)
def OC(l:List (V×V))(args:List V)(cs:Cs)(Q:V->Cs->Prop):Prop:=wp (p7 args) λp=>gd (gG p.1) (wp (keyOf p.1) λk=>wp (eY k l) λo=>match o with
 |aa v=>Q v cs|ak=>Q p.2 cs)
def wItems(v:V)(k:List V->Prop):Prop:=by cases v with
 |lst l=>exact gd (fits l.length) (k l)|tup l=>exact gd (fits l.length) (k l)|str s=>exact gd (fits s.length) (k (chars s))|FY a b=>exact gd (decide (0<=a/\a<=1000000/\0<=b/\b<=1000000)) (k ((cU (b-a).toNat).map λi=>V.int (a+iX i)))|_=>exact False
noncomputable def boolsOf:List V->Option (List Bool)
 |[]=>aa []|v::r=>match v with
  |.bool b=>(boolsOf r).map (b::·)|_=>ak
abbrev Td(b:Bool):Bool:=b
def SG(lf:Bool)(b:BI)(args:List V)(cs:Cs)(Q:V->Cs->Prop):Prop:=by cases b with
 |len=>exact wp (one? args) λv=>(match view cs v with
  |.lst l=>gd (fits l.length) (Q (.int l.length) cs)|.tup l=>gd (fits l.length) (Q (.int l.length) cs)|.str s=>gd (fits s.length) (Q (.int s.length) cs)|.dict l=>gd ((l.all λp=>gG p.1)&&fits l.length) (Q (.int l.length) cs)|_=>False)|abs=>exact wp (one? args) λv=>wp (fu v) λi=>Q (.int (if i<0then-i else i)) cs|any=>exact gd (!lf) (wp (one? args) λv=>wp (nG (view cs v)) λl=>wp (boolsOf l) λbs=>Q (.bool (bs.any Td)) cs)|list=>exact wp (one? args) λv=>(match view cs v with
  |.lst l=>gd (fits l.length) (nf (.lst ae l) cs Q)|.tup l=>gd (fits l.length) (nf (.lst ae l) cs Q)|_=>False)|tuple=>exact wp (one? args) λv=>wp (nG (view cs v)) λl=>gd (fits l.length) (Q (.tup l) cs)|str=>exact wp (one? args) λv=>(match v with
  |.int i=>gd (gF i) (Q (.str (te i)) cs)|.str s=>Q (.str s) cs|_=>False)|int=>exact wp (one? args) λv=>(match v with
  |.int i=>Q (.int i) cs|.str s=>gd (aU s.length 640) (wp (PySem.intText? s) λi=>Q (.int i) cs)|_=>False)|range=>exact wp (one? args) λv=>wp (fu v) λn=>Q (.FY 0 n) cs|_=>exact False
noncomputable def flat(v:V):Bool:=by cases v with
 |none=>exact ac|bool _=>exact ac|int _=>exact ac|str _=>exact ac|_=>exact ae
inductive rR where|tree(v:V)|lend(i:Nat)(c:Cell)
def Q9(i:Nat)(c:Cell)(cs:Cs)(k:rR->Cs->Prop):Prop:=match c with
 |.dead v=>k (.tree v) cs|.ch x=>k (.lend i (.ch x)) cs|.lst r l=>br r (k (.lend i (.lst ac l)) cs) (k (.tree (.lst l)) (cs.set i (.dead (.lst l))))|.inst C fs=>gd (!fs.any λf=>pG f.2) (k (.lend i (.inst C fs)) cs)|.dict l=>gd (!(l.any λf=>pG f.2)&&l.all λp=>gG p.1) (k (.tree (.dict l)) (cs.set i (.dead (.dict l))))
def xX(v:V)(cs:Cs)(k:rR->Cs->Prop):Prop:=match v with
 |.ptr i=>wp cs[i]? λc=>Q9 i c cs k|v=>k (.tree v) cs
def A8:List V->Cs->(List rR->Cs->Prop)->Prop:=pN xX
noncomputable def JT:rR->Arg
 |.tree v=>.v v|.lend _ c=>.c c
noncomputable def dg:List rR->List Nat
 |[]=>[]|g::r=>match g with
  |.lend i _=>i::dg r|_=>dg r
noncomputable def kY:List rR->Cs
 |[]=>[]|g::r=>match g with
  |.lend _ c=>c::kY r|_=>kY r
noncomputable def putAll:List Nat->Cs->Cs->Cs
 |[],_,cs=>cs|i::is,os,cs=>match os with
  |[]=>cs|c::os=>putAll is os (cs.set i c)
noncomputable def jR:List Nat->Cs->Cs
 |[],cs=>cs|i::is,cs=>jR is (cs.set i (.dead .any))
noncomputable def distinct:List Nat->Bool
 |[]=>ac|i::is=>!(is.any (a7 i))&&distinct is
noncomputable def s7:V->Bool
 |.lst _=>ac|_=>ae
def shape(v:Cell):Option Bool:=by cases v with
 |lst _ _=>exact aa ae|inst _ _=>exact aa ac|ch x=>exact aa (s7 x)|_=>exact ak
def ir(c o:Cell):Bool:=match o with
 |.dead _=>ac|o=>match shape c with
  |aa a=>(match shape o with
   |aa b=>a==b|ak=>ae)|ak=>ae
def fq:Cs->Cs->Bool
 |[],os=>os.isEmpty|c::cs,os=>match os with
  |[]=>ae|o::os=>ir c o&&fq cs os
section calls
variable(P:PG)(sp:Spec)(lf:Bool)
def ll(f:aq)(args:List V)(cs:Cs)(Q:V->Cs->Prop)(X:XP):Prop:=A8 args cs λgs c1=>gd (distinct (dg gs)) (sp lf f (gs.map JT) (λouts r=>gd (fq (kY gs) outs) (match r with
 |.v v=>br ((dg gs).isEmpty&&flat v) (Q v cs) (Q v (putAll (dg gs) outs c1))|.fresh b l=>nf (.lst b l) (putAll (dg gs) outs c1) Q)) (λC=>X C (jR (dg gs) c1)))
noncomputable def GO:V->Bool
 |.none=>ac|_=>ae
def W1(k:Kind)(self:V)(Q:V->Cs->Prop)(r:V)(cs:Cs):Prop:=gd (GO r) (match k with
 |.plain=>l8 self cs Q|.keep=>Q self cs|.exc=>False)
def Rn:List V->Option (V×V)
 |[]=>ak|w::r=>(match r with
  |[]=>aa (w,.none)|u::r=>cd r.isEmpty (aa (w,u)) ak)
def A4(C:aq)(k:JX)(args:List V)(cs:Cs)(Q:V->Cs->Prop)(X:XP):Prop:=match jT k.kind with
 |ac=>wp (Rn args) λp=>nf (.inst C [("what",p.1),("at",p.2)]) cs Q|ae=>gd (aU args.length 30) (nf (.inst C []) cs λself cs=>ll sp lf k.init (self::args) cs (W1 k.kind self Q) X)
def sW(fv:V)(args:List V)(cs:Cs)(Q:V->Cs->Prop)(X:XP):Prop:=by cases fv with
 |ref f=>exact(match P.fn f with
  |aa _=>ll sp lf f args cs Q X|ak=>wp (P.cls f) λk=>A4 sp lf f k args cs Q X)|bi b=>exact SG lf b args cs Q|_=>exact False
noncomputable def callable(fv:V):Bool:=by cases fv with
 |ref f=>exact(P.fn f).isSome||(P.cls f).isSome|bi b=>exact(match b with
  |.zip=>ae|_=>ac)|_=>exact ae
inductive MK where|fn(f:aq)|bare(f:aq)|str(s:ao)(m:SM)|lst(m:LM)|Tn
def sV(v:V)(name:ao)(k:MK->Prop):Prop:=by cases v with
 |str s=>exact wp (KN name) λm=>k (.str s m)|inst C fs=>exact gd ((iv name fs).isNone&&!cK P C) (wp (P.meth C name) λf=>k (.fn f))|lst _=>exact wp (Mg name) λm=>k (.lst m)|dict _=>exact gd (ag name "get") (k .Tn)|ref C=>exact wp (P.meth C name) λf=>k (.bare f)|_=>exact False
def uz(cs:Cs)(ov:V)(name:ao)(k:MK->Prop):Prop:=match ov with
 |.ptr i=>wp cs[i]? λc=>(match c with
  |.ch x=>gd (s7 x) (wp (P.meth P.cur name) λf=>k (.fn f))|c=>sV P (seen (aa c)) name k)|v=>sV P v name k
def sj(ov:V)(m:MK)(args:List V)(cs:Cs)(Q:V->Cs->Prop)(X:XP):Prop:=match m with
 |.fn f=>ll sp lf f (ov::args) cs Q X|.bare f=>ll sp lf f args cs Q X|.str s m=>Ir s m args cs Q|.lst m=>wp (nG (view cs ov)) λl=>A5 ov l m args cs Q|.Tn=>(match view cs ov with
  |.dict l=>OC l args cs Q|_=>False)
end calls
noncomputable def nameOf(e:aY):Option ao:=by cases e with
 |Name x _=>exact aa x|_=>exact ak
noncomputable def Ec(e:aY):Option ao:=by cases e with
 |Constant k _ _=>exact(match k with
  |.str s=>aa s|_=>ak)|_=>exact ak
noncomputable def o8(e:aY):Option (aY×List aY×List Keyword):=by cases e with
 |Call f a k _=>exact aa (f,a,k)|_=>exact ak
noncomputable def vO(e:aY):Option (aY×ao×gA):=by cases e with
 |Attribute o n p=>exact aa (o,n,p)|_=>exact ak
noncomputable def ti(e:aY):Option (Option aY×Option aY×Option aY):=by cases e with
 |Slice a b c _=>exact aa (a,b,c)|_=>exact ak
noncomputable def isStar(e:aY):Bool:=by cases e with
 |Starred=>exact ac|_=>exact ae
noncomputable def tM(e:aY):Bool:=by cases e with
 |Set=>exact ac|_=>exact ae
noncomputable def rp(e:aY):Bool:=by cases e with
 |ListComp=>exact ac|SetComp=>exact ac|DictComp=>exact ac|_=>exact ae
noncomputable def Dg(e:aY):Bool:=by cases e with
 |Tuple=>exact ac|_=>exact ae
noncomputable def uD(e:aY):Option (List aY):=by cases e with
 |Tuple l _ _=>exact aa l|_=>exact ak
def noStar(l:List aY):Bool:=l.all λe=>!isStar e
def gY(l:List aY):Bool:=noStar l&&Nat.blt l.length 30
def jp(o:aY):Bool:=match o8 o with
 |aa (f,a,k)=>!((nameOf f).isSome&&a.isEmpty&&k.isEmpty)|ak=>ac
def Eg(e:aY):Option (ao×ao):=match o8 e with
 |aa (f,a,k)=>(match nameOf f with
  |aa f=>(match one? a with
   |aa x=>(match nameOf x with
    |aa x=>cd k.isEmpty (aa (f,x)) ak|ak=>ak)|ak=>ak)|ak=>ak)|ak=>ak
def Mw(o:Option Cell):Bool:=match o with
 |aa c=>(CY c).isSome|ak=>ae
def uc(sc cs:eJ)(x:ao):Bool:=cs.kind==.function&&(cs.names.all λp=>p.2!=.cell&&(p.2!=.free||iv p.1 sc.names==aa .cell))&&iv x cs.names==aa .local&&(iv "__debug__" cs.names).isNone&&decide (cs.names.map (·.1)).Nodup
def xp(cs:eJ)(x:ao)(env:Vs):Vs:=env.filter λp=>!ag p.1 x&&(iv p.1 cs.names==aa .free)
structure Wv where
 E:Loc->aY->Cs->(V->Cs->Prop)->XP->Prop
 T:Loc->aY->Cs->(Bool->Cs->Prop)->XP->Prop
 S:Loc->dG->Cs->(Fl->Vs->Cs->Prop)->XS->Prop
 Ss:Loc->List dG->Cs->(Fl->Vs->Cs->Prop)->XS->Prop
 For:Loc->aY->List V->List dG->Cs->(Fl->Vs->Cs->Prop)->XS->Prop
 Comp:Loc->aY->ao->List aY->List V->List V->Cs->(List V->Cs->Prop)->Prop
noncomputable def Tw:Wv:=⟨λz9 z9 z9 z9 z9=>False,λz9 z9 z9 z9 z9=>False,λz9 z9 z9 z9 z9=>False,λz9 z9 z9 z9 z9=>False,λz9 z9 z9 z9 z9 z9 z9=>False,λz9 z9 z9 z9 z9 z9 z9 z9=>False⟩
section step
variable(P:PG)(sp:Spec)(r:Wv)(ℓ:Loc)
def jn(x:ao)(k:V->Prop):Prop:=match iv x ℓ.env with
 |aa v=>k v|ak=>match iv x ℓ.sc.names with
  |aa q=>(match q with
   |.globalImplicit=>wp (P.glob x) k|_=>False)|ak=>False
def kH:List aY->Cs->(List V->Cs->Prop)->XP->Prop
 |[],cs,Q,_=>Q [] cs|e::es,cs,Q,X=>r.E ℓ e cs (λv cs=>kH es cs (λvs cs=>Q (v::vs) cs) X) X
def E6(o:Option aY)(cs:Cs)(Q:Option Int->Cs->Prop)(X:XP):Prop:=match o with
 |ak=>Q ak cs|aa e=>r.E ℓ e cs (λv cs=>wp (fu v) λi=>Q (aa i) cs) X
noncomputable def X9:BoolOp->Bool
 |.Or=>ac|.And=>ae
def oo(op:BoolOp):aY->List aY->Cs->(V->Cs->Prop)->XP->Prop
 |e,[],cs,Q,X=>r.E ℓ e cs Q X|e,e'::es,cs,Q,X=>r.E ℓ e cs (λv cs=>om (view cs v) λb=>match op with
  |.And=>br b (oo op e' es cs Q X) (Q v cs)|.Or=>br b (Q v cs) (oo op e' es cs Q X)) X
def sX(op:BoolOp):List aY->Cs->(Bool->Cs->Prop)->XP->Prop
 |[],cs,Q,_=>Q (!X9 op) cs|e::es,cs,Q,X=>r.T ℓ e cs (λb cs=>match op with
  |.And=>br b (sX op es cs Q X) (Q ae cs)|.Or=>br b (Q ac cs) (sX op es cs Q X)) X
def jN(a:V):List CmpOp->List aY->Cs->(Bool->Cs->Prop)->XP->Prop
 |[],_,_,_,_=>False|op::ops,es,cs,Q,X=>match es with
  |[]=>False|e::es=>r.E ℓ e cs (λb cs=>E7 op (view cs a) (view cs b) λq=>match ops with
   |[]=>gd es.isEmpty (Q q cs)|_::_=>br q (jN b ops es cs Q X) (Q ae cs)) X
def wa:List (Option aY)->List aY->Cs->(List (V×V)->Cs->Prop)->XP->Prop
 |[],es,cs,Q,_=>gd es.isEmpty (Q [] cs)|o::ks,es,cs,Q,X=>match o with
  |ak=>False|aa k=>match es with
   |[]=>False|e::es=>r.E ℓ k cs (λkv cs=>r.E ℓ e cs (λv cs=>wa ks es cs (λl cs=>Q ((kv,v)::l) cs) X) X) X
def strsOf:List (V×V)->Option (List ao)
 |[]=>aa []|p::r=>match dX p.1with
  |aa s=>(strsOf r).map (s::·)|ak=>ak
def numsOf:List (V×V)->Option (List Int)
 |[]=>aa []|p::r=>match fu p.1with
  |aa s=>(numsOf r).map (s::·)|ak=>ak
def rl(l:List (V×V)):Bool:=match strsOf l with
 |aa ss=>decide ss.Nodup|ak=>match numsOf l with
  |aa is=>decide is.Nodup|ak=>ae
def Ix(ks:List (Option aY))(es:List aY)(cs:Cs)(Q:V->Cs->Prop)(X:XP):Prop:=gd ((ks.all λk=>k.isSome)&&a7 ks.length es.length&&aU ks.length 15) (nf (.dict []) cs λd cs=>match ks with
 |[]=>Q d cs|k::ks=>wa r ℓ (k::ks) es cs (λl cs=>wp (nF d) λi=>wp cs[i]? λc=>wp (ua c) λl0=>gd (l0.isEmpty&&rl l&&fits l.length) (Q d (cs.set i (.dict l)))) X)
def tS:List V->Cs->(List V->Cs->Prop)->Prop:=pN l8
noncomputable def zw(v:V):Option aq:=by cases v with
 |ref a=>exact aa a|_=>exact ak
def qF(v:V)(name:ao)(Q:V->Prop):Prop:=by cases v with
 |inst C fs=>exact gd (P.field C name&&!cK P C) (wp (iv name fs) Q)|exc C=>exact gd (ag name "what"&&cK P C) (Q .any)|_=>exact False
def Iu(o:aY)(args:List aY)(cs:Cs)(Q:V->Cs->Prop):Prop:=wp (nameOf o) λx=>wp (p7 args) λp=>wp (Ec p.1) λa=>wp (Eg p.2) λq=>jn P ℓ x λov=>jn P ℓ q.1 λfv=>jn P ℓ q.2 λyv=>wp (dX (view cs ov)) λs=>(match fv with
 |.bi b=>(match b with
  |.str=>wp (fu yv) λi=>gd (gF i&&!ag a (te i)&&aU s.length 1000&&aU (te i).length 600) (Q (.str (Txt.replace s a (te i))) cs)|_=>False)|_=>False)
def Ba(f:aY)(args:List aY)(pos:gA)(cs:Cs)(Q:V->Cs->Prop)(X:XP):Prop:=match vO f with
 |aa (o,name,ap)=>gd (ap.endLine==pos.line) (br (ag name "replace") (Iu P ℓ o args cs Q) (gd (jp o&&gY args) (r.E ℓ o cs (λov cs=>uz P cs ov name λm=>kH r ℓ args cs (λvs cs=>sj sp ℓ.lf ov m vs cs Q X) X) X)))|ak=>gd (gY args) (r.E ℓ f cs (λfv cs=>gd (callable P fv) (kH r ℓ args cs (λvs cs=>sW P sp ℓ.lf fv vs cs Q X) X)) X)
def A6(elt:aY)(gens:List Comprehension)(sc:eJ)(cs:Cs)(Q:V->Cs->Prop)(X:XP):Prop:=wp (one? gens) λg=>wp (nameOf g.target) λx=>gd (g.is_async==0&&!tM g.iter&&!ℓ.lf&&uc ℓ.sc sc x) (r.E ℓ g.iter cs (λv cs=>l8 v cs λv cs=>wItems v λl=>r.Comp ⟨xp sc x ℓ.env,sc,ℓ.lf⟩ elt x g.ifs l [] cs λvs cs=>nf (.lst ae vs) cs Q) X)
def A9(k:Const)(Q:V->Prop):Prop:=by cases k with
 |none=>exact Q .none|bool b=>exact Q (.bool b)|int i=>exact Q (.int i)|str s=>exact Q (.str s)|_=>exact False
def Oz(o i:aY)(cs:Cs)(Q:V->Cs->Prop)(X:XP):Prop:=r.E ℓ o cs (λv cs=>match ti i with
 |aa (a,b,c)=>E6 r ℓ a cs (λa cs=>E6 r ℓ b cs (λb cs=>E6 r ℓ c cs (λc cs=>v9 (view cs v) a b c cs Q) X) X) X|ak=>r.E ℓ i cs (λk cs=>Iv (view cs v) (view cs k) λv=>Q v cs) X) X
def A2(e:aY)(cs:Cs)(Q:V->Cs->Prop)(X:XP):Prop:=by cases e with
 |Constant k _ _=>exact A9 k λv=>Q v cs|Name x _=>exact jn P ℓ x λv=>Q v cs|BoolOp op vs _=>exact(match vs with
  |[]=>False|e::es=>oo r ℓ op e es cs Q X)|BinOp l op e' _=>exact r.E ℓ l cs (λa cs=>r.E ℓ e' cs (λb cs=>sY op (view cs a) (view cs b) cs Q) X) X|UnaryOp op e' _=>exact r.E ℓ e' cs (λa cs=>Iq op (view cs a) λv=>Q v cs) X|IfExp t a b _=>exact r.T ℓ t cs (λq cs=>br q (r.E ℓ a cs Q X) (r.E ℓ b cs Q X)) X|Dict ks vs _=>exact Ix r ℓ ks vs cs Q X|List es _=>exact gd (noStar es) (kH r ℓ es cs (λvs cs=>tS vs cs λvs cs=>gd (fits vs.length) (nf (.lst ae vs) cs Q)) X)|Tuple es _ _=>exact gd (noStar es) (kH r ℓ es cs (λvs cs=>tS vs cs λvs cs=>gd (fits vs.length) (Q (.tup vs) cs)) X)|ListComp elt gens sc _=>exact A6 r ℓ elt gens sc cs Q X|Compare l ops es _=>exact gd (!lastMarks ops es) (r.E ℓ l cs (λa cs=>jN r ℓ a ops es cs (λb cs=>Q (.bool b) cs) X) X)|Call f args Yo pos=>exact gd Yo.isEmpty (Ba P sp r ℓ f args pos cs Q X)|Attribute o name _=>exact gd (jp o) (r.E ℓ o cs (λv cs=>qF P (view cs v) name λv=>Q v cs) X)|Subscript o i _=>exact Oz r ℓ o i cs Q X|_=>exact False
def A0(e:aY)(cs:Cs)(Q:Bool->Cs->Prop)(X:XP):Prop:=by refine(λd:Prop=>?_) (r.E ℓ e cs (λv cs=>om (view cs v) λb=>Q b cs) X);cases e with
 |UnaryOp op x p=>cases op with
  |Not=>exact r.T ℓ x cs (λb cs=>Q (!b) cs) X|_=>exact d
 |BoolOp op vs _=>exact sX r ℓ op vs cs Q X|IfExp t a b _=>exact r.T ℓ t cs (λq cs=>br q (r.T ℓ a cs Q X) (r.T ℓ b cs Q X)) X|Compare l ops es _=>exact gd (!lastMarks ops es) (r.E ℓ l cs (λa cs=>jN r ℓ a ops es cs Q X) X)|_=>exact d
def py(x:ao)(v:V)(k:Vs->Prop):Prop:=wp (iv x ℓ.sc.names) λq=>match q with
 |.local=>k (kj x v ℓ.env)|.cell=>k (kj x v ℓ.env)|_=>False
def jO(sc:eJ):List aY->List V->Vs->(Vs->Prop)->Prop
 |[],l,env,k=>gd l.isEmpty (k env)|e::es,l,env,k=>match l with
  |[]=>False|v::l=>wp (nameOf e) λx=>py ⟨env,sc,ae⟩ x v λenv=>jO sc es l env k
noncomputable def B6:V->Option (List V)
 |.lst l=>aa l|.tup l=>aa l|_=>ak
def setAt(name:ao)(v ov:V)(cs:Cs)(Q:Cs->Prop):Prop:=by cases ov with
 |ptr i=>exact wp cs[i]? λc=>wp (xc c) λp=>gd (P.field p.1 name&&aU p.2.length 900) (Q (cs.set i (.inst p.1 (kj name v p.2))))|inst C fs=>exact wp (iv name fs) λu=>(match u with
  |.any=>gd (qd name (fG C)&&P.field C name&&aU fs.length 900) (Q cs)|_=>False)|_=>exact False
def IL(v k:V)(j:Nat)(cs:Cs)(Q:Cs->Prop):Prop:=wp cs[j]? λc=>match c with
 |.lst _ _=>wp (fu k) λn=>l8 v cs λv cs=>sF cs j λb l=>gd (fits l.length&&decide (0<=n/\n<l.length)) (Q (cs.set j (.lst b (l.set n.toNat v))))|.dict l=>wp (keyOf k) λk=>gd (fits l.length) (wp (putK k v l) λl=>Q (cs.set j (.dict l)))|_=>False
def lm(t:aY)(v:V)(cs:Cs)(Q:Vs->Cs->Prop)(X:XS):Prop:=by cases t with
 |Name x _=>exact py ℓ x v λenv=>Q env cs|Tuple es _ _=>exact gd (!ℓ.lf) (wp (B6 (view cs v)) λl=>jO ℓ.sc es l ℓ.env λenv=>Q env cs)|Attribute o name _=>exact r.E ℓ o cs (λov cs=>setAt P name v ov cs λcs=>Q ℓ.env cs) (λC cs=>X C ℓ.env cs)|Subscript o i _=>exact gd (ti i).isNone (r.E ℓ o cs (λov cs=>r.E ℓ i cs (λk cs=>wp (nF ov) λj=>IL v k j cs λcs=>Q ℓ.env cs) (λC cs=>X C ℓ.env cs)) (λC cs=>X C ℓ.env cs))|_=>exact False
def t6(o:Option aY):Option aq:=match o with
 |ak=>ak|aa e=>match nameOf e with
  |ak=>ak|aa x=>cd (iv x ℓ.sc.names==aa .globalImplicit&&(iv x ℓ.env).isNone) (match P.glob x with
   |aa v=>(match zw v with
    |aa C=>cd (cK P C) (aa C) ak|ak=>ak)|ak=>ak) ak
noncomputable def Ds:pZ->Option aY×Option ao×List dG|.ExceptHandler t n b _=>(t,n,b)
def qh(C:aq):List pZ->Cs->(Fl->Vs->Cs->Prop)->XS->Prop
 |[],cs,_,X=>X C ℓ.env cs|h::hs,cs,Q,X=>wp (t6 P ℓ (Ds h).1) λT=>br (P.sub C T) (gd (!ℓ.lf&&!(Ds h).2.2.isEmpty) (match(Ds h).2.1with
  |ak=>r.Ss {ℓ with lf:=ac} (Ds h).2.2 cs Q X|aa x=>gd (iv x ℓ.sc.names==aa .local) (r.Ss ⟨kj x (.exc C) ℓ.env,ℓ.sc,ac⟩ (Ds h).2.2 cs (λz9 z9 z9=>False) (λC z9 cs=>X C [] cs)))) (qh C hs cs Q X)
def mH(line:Nat)(e:aY):Option ao:=by cases e with
 |Name x p=>exact cd (iv x ℓ.sc.names==aa .local&&p.line==line) (aa x) ak|_=>exact ak
def xl(t e:aY):Option ao:=by cases t with
 |Name x p=>cases e with
  |ListComp _ _ cs q=>exact cd (iv x ℓ.sc.names==aa .local&&p.line==q.line&&!(cs.names.any λn=>n.1==x&&(n.2==.local||n.2==.cell))) (aa x) ak|_=>exact ak
 |_=>exact ak
def qO(ts vs:List aY):Bool:=(ts.length==2||ts.length==3)&&vs.length==ts.length&&noStar vs&&((ts.filterMap (mH ℓ ((ts.head?.map (·.pos.line)).getD 0))).length==ts.length)&&((ts.filterMap (mH ℓ ((ts.head?.map (·.pos.line)).getD 0))).eraseDups.length==ts.length)&&!(vs.all (foldedForSure 8))&&!(vs.all (constantsAlone 8))&&!ℓ.lf
noncomputable def yD(e:aY):Bool:=by cases e with
 |List=>exact ac|Starred=>exact ac|_=>exact ae
def OD(t e:aY)(cs:Cs)(Q:Vs->Cs->Prop)(X:XS):Prop:=br (rp e) (wp (xl ℓ t e) λx=>r.E ℓ e cs (λv cs=>py ℓ x v λenv=>Q env cs) (λC cs=>X C ℓ.env cs)) (gd (!yD t) (match uD t with
 |aa ts=>(match uD e with
  |aa vs=>gd (qO ℓ ts vs) (r.E ℓ e cs (λv cs=>wp (B6 (view cs v)) λl=>jO ℓ.sc ts.reverse l.reverse ℓ.env λenv=>Q env cs) (λC cs=>X C ℓ.env cs))|ak=>r.E ℓ e cs (λv cs=>lm P r ℓ t v cs Q X) (λC cs=>X C ℓ.env cs))|ak=>r.E ℓ e cs (λv cs=>lm P r ℓ t v cs Q X) (λC cs=>X C ℓ.env cs)))
def xJ(e:aY):Option (aY×aY×aY):=match o8 e with
 |aa (f,a,k)=>(match nameOf f with
  |aa z=>(match p7 a with
   |aa (x,y)=>cd (ag z "zip"&&k.isEmpty&&noStar a) (aa (f,x,y)) ak|ak=>ak)|ak=>ak)|ak=>ak
def rj(Q:Fl->Vs->Cs->Prop)(k:Vs->Cs->Prop):Fl->Vs->Cs->Prop
 |.next,env,cs=>k env cs|.cont,env,cs=>k env cs|.brk,env,cs=>Q .next env cs|.ret v,env,cs=>Q (.ret v) env cs
def Iw(t e:aY)(body:List dG)(cs:Cs)(Q:Fl->Vs->Cs->Prop)(X:XS):Prop:=gd (!ℓ.lf&&!tM e) (match xJ e with
 |aa (z,a,b)=>gd (Dg t) (r.E ℓ z cs (λf cs=>match f with
  |.bi q=>(match q with
   |.zip=>r.E ℓ a cs (λx cs=>r.E ℓ b cs (λy cs=>l8 x cs λx cs=>l8 y cs λy cs=>(match x with
    |.tup l=>wp (nG y) λl'=>r.For ℓ t ((l.zip l').map λp=>.tup [p.1,p.2]) body cs Q X|_=>False)) (λC cs=>X C ℓ.env cs)) (λC cs=>X C ℓ.env cs)|_=>False)|_=>False) (λC cs=>X C ℓ.env cs))|ak=>r.E ℓ e cs (λv cs=>l8 v cs λv cs=>wItems v λl=>r.For ℓ t l body cs Q X) (λC cs=>X C ℓ.env cs))
def A3(e:aY)(cs:Cs)(X:XS):Prop:=r.E ℓ e cs (λv cs=>wp (nF v) λi=>wp cs[i]? λc=>wp (xc c) λp=>gd (cK P p.1&&(iv "what" p.2).isSome) (X p.1 ℓ.env (cs.set i (.dead .any)))) (λC cs=>X C ℓ.env cs)
def J1(st:dG)(cs:Cs)(Q:Fl->Vs->Cs->Prop)(X:XS):Prop:=by cases st with
 |Expr e _=>exact gd (!rp e) (r.E ℓ e cs (λz9 cs=>Q .next ℓ.env cs) (λC cs=>X C ℓ.env cs))|Pass _=>exact Q .next ℓ.env cs|Return o _=>exact(match o with
  |ak=>Q (.ret .none) ℓ.env cs|aa e=>r.E ℓ e cs (λv cs=>Q (.ret v) ℓ.env cs) (λC cs=>X C ℓ.env cs))|Assign ts e _=>exact wp (one? ts) λt=>OD P r ℓ t e cs (λenv cs=>Q .next env cs) X|If t a b _=>exact r.T ℓ t cs (λq cs=>br q (r.Ss ℓ a cs Q X) (r.Ss ℓ b cs Q X)) (λC cs=>X C ℓ.env cs)|While t a b p=>exact gd b.isEmpty (r.T ℓ t cs (λq cs=>br q (r.Ss ℓ a cs (rj Q λenv cs=>r.S {ℓ with env:=env} (.While t a b p) cs Q X) X) (Q .next ℓ.env cs)) (λC cs=>X C ℓ.env cs))|For t e body b _=>exact gd b.isEmpty (Iw r ℓ t e body cs Q X)|Raise o c _=>exact wp o λe=>gd c.isNone (A3 P r ℓ e cs X)|Try body hs b f _=>exact gd (!hs.isEmpty&&b.isEmpty&&f.isEmpty) (r.Ss ℓ body cs Q (λC env cs=>gd (cK P C) (qh P r {ℓ with env:=env} C hs cs Q X)))|_=>exact False
def xU(l:List dG)(cs:Cs)(Q:Fl->Vs->Cs->Prop)(X:XS):Prop:=match l with
 |[]=>Q .next ℓ.env cs|st::rest=>r.S ℓ st cs (λfl env cs=>match fl with
  |.next=>r.Ss {ℓ with env:=env} rest cs Q X|fl=>Q fl env cs) X
def A1(t:aY)(l:List V)(body:List dG)(cs:Cs)(Q:Fl->Vs->Cs->Prop)(X:XS):Prop:=match l with
 |[]=>Q .next ℓ.env cs|v::vs=>lm P r ℓ t v cs (λenv cs=>r.Ss {ℓ with env:=env} body cs (rj Q λenv cs=>r.For {ℓ with env:=env} t vs body cs Q X) X) X
def E8:List aY->Cs->(Bool->Cs->Prop)->Prop
 |[],cs,Q=>Q ac cs|e::es,cs,Q=>r.T ℓ e cs (λb cs=>br b (E8 es cs Q) (Q ae cs)) λz9 z9=>False
def zF(elt:aY)(x:ao)(ifs:List aY)(l acc:List V)(cs:Cs)(Q:List V->Cs->Prop):Prop:=match l with
 |[]=>Q acc cs|v::vs=>E8 r {ℓ with env:=kj x v ℓ.env} ifs cs λb cs=>br b (r.E {ℓ with env:=kj x v ℓ.env} elt cs (λy cs=>l8 y cs λy cs=>gd (fits (acc.length+1)) (r.Comp ℓ elt x ifs vs (acc++[y]) cs Q)) λz9 z9=>False) (r.Comp ℓ elt x ifs vs acc cs Q)
end step
noncomputable def J0(P:PG)(sp:Spec)(r:Wv):Wv:=⟨A2 P sp r,A0 r,J1 P r,xU r,A1 P r,zF r⟩
def wv(P:PG)(sp:Spec):Nat->Wv
 |0=>Tw|n+1=>J0 P sp (wv P sp n)
def binds:List ao->List V->List Arg->Nat->(Vs->Cs->Prop)->Prop
 |ps,ds,[],_,k=>gd (aU ps.length ds.length) (k (ps.zip (ds.drop (ds.length-ps.length))) [])|[],_,_::_,_,_=>False|p::ps,ds,a::as,n,k=>match a with
  |.v v=>binds ps ds as n λe c=>k ((p,v)::e) c|.c q=>binds ps ds as (n+1) λe c=>k ((p,.ptr n)::e) (q::c)
def OA(i:Nat)(c:Cell)(cs:Cs)(k:Cell->Cs->Prop):Prop:=match c with
 |.lst b l=>k (.lst b l) cs|.inst C fs=>pN (MP l8 (fG C)) fs cs λfs cs=>k (.inst C fs) cs|.dead v=>k (.dead v) cs|.ch x=>k (.ch x) cs|.dict _=>False
def xV:Nat->Nat->Cs->(Cs->Cs->Prop)->Prop
 |0,_,cs,k=>k [] cs|n+1,i,cs,k=>wp cs[i]? λc=>OA i c cs λo cs=>xV n (i+1) cs λos cs=>k (o::os) cs
def i0(n:Nat)(v:V)(cs:Cs)(Q:Cs->b0->Prop):Prop:=l8 v cs λv cs=>xV n 0 cs λos cs=>gd (fq (cs.take n) os) (Q os (.v v))
def xY(b:Bool)(n:Nat)(v:V)(cs:Cs)(Q:Cs->b0->Prop):Prop:=match v with
 |.ptr i=>br (aU n i&&Mw cs[i]?) (xV n 0 cs λos cs=>gd (fq (cs.take n) os) (sF cs i λz9 l=>Q os (.fresh b l))) (i0 n (.ptr i) cs Q)|v=>i0 n v cs Q
def xa(keep:Option Bool)(n:Nat)(Q:Cs->b0->Prop)(fl:Fl)(_:Vs)(cs:Cs):Prop:=match fl with
 |.next=>i0 n .none cs Q|.ret v=>(match keep with
  |ak=>i0 n v cs Q|aa b=>xY b n v cs Q)|_=>False
noncomputable def vt:Nat:=400
def aN(P:PG)(tab:aq->Option aS):Nat->Spec
 |0,_,_,_,_,_=>False|d+1,lf,f,args,Q,X=>match tab f with
  |aa s=>s lf args Q X|ak=>wp (P.fn f) λF=>binds F.params F.pO args 0 λenv cs=>(wv P (aN P tab d) vt).Ss ⟨env,F.scope,lf⟩ F.body cs (xa F.keep cs.length Q) (λC z9 z9=>X C)
namespace T
noncomputable def fd(i:Nat):dG:=pw_nn0098_01.main.body[i]?.getD (.Pass default)
def fm(i j:Nat):dG:=by cases fd i with
 |ClassDef _ _ _ b=>exact b[j]?.getD (.Pass default)|_=>exact .Pass default
noncomputable def aR(st:dG)(d:List V)(k:Option Bool):Fn:=by cases st with
 |FunctionDef _ args body _ _ _ scope=>exact⟨args.args.map (·.arg),d,body,scope,k⟩|_=>exact⟨[],[],[],⟨.module,[],ae,ae,[]⟩,ak⟩
noncomputable def g2(n:ao)(v:V):ao×V:=(n,v)
noncomputable def m2(n:ao)(v:aq):ao×aq:=(n,v)
noncomputable def jr{α:Type}(a:Nat):List (Nat×α)->Option α
 |[]=>ak|(b,v)::r=>match a7 a b with
  |ac=>aa v|ae=>jr a r
noncomputable def bk{α:Type}(l:List (List (Nat×α)))(a:Nat):List (Nat×α):=match l[a/128]?with
 |aa r=>r|ak=>[]
def hit(x:ao):List ao->Bool
 |[]=>ae|y::r=>match ag x y with
  |ac=>ac|ae=>hit x r
def Jy:List (List (Nat×Fn)):=[[(21,aR (fd 0) [] ak),(35,aR (fm 2 0) [] ak),(42,aR (fm 2 1) [] ak),(64,aR (fm 3 0) [.none] ak),(71,aR (fm 3 1) [] ak),(120,aR (fd 7) [] ak),(127,aR (fd 8) [] ak)],[(134,aR (fd 9) [] ak),(141,aR (fd 10) [] ak),(148,aR (fd 11) [] ak),(155,aR (fd 12) [] ak),(169,aR (fm 16 0) [] ak),(176,aR (fm 16 1) [] ak),(197,aR (fm 17 0) [] ak),(204,aR (fm 17 1) [] ak),(223,aR (fm 18 0) [] ak),(230,aR (fm 18 1) [] ak),(249,aR (fm 19 0) [] ak)],[(268,aR (fm 20 0) [] ak),(275,aR (fm 20 1) [] ak),(294,aR (fm 21 0) [] ak),(301,aR (fm 21 1) [] ak),(313,aR (fd 22) [] ak),(320,aR (fd 23) [] ak),(327,aR (fd 24) [] ak),(334,aR (fd 25) [] ak),(341,aR (fd 26) [] ak),(348,aR (fd 27) [] ak),(363,aR (fm 28 0) [.str "",.str ""] ak),(370,aR (fm 28 1) [] ak),(377,aR (fm 28 2) [] ak)],[(384,aR (fm 28 3) [] ak),(391,aR (fm 28 4) [] ak),(398,aR (fm 28 5) [] ak),(405,aR (fm 28 6) [] ak),(417,aR (fd 29) [] ak),(432,aR (fm 30 0) [.none] ak),(439,aR (fm 30 1) [] ak),(446,aR (fm 30 2) [] ak),(453,aR (fm 30 3) [] ak),(467,aR (fd 31) [] ak),(474,aR (fd 32) [] ak),(481,aR (fd 33) [] ak),(488,aR (fd 34) [] ak),(495,aR (fd 35) [] ak),(503,aR (fd 36) [.str ""] ak),(510,aR (fd 38) [] ak)],[(517,aR (fd 39) [] ak),(524,aR (fd 40) [] ak),(531,aR (fd 41) [] ak),(538,aR (fd 42) [] ak),(545,aR (fd 43) [] ak),(552,aR (fd 44) [] ak),(559,aR (fd 45) [] ak),(566,aR (fd 46) [] ak),(573,aR (fd 47) [] ak),(586,aR (fm 48 0) [.int 0,.int (-1),.int 0,.int 0,.bool ae] ak),(593,aR (fm 48 1) [] ak),(600,aR (fm 48 2) [] ak),(607,aR (fm 48 3) [] ak),(614,aR (fm 48 4) [] ak),(621,aR (fm 48 5) [] ak),(628,aR (fm 48 6) [] ak)],[(642,aR (fd 52) [] ak),(649,aR (fd 53) [] ak),(654,aR (fd 54) [] ak),(668,aR (fm 55 0) [] ak),(673,aR (fm 55 1) [] ak),(680,aR (fm 55 2) [] ak),(687,aR (fm 55 3) [] ak),(694,aR (fm 55 4) [] ak),(701,aR (fm 55 5) [] ak),(708,aR (fm 55 6) [] ak),(713,aR (fm 55 7) [] ak),(720,aR (fm 55 8) [] ak),(741,aR (fm 59 0) [] ak),(748,aR (fm 59 1) [] ak),(755,aR (fm 59 2) [] ak),(762,aR (fm 59 3) [] ak)],[(783,aR (fm 60 0) [] ak),(790,aR (fm 60 1) [] ak),(797,aR (fm 60 2) [] ak),(817,aR (fm 61 0) [.str ""] ak),(824,aR (fm 61 1) [] ak),(831,aR (fm 61 2) [] ak),(851,aR (fm 62 0) [.str ""] ak),(858,aR (fm 62 1) [] ak),(865,aR (fm 62 2) [] ak),(872,aR (fm 62 3) [] ak),(892,aR (fm 63 0) [.int 0,.str "",.str ""] ak)],[(899,aR (fm 63 1) [] ak),(906,aR (fm 63 2) [] ak),(911,aR (fm 63 3) [] ak),(918,aR (fm 63 4) [] ak),(925,aR (fm 63 5) [] ak),(945,aR (fm 64 0) [.str ""] ak),(950,aR (fm 64 1) [] ak),(957,aR (fm 64 2) [] ak),(964,aR (fm 64 3) [] ak),(969,aR (fm 64 4) [] ak),(976,aR (fm 64 5) [] ak),(990,aR (fd 65) [] ak),(997,aR (fd 66) [] ak),(1004,aR (fd 67) [] ak),(1011,aR (fd 68) [] ak),(1018,aR (fd 69) [] ak)],[(1032,aR (fm 79 0) [] ak),(1039,aR (fm 79 1) [] ak),(1046,aR (fm 79 2) [] ak),(1053,aR (fm 79 3) [] ak),(1060,aR (fm 79 4) [] ak),(1067,aR (fm 79 5) [] ak),(1081,aR (fd 80) [] ak),(1088,aR (fd 81) [] ak),(1095,aR (fd 82) [] ak),(1102,aR (fd 83) [] ak),(1109,aR (fd 84) [] ak),(1116,aR (fd 85) [] ak),(1123,aR (fd 86) [] ak),(1130,aR (fd 87) [] ak),(1137,aR (fd 88) [] ak),(1151,aR (fm 99 0) [] ak)],[(1158,aR (fm 99 1) [] ak),(1172,aR (fd 100) [] ak),(1179,aR (fd 101) [] ak),(1186,aR (fd 102) [] ak),(1191,aR (fd 103) [] ak),(1198,aR (fd 104) [] ak),(1205,aR (fd 105) [] ak),(1212,aR (fd 106) [] ak),(1219,aR (fd 107) [] ak),(1226,aR (fd 108) [] ak),(1233,aR (fd 109) [] ak),(1240,aR (fd 110) [] ak),(1247,aR (fd 111) [] ak),(1254,aR (fd 112) [] ak),(1261,aR (fd 113) [] ak),(1268,aR (fd 114) [] ak),(1275,aR (fd 115) [] ak)],[(1282,aR (fd 116) [] ak),(1287,aR (fd 117) [] ak),(1294,aR (fd 118) [] ak),(1301,aR (fd 119) [] (aa ac)),(1308,aR (fd 120) [] ak),(1315,aR (fd 121) [] ak),(1322,aR (fd 122) [] ak),(1329,aR (fd 123) [] ak),(1336,aR (fd 124) [] ak),(1341,aR (fd 125) [] ak),(1348,aR (fd 126) [] ak),(1362,aR (fm 128 0) [] ak),(1369,aR (fm 128 1) [] ak),(1376,aR (fm 128 2) [] ak),(1383,aR (fm 128 3) [] ak),(1404,aR (fm 129 0) [] ak)],[(1411,aR (fm 129 1) [] ak),(1418,aR (fm 129 2) [] ak),(1425,aR (fm 129 3) [] ak),(1432,aR (fm 129 4) [] ak),(1439,aR (fm 129 5) [] ak),(1446,aR (fm 129 6) [] ak),(1453,aR (fm 129 7) [] ak),(1460,aR (fm 129 8) [] ak),(1467,aR (fm 129 9) [] ak),(1474,aR (fm 129 10) [] ak),(1481,aR (fm 129 11) [] ak),(1493,aR (fd 131) [] (aa ac)),(1500,aR (fd 132) [] ak),(1505,aR (fd 133) [] ak),(1512,aR (fd 134) [] ak),(1519,aR (fd 135) [] ak),(1526,aR (fd 136) [] ak),(1533,aR (fd 137) [] ak)],[(1540,aR (fd 138) [] ak),(1547,aR (fd 139) [] ak),(1554,aR (fd 140) [] ak),(1561,aR (fd 141) [] ak),(1568,aR (fd 142) [] ak),(1575,aR (fd 143) [] ak),(1582,aR (fd 144) [] ak),(1589,aR (fd 145) [] ak),(1596,aR (fd 146) [] ak),(1603,aR (fd 147) [] ak),(1610,aR (fd 148) [] ak),(1617,aR (fd 149) [] ak),(1624,aR (fd 150) [] ak),(1631,aR (fd 151) [] ak),(1638,aR (fd 152) [] ak),(1645,aR (fd 153) [] ak),(1652,aR (fd 154) [] ak),(1659,aR (fd 155) [] ak)],[(1666,aR (fd 156) [] ak),(1673,aR (fd 157) [] ak),(1680,aR (fd 158) [] ak),(1685,aR (fd 159) [] ak),(1692,aR (fd 160) [] ak),(1699,aR (fd 161) [] ak),(1706,aR (fd 162) [] ak),(1713,aR (fd 163) [] ak)]]
noncomputable def Ed:List (List (Nat×JX)):=[[(45,⟨35,.plain,[]⟩),(74,⟨64,.exc,[]⟩),(87,⟨64,.exc,[]⟩),(99,⟨64,.exc,[]⟩),(111,⟨64,.exc,[]⟩)],[(179,⟨169,.plain,[]⟩),(207,⟨197,.plain,[]⟩),(233,⟨223,.plain,[]⟩),(252,⟨249,.plain,[]⟩)],[(278,⟨268,.plain,[]⟩),(304,⟨294,.plain,[]⟩)],[(408,⟨363,.plain,[]⟩),(456,⟨432,.plain,[]⟩)],[(631,⟨586,.plain,["number"]⟩)],[(723,⟨668,.plain,["by_code"]⟩),(765,⟨741,.plain,[]⟩)],[(800,⟨783,.plain,[]⟩),(834,⟨817,.plain,[]⟩),(875,⟨851,.plain,[]⟩)],[(928,⟨892,.plain,[]⟩),(979,⟨945,.plain,[]⟩)],[(1070,⟨1032,.plain,[]⟩)],[(1161,⟨1151,.plain,[]⟩)],[(1386,⟨1362,.plain,[]⟩)],[(1484,⟨1404,.keep,[]⟩)]]
def qr:List (List (Nat×List (ao×aq))):=[[(45,[m2 "__init__" 35,m2 "told" 42]),(74,[m2 "__init__" 64,m2 "told" 71]),(87,[m2 "__init__" 64,m2 "told" 71]),(99,[m2 "__init__" 64,m2 "told" 71]),(111,[m2 "__init__" 64,m2 "told" 71])],[(179,[m2 "__init__" 169,m2 "told" 176]),(207,[m2 "__init__" 197,m2 "told" 204]),(233,[m2 "__init__" 223,m2 "told" 230]),(252,[m2 "__init__" 249,m2 "told" 176])],[(278,[m2 "__init__" 268,m2 "told" 275]),(304,[m2 "__init__" 294,m2 "told" 301])],[(408,[m2 "__init__" 363,m2 "told" 370,m2 "is_number" 377,m2 "is_symbol" 384,m2 "negate" 391,m2 "add" 398,m2 "places" 405]),(456,[m2 "__init__" 432,m2 "put" 439,m2 "find" 446,m2 "settled" 453])],[(631,[m2 "__init__" 586,m2 "told" 593,m2 "slots" 600,m2 "has_modrm" 607,m2 "has_plus" 614,m2 "memory_size" 621,m2 "needs_memory" 628])],[(723,[m2 "__init__" 668,m2 "told" 673,m2 "find" 680,m2 "has" 687,m2 "at" 694,m2 "names" 701,m2 "codes" 708,m2 "counts" 713,m2 "memory_sizes" 720]),(765,[m2 "__init__" 741,m2 "told" 748,m2 "symbol" 755,m2 "registers" 762])],[(800,[m2 "__init__" 783,m2 "told" 790,m2 "registers" 797,m2 "symbol" 755]),(834,[m2 "__init__" 817,m2 "told" 824,m2 "symbol" 831,m2 "registers" 762]),(875,[m2 "__init__" 851,m2 "told" 858,m2 "symbol" 865,m2 "target" 872,m2 "registers" 762])],[(928,[m2 "__init__" 892,m2 "told" 899,m2 "symbol" 906,m2 "registers" 911,m2 "is_rip" 918,m2 "is_absolute" 925]),(979,[m2 "__init__" 945,m2 "told" 950,m2 "memory_at" 957,m2 "memory" 964,m2 "symbols" 969,m2 "replaced" 976])],[(1070,[m2 "__init__" 1032,m2 "code" 1039,m2 "is_extended" 1046,m2 "is_high" 1053,m2 "needs_rex" 1060,m2 "told" 1067])],[(1161,[m2 "__init__" 1151,m2 "told" 1158])],[(1386,[m2 "__init__" 1362,m2 "is_sign" 1369,m2 "is_backward" 1376,m2 "told" 1383])],[(1484,[m2 "__init__" 1404,m2 "peek" 1411,m2 "ahead" 1418,m2 "take" 1425,m2 "is_sign" 1432,m2 "is_end" 1439,m2 "skip" 1446,m2 "skip_name" 1453,m2 "need" 1460,m2 "need_end" 1467,m2 "name" 1474,m2 "rest_place" 1481])]]
noncomputable def nq:List (List (Nat×List ao)):=[[(45,["column","line"]),(74,["at","what"]),(87,["at","what"]),(99,["at","what"]),(111,["at","what"])],[(179,["kind"]),(207,["kind","worth"]),(233,["kind","name"]),(252,["kind"])],[(278,["body","kind","sign"]),(304,["kind","left","right","sign"])],[(408,["minus","plus","worth"]),(456,["equates"])],[(631,["digit","escape","is_wide","kinds","must","name","number","opcode","places","size"])],[(723,["by_code","by_name","forms"]),(765,["kind"])],[(800,["register","kind"]),(834,["name","worth","kind"]),(875,["name","worth","kind"])],[(928,["base","index","name","scale","segment","size","worth","kind"]),(979,["name","operands","prefix"])],[(1070,["kind","name","number","size"])],[(1161,["at","prefix","word"])],[(1386,["at","kind","text","worth"])],[(1484,["at","tokens"])]]
noncomputable def KH:List (List (Nat×List aq)):=[[(74,[74]),(87,[87,74]),(99,[99,74]),(111,[111,74])]]
def qw:List (List (ao×V)):=[[],[],[],[g2 "Reg" (V.ref 800),g2 "Imm" (V.ref 834),g2 "Rel" (V.ref 875),g2 "Mem" (V.ref 928),g2 "gpr" (V.ref 1095),g2 "xmm" (V.ref 1109),g2 "rip" (V.ref 1116),g2 "law" (V.ref 1713),g2 "abs" (V.bi .abs),g2 "any" (V.bi .any),g2 "len" (V.bi .len),g2 "int" (V.bi .int),g2 "str" (V.bi .str),g2 "zip" (V.bi .zip)],[g2 "mask" (V.ref 120),g2 "wrap" (V.ref 127),g2 "Expr" (V.ref 179),g2 "Here" (V.ref 252),g2 "Form" (V.ref 631),g2 "high" (V.ref 1102),g2 "Head" (V.ref 1161),g2 "list" (V.bi .list)],[g2 "_wall" (V.ref 21),g2 "Place" (V.ref 45),g2 "Unary" (V.ref 278),g2 "Scope" (V.ref 456),g2 "takes" (V.ref 573),g2 "sized" (V.ref 1018),g2 "TURNS" (V.str "rol ror rcl rcr shl shr sar"),g2 "POINT" (V.str "."),g2 "Token" (V.ref 1386),g2 "range" (V.bi .range),g2 "tuple" (V.bi .tuple)],[g2 "signed" (V.ref 134),g2 "Number" (V.ref 207),g2 "Symbol" (V.ref 233),g2 "Binary" (V.ref 304),g2 "Affine" (V.ref 408),g2 "turned" (V.ref 495),g2 "SCALES" (V.str "1 2 4 8"),g2 "Cursor" (V.ref 1484)],[g2 "shifted" (V.ref 474),g2 "slot_of" (V.ref 545),g2 "ALIASES" (V.str "c:b nae:b nb:ae nc:ae z:e nz:ne na:be nbe:a pe:p po:np nge:l nl:ge ng:le nle:g"),g2 "Operand" (V.ref 765),g2 "NAMES_8" (V.str "al cl dl bl spl bpl sil dil"),g2 "segment" (V.ref 1123),g2 "COUNTED" (V.str "rol ror rcl rcr shl shr sar shld shrd"),g2 "WIDENED" (V.str "movzx movsx movsxd"),g2 "STRINGS" (V.str "movs cmps stos lods scas"),g2 "has_xmm" (V.ref 1191),g2 "goal_of" (V.ref 1212),g2 "telling" (V.ref 1308)],[g2 "level_of" (V.ref 320),g2 "quotient" (V.ref 467),g2 "reckoned" (V.ref 481),g2 "combined" (V.ref 488),g2 "evaluate" (V.ref 503),g2 "is_fixed" (V.ref 510),g2 "pairs_of" (V.ref 642),g2 "codes_of" (V.ref 654),g2 "NAMES_16" (V.str "ax cx dx bx sp bp si di"),g2 "NAMES_32" (V.str "eax ecx edx ebx esp ebp esi edi"),g2 "NAMES_64" (V.str "rax rcx rdx rbx rsp rbp rsi rdi"),g2 "Register" (V.ref 1070),g2 "complete" (V.ref 1341),g2 "read_att" (V.ref 1348),g2 "_law_box" (V.ref 1493),g2 "_law_set" (V.ref 1512),g2 "_law_sum" (V.ref 1540),g2 "_law_reg" (V.ref 1554),g2 "_law_two" (V.ref 1603),g2 "_law_lea" (V.ref 1659)],[g2 "MintError" (V.ref 74),g2 "ReadError" (V.ref 87),g2 "read_part" (V.ref 334),g2 "read_expr" (V.ref 348),g2 "affine_of" (V.ref 417),g2 "kind_size" (V.ref 538),g2 "canonical" (V.ref 649),g2 "check_mem" (V.ref 1011),g2 "is_branch" (V.ref 1172),g2 "read_head" (V.ref 1198),g2 "read_base" (V.ref 1247),g2 "told_word" (V.ref 1294),g2 "only_size" (V.ref 1329),g2 "_law_draw" (V.ref 1500),g2 "_law_line" (V.ref 1673),g2 "_law_rows" (V.ref 1685)],[g2 "MOST_DEPTH" (V.int 10),g2 "MOST_SHIFT" (V.int 63),g2 "left_spine" (V.ref 313),g2 "read_level" (V.ref 341),g2 "check_base" (V.ref 997),g2 "HIGH_NAMES" (V.str "ah ch dh bh"),g2 "WIDE_ALONE" (V.str "push pop jmp call"),g2 "is_general" (V.ref 1186),g2 "plain_part" (V.ref 1205),g2 "opens_base" (V.ref 1233),g2 "read_scale" (V.ref 1240),g2 "read_place" (V.ref 1254),g2 "name_alone" (V.ref 1275),g2 "could_take" (V.ref 1322),g2 "_law_forms" (V.ref 1505),g2 "_law_plain" (V.ref 1526),g2 "_law_inner" (V.ref 1561),g2 "_law_place" (V.ref 1568),g2 "_law_shift" (V.ref 1596),g2 "_law_alone" (V.ref 1645),g2 "_law_heard" (V.ref 1680)],[g2 "SymbolError" (V.ref 111),g2 "fits_signed" (V.ref 141),g2 "fits_either" (V.ref 155),g2 "is_relative" (V.ref 524),g2 "takes_worth" (V.ref 559),g2 "OTHER_NAMES" (V.str "sal:shl loopz:loope loopnz:loopne repe:rep repz:rep repnz:repne"),g2 "Instruction" (V.ref 979),g2 "check_index" (V.ref 1004),g2 "XMM_NUMBERS" (V.str "0 1 2 3 4 5 6 7 8 9 10 11 12 13 14 15"),g2 "early_names" (V.ref 1081),g2 "late_ending" (V.ref 1088),g2 "WORDS_ALONE" (V.str "cltq cqto cltd cwtl cwtd cbtw pushf popf"),g2 "NAMES_ALONE" (V.str "cdqe cqo cdq cwde cwd cbw pushfq popfq"),g2 "suffix_size" (V.ref 1179),g2 "checked_mem" (V.ref 1219),g2 "memory_size" (V.ref 1336),g2 "_law_letter" (V.ref 1519),g2 "_law_number" (V.ref 1533),g2 "_law_symbol" (V.ref 1547),g2 "_law_either" (V.ref 1575),g2 "_law_target" (V.ref 1631),g2 "_law_vector" (V.ref 1666)],[g2 "OperandError" (V.ref 99),g2 "binary_level" (V.ref 327),g2 "is_immediate" (V.ref 517),g2 "takes_memory" (V.ref 531),g2 "MEMORY_SIZES" (V.str "0 8 16 32 64 128"),g2 "LATE_NUMBERS" (V.str "8 9 10 11 12 13 14 15"),g2 "PREFIX_WORDS" (V.str "lock rep repe repz repne repnz"),g2 "read_operand" (V.ref 1261),g2 "widened_word" (V.ref 1282),g2 "takes_suffix" (V.ref 1287),g2 "_law_through" (V.ref 1624),g2 "_law_product" (V.ref 1652),g2 "_law_is_read" (V.ref 1692),g2 "_law_spoiled" (V.ref 1699)],[g2 "fits_unsigned" (V.ref 148),g2 "SEGMENT_NAMES" (V.str "es cs ss ds fs gs"),g2 "late_register" (V.ref 1130),g2 "find_register" (V.ref 1137),g2 "take_register" (V.ref 1226),g2 "read_operands" (V.ref 1268),g2 "_law_exchange" (V.ref 1610)],[g2 "takes_register" (V.ref 552),g2 "takes_distance" (V.ref 566),g2 "InstructionSet" (V.ref 723),g2 "plain_operands" (V.ref 1301),g2 "_law_immediate" (V.ref 1582),g2 "_law_condition" (V.ref 1589),g2 "_law_extension" (V.ref 1617)],[g2 "check_registers" (V.ref 1315),g2 "_law_is_refused" (V.ref 1706)],[g2 "_law_conditional" (V.ref 1638)],[],[],[g2 "is_address_register" (V.ref 990)]]
def pg:PG where
 cur:=1484
 glob x:=match qw[x.cps.toList.length]?with
  |aa l=>iv x l|ak=>ak
 fn a:=jr a (bk Jy a)
 cls a:=jr a (bk Ed a)
 meth a x:=match jr a (bk qr a)with
  |aa l=>iv x l|ak=>ak
 sub a b:=match jr a (bk KH a)with
  |aa l=>l.any (a7 b)|ak=>ae
 field a x:=match jr a (bk nq a)with
  |aa l=>hit x l|ak=>ae
end T
namespace H
open T
abbrev pr:Program:=pw_nn0098_01
noncomputable def N:al:=.none
noncomputable def B(b:Bool):al:=.bool b
noncomputable def I(i:Int)(t:Nat):al:=.int i t
noncomputable def S(s:ao)(t:Nat):al:=.str s t
noncomputable def Y(n:String):al:=.type n
noncomputable def U(n:String):al:=.builtin n
noncomputable def R(a:Nat):al:=.ref a
abbrev Ent:=ao×Nat×al
noncomputable def en(s:ao)(t:Nat)(v:al):Ent:=(s,t,v)
def ny(t:Nat):List String->List Ent
 |[]=>[]|s::r=>(s,t,Y s)::ny (t+1) r
def nu(t:Nat):List String->List Ent
 |[]=>[]|s::r=>(s,t,U s)::nu (t+1) r
noncomputable def tu(l:List al):dJ:={cls:=.type "tuple",data:=.seq l.toArray}
noncomputable def fl(c:al)(l:List al):dJ:={cls:=c,data:=.fields l.toArray}
noncomputable def ents(P:dw)(l:List Ent):List ba:=l.map λx=>⟨fW P x.1,.str x.1 x.2.1,x.2.2⟩
def Rv(c:al)(n:Nat)(P:dw)(l:List Ent):dJ:={cls:=c,data:=.dict (ents P l).toArray n}
def di(P:dw)(l:List Ent):dJ:={cls:=.type "dict",data:=.dict (ents P l).toArray l.length}
def d2(P:dw)(l:List Ent):dJ:=Rv (Y "dict") 2 P l
def d3(P:dw)(l:List Ent):dJ:=Rv (Y "dict") 3 P l
def d4(P:dw)(l:List Ent):dJ:=Rv (Y "dict") 4 P l
noncomputable def Vb(c:al)(st:dG)(qual:ao)(dflt pm code:al)(g b:Nat):dJ:=match st with
 |.FunctionDef name args body _ _ _ scope _ _ _=>{cls:=c,data:=.func {name,qualname:=qual,params:=args,body:=.stmts body,scope,globals:=g,closure:=[],defaults:=dflt,kwdefaults:=.none,pyModule:=pm,code,builtins:=b}}|_=>default
noncomputable def yJ:dG->ao×Nat×Nat
 |.FunctionDef name args _ _ _ _ _ _ _ pos=>(name,args.args.length,pos.line)|_=>("",0,0)
def file(t:Nat):al:=S "/claim/cut.py" t
def cc(n:ao)(t l k:Nat):dJ:=fl (Y "code") [S n t,S n (t+1),file (t+2),I l 0,I 0 0,I 0 0,I 0 0,I 0 0,R k,B ae,I 181 0,R (k+1),N,N,N,N,I ↑(t+3) 0,I l 0,file (t+4)]
def vs(t:Nat):List ao->List al
 |[]=>[]|s::r=>S s t::vs (t+1) r
def cf(st:dG)(q:ao)(t e k:Nat)(l:List al):dJ:=fl (Y "code") ([S (yJ st).1 t,S q (t+1),file (t+2),I (yJ st).2.2 0,I (yJ st).2.1 0,I 0 0,I 0 0,I 3 0,R k,B ac,I 181 0,R (k+1),N]++l++[I ↑e 0,I (yJ st).2.2 0,file (e+1)])
def Xq(st:dG)(q:ao)(d m:al)(k:Nat):dJ:=Vb (.type "function") st q d m (R k) 3 0
noncomputable def locs(st:dG):List ao:=by cases st with
 |FunctionDef _ _ _ _ _ _ sc=>exact(sc.names.filter λp=>p.2==.local).map (·.1)|_=>exact[]
def f7(k t:Nat)(st:dG)(q:ao)(d m:al):List dJ:=[tu [],fl N [],tu (vs (t+3) (locs st)),tu [],Vb .none st q .none .none .none 0 0,cf st q t (t+3+(locs st).length) k [R (k+2),R (k+3),R (k+4)],Xq st q d m (k+5)]
def f5(k t:Nat)(st:dG)(q:ao)(d m:al):List dJ:=[tu [],fl N [],Vb .none st q .none .none .none 0 0,cf st q t (t+3) k [N,N,R (k+2)],Xq st q d m (k+3)]
def hI:dJ:=fl (Y "builtin_function_or_method") [U "type.__prepare__",Y "type"]
def qc(a:Nat):dJ:=fl (Y "builtin_function_or_method") [U "object.__init_subclass__",R a]
def sup(a:Nat):dJ:=fl (Y "super") [R a,R a,R a]
def AS(t a:Nat):dJ:=fl (Y "getset_descriptor") [S "__dict__" t,R a,U "function.__dict__",U "function.__dict__#set"]
def Av(t a:Nat):dJ:=fl (Y "getset_descriptor") [S "__weakref__" t,R a,U "ExceptionGroup.__weakref__",N]
def n8(c n:Nat)(m:al):dJ:={cls:=Y "frame",slots:=#[aa (R c),aa (R 3),aa (R n),ak,aa m,ak,aa (R 0)]}
noncomputable def oN:String:="object.__new__"
noncomputable def eN:String:="Exception.__new__"
def cls(n:ao)(bs mr:List al)(ns:Nat)(sub:List al)(b:Option al)(t u:Nat)(w:String):dJ:=⟨Y "type",ak,.cls ⟨n,bs,mr,ns,n,ac,[],sub,ae,ak,ae⟩,#[b,ak,aa (S n t),aa (S n u),aa (U w),aa (B ac)]⟩
def W7(d:Int):List (Int×Nat)->List al
 |[]=>[]|p::r=>I p.1 0::I d 0::R p.2::W7 d r
def ln(d:Int)(l:List (Int×Nat)):dJ:=fl N (W7 d l)
def cT:al:=S "law_nn0098_01" 2143
def Gu:al:=S "__main__" 164
def hN:al:=S "octetmint.basics" 194
def cI:al:=S "octetmint.expressions" 369
def jq:al:=S "octetmint.forms" 829
def kV:al:=S "octetmint.iset" 991
def cb:al:=S "octetmint.operands" 1118
def f6:al:=S "octetmint.registers" 1489
def cY:al:=S "octetmint.att" 1647
def eW:al:=S "octetmint.tokens" 1970
noncomputable def W8:List (Int×Nat):=[(1,20),(5,27),(13,55),(24,83),(26,95),(28,107),(30,119),(32,126),(34,133),(39,140),(42,147),(44,154),(49,161),(56,189),(64,215),(72,241),(76,260),(85,286),(99,312),(107,319),(115,326),(119,333),(140,340),(148,347),(150,354),(182,416),(193,423),(216,466),(222,473),(228,480),(242,487),(250,494),(258,502),(274,509),(276,516),(278,523),(280,530),(282,537),(290,544),(300,551),(310,558),(321,565),(325,572),(337,579),(371,641),(377,648),(386,653),(390,660),(433,733),(446,775),(457,808),(469,842),(484,883),(512,936),(537,989),(539,996),(547,1003),(555,1010),(565,1017),(576,1024),(598,1080),(608,1087),(616,1094),(623,1101),(627,1108),(631,1115),(633,1122),(638,1129),(647,1136),(671,1143),(680,1171),(682,1178),(684,1185),(686,1190),(688,1197),(698,1204),(702,1211),(708,1218),(714,1225),(723,1232),(728,1239),(734,1246),(750,1253),(764,1260),(784,1267),(793,1274),(800,1281),(814,1286),(823,1293),(842,1300),(852,1307),(856,1314),(862,1321),(872,1328),(881,1335),(893,1340),(908,1347),(914,1354),(930,1396),(983,1492),(992,1499),(1003,1504),(1012,1511),(1015,1518),(1019,1525),(1023,1532),(1036,1539),(1045,1546),(1047,1553),(1051,1560),(1060,1567),(1085,1574),(1087,1581),(1091,1588),(1095,1595),(1109,1602),(1123,1609),(1131,1616),(1140,1623),(1150,1630),(1162,1637),(1172,1644),(1176,1651),(1186,1658),(1191,1665),(1203,1672),(1226,1679),(1240,1684),(1247,1691),(1252,1698),(1285,1705),(1288,1712)]
def e3:List Ent:=[en "__name__" 165 cT,en "__doc__" 166 N,en "__package__" 167 N,en "__loader__" 168 (U "__main__.__loader__#opaque"),en "__spec__" 169 N,en "__annotations__" 170 (R 6),en "__builtins__" 171 (R 4),en "__file__" 173 (S "/claim/cut.py" 172),en "__cached__" 174 N,en "_wall" 193 (R 21),en "Place" 233 (R 45),en "MintError" 271 (R 74),en "ReadError" 287 (R 87),en "OperandError" 303 (R 99),en "SymbolError" 319 (R 111),en "mask" 326 (R 120),en "wrap" 334 (R 127),en "signed" 343 (R 134),en "fits_signed" 352 (R 141),en "fits_unsigned" 360 (R 148),en "fits_either" 368 (R 155),en "MOST_DEPTH" 372 (I 10 371),en "MOST_SHIFT" 374 (I 63 373),en "Expr" 410 (R 179),en "Number" 443 (R 207),en "Symbol" 476 (R 233),en "Here" 500 (R 252),en "Unary" 535 (R 278),en "Binary" 576 (R 304),en "left_spine" 585 (R 313),en "level_of" 592 (R 320),en "binary_level" 599 (R 327),en "read_part" 609 (R 334),en "read_level" 621 (R 341),en "read_expr" 628 (R 348),en "Affine" 709 (R 408),en "affine_of" 715 (R 417),en "Scope" 771 (R 456),en "quotient" 779 (R 467),en "shifted" 788 (R 474),en "reckoned" 797 (R 481),en "combined" 806 (R 488),en "turned" 814 (R 495),en "evaluate" 828 (R 503),en "is_fixed" 837 (R 510),en "is_immediate" 844 (R 517),en "is_relative" 851 (R 524),en "takes_memory" 858 (R 531),en "kind_size" 865 (R 538),en "slot_of" 872 (R 545),en "takes_register" 880 (R 552),en "takes_worth" 890 (R 559),en "takes_distance" 898 (R 566),en "takes" 907 (R 573),en "Form" 990 (R 631),en "ALIASES" 994 (S "c:b nae:b nb:ae nc:ae z:e nz:ne na:be nbe:a pe:p po:np nge:l nl:ge ng:le nle:g" 993),en "OTHER_NAMES" 996 (S "sal:shl loopz:loope loopnz:loopne repe:rep repz:rep repnz:repne" 995),en "pairs_of" 1007 (R 642),en "canonical" 1017 (R 649),en "codes_of" 1023 (R 654),en "InstructionSet" 1117 (R 723),en "MEMORY_SIZES" 1121 (S "0 8 16 32 64 128" 1120),en "SCALES" 1123 (S "1 2 4 8" 1122),en "Operand" 1173 (R 765),en "Reg" 1212 (R 800),en "Imm" 1254 (R 834),en "Rel" 1304 (R 875),en "Mem" 1380 (R 928),en "Instruction" 1452 (R 979),en "is_address_register" 1459 (R 990),en "check_base" 1466 (R 997),en "check_index" 1473 (R 1004),en "check_mem" 1480 (R 1011),en "sized" 1488 (R 1018),en "NAMES_8" 1492 (S "al cl dl bl spl bpl sil dil" 1491),en "NAMES_16" 1494 (S "ax cx dx bx sp bp si di" 1493),en "NAMES_32" 1496 (S "eax ecx edx ebx esp ebp esi edi" 1495),en "NAMES_64" 1498 (S "rax rcx rdx rbx rsp rbp rsi rdi" 1497),en "HIGH_NAMES" 1500 (S "ah ch dh bh" 1499),en "LATE_NUMBERS" 1502 (S "8 9 10 11 12 13 14 15" 1501),en "XMM_NUMBERS" 1504 (S "0 1 2 3 4 5 6 7 8 9 10 11 12 13 14 15" 1503),en "SEGMENT_NAMES" 1506 (S "es cs ss ds fs gs" 1505),en "Register" 1576 (R 1070),en "early_names" 1583 (R 1081),en "late_ending" 1590 (R 1088),en "gpr" 1599 (R 1095),en "high" 1606 (R 1102),en "xmm" 1613 (R 1109),en "rip" 1619 (R 1116),en "segment" 1627 (R 1123),en "late_register" 1637 (R 1130),en "find_register" 1646 (R 1137),en "PREFIX_WORDS" 1650 (S "lock rep repe repz repne repnz" 1649),en "COUNTED" 1652 (S "rol ror rcl rcr shl shr sar shld shrd" 1651),en "TURNS" 1654 (S "rol ror rcl rcr shl shr sar" 1653),en "WIDENED" 1656 (S "movzx movsx movsxd" 1655),en "STRINGS" 1658 (S "movs cmps stos lods scas" 1657),en "WORDS_ALONE" 1660 (S "cltq cqto cltd cwtl cwtd cbtw pushf popf" 1659),en "NAMES_ALONE" 1662 (S "cdqe cqo cdq cwde cwd cbw pushfq popfq" 1661),en "WIDE_ALONE" 1664 (S "push pop jmp call" 1663),en "POINT" 1666 (S "." 1665),en "Head" 1706 (R 1161),en "is_branch" 1713 (R 1172),en "suffix_size" 1720 (R 1179),en "is_general" 1727 (R 1186),en "has_xmm" 1733 (R 1191),en "read_head" 1743 (R 1198),en "plain_part" 1751 (R 1205),en "goal_of" 1759 (R 1212),en "checked_mem" 1768 (R 1219),en "take_register" 1777 (R 1226),en "opens_base" 1785 (R 1233),en "read_scale" 1795 (R 1240),en "read_base" 1807 (R 1247),en "read_place" 1824 (R 1254),en "read_operand" 1838 (R 1261),en "read_operands" 1848 (R 1268),en "name_alone" 1856 (R 1275),en "widened_word" 1865 (R 1282),en "takes_suffix" 1871 (R 1287),en "told_word" 1883 (R 1294),en "plain_operands" 1891 (R 1301),en "telling" 1899 (R 1308),en "check_registers" 1913 (R 1315),en "could_take" 1923 (R 1322),en "only_size" 1936 (R 1329),en "memory_size" 1949 (R 1336),en "complete" 1955 (R 1341),en "read_att" 1969 (R 1348),en "Token" 2028 (R 1386),en "Cursor" 2142 (R 1484),en "_law_box" 2150 (R 1493),en "_law_draw" 2160 (R 1500),en "_law_forms" 2166 (R 1505),en "_law_set" 2174 (R 1512),en "_law_letter" 2183 (R 1519),en "_law_plain" 2190 (R 1526),en "_law_number" 2199 (R 1533),en "_law_sum" 2209 (R 1540),en "_law_symbol" 2216 (R 1547),en "_law_reg" 2226 (R 1554),en "_law_inner" 2237 (R 1561),en "_law_place" 2255 (R 1568),en "_law_either" 2263 (R 1575),en "_law_immediate" 2273 (R 1582),en "_law_condition" 2282 (R 1589),en "_law_shift" 2297 (R 1596),en "_law_two" 2313 (R 1603),en "_law_exchange" 2328 (R 1610),en "_law_extension" 2345 (R 1617),en "_law_through" 2359 (R 1624),en "_law_target" 2373 (R 1631),en "_law_conditional" 2389 (R 1638),en "_law_alone" 2399 (R 1645),en "_law_product" 2415 (R 1652),en "_law_lea" 2427 (R 1659),en "_law_vector" 2443 (R 1666),en "_law_line" 2451 (R 1673),en "_law_heard" 2463 (R 1680),en "_law_rows" 2469 (R 1685),en "_law_is_read" 2484 (R 1692),en "_law_spoiled" 2501 (R 1699),en "_law_is_refused" 2510 (R 1706),en "law" 2519 (R 1713)]
def e0:List Ent:=[en "__name__" 1 (S "builtins" 160),en "__doc__" 2 (U "builtins.__doc__:str#opaque"),en "__package__" 3 (U "builtins.__package__:str#opaque"),en "__loader__" 4 (U "builtins.__loader__:shared#opaque"),en "__spec__" 5 (U "builtins.__spec__#opaque")]++nu 6 ["__build_class__","__import__","abs","all","any","ascii","bin","breakpoint","callable","chr","compile","delattr","dir","divmod","eval","exec","format","getattr","globals","hasattr","hash","hex","id","input","isinstance","issubclass","iter","aiter","len","locals","max","min","next","anext","oct","ord","pow","print","repr","round","setattr","sorted","sum","vars"]++[en "None" 50 N,en "Ellipsis" 51 Value.ellipsis,en "NotImplemented" 52 Value.notImplemented,en "False" 53 (B ae),en "True" 54 (B ac)]++ny 55 ["bool","memoryview","bytearray","bytes","classmethod","complex","dict","enumerate","filter","float","frozenset","property","int","list","map","object","range","reversed","set","slice","staticmethod","str","super","tuple","type","zip"]++[en "__debug__" 81 (B ac)]++ny 82 ["BaseException","BaseExceptionGroup","Exception","GeneratorExit","KeyboardInterrupt","SystemExit","ArithmeticError","AssertionError","AttributeError","BufferError","EOFError","ImportError","LookupError","MemoryError","NameError","OSError","ReferenceError","RuntimeError","StopAsyncIteration","StopIteration","SyntaxError","SystemError","TypeError","ValueError","Warning","FloatingPointError","OverflowError","ZeroDivisionError","BytesWarning","DeprecationWarning","EncodingWarning","FutureWarning","ImportWarning","PendingDeprecationWarning","ResourceWarning","RuntimeWarning","SyntaxWarning","UnicodeWarning","UserWarning","BlockingIOError","ChildProcessError","ConnectionError","FileExistsError","FileNotFoundError","InterruptedError","IsADirectoryError","NotADirectoryError","PermissionError","ProcessLookupError","TimeoutError","IndentationError","_IncompleteInputError","IndexError","KeyError","ModuleNotFoundError","NotImplementedError","PythonFinalizationError","RecursionError","UnboundLocalError","UnicodeError","BrokenPipeError","ConnectionAbortedError","ConnectionRefusedError","ConnectionResetError","TabError","UnicodeDecodeError","UnicodeEncodeError","UnicodeTranslateError","ExceptionGroup"]++[en "EnvironmentError" 151 (Y "OSError"),en "IOError" 152 (Y "OSError"),en "open" 153 (U "open"),en "quit" 154 (U "builtins.quit#opaque"),en "exit" 155 (U "builtins.exit#opaque"),en "copyright" 156 (U "builtins.copyright#opaque"),en "credits" 157 (U "builtins.credits#opaque"),en "license" 158 (U "builtins.license#opaque"),en "help" 159 (U "builtins.help#opaque")]
def o0(P:dw):dJ:=di P e0
def o3(P:dw):dJ:=di P e3
def c2(t:Nat)(l:Int)(m:al)(r x:List Ent):List Ent:=("__module__",t,m)::("__firstlineno__",t+4,I l (t+3))::(r++x)
def c3(n:ao)(t:Nat)(l:Int)(m:al)(r:List Ent):List Ent:=("__module__",t,m)::("__qualname__",t+2,S n (t+1))::("__firstlineno__",t+4,I l (t+3))::r
def y0:List Ent:=[("__init__",216,R 35),("told",223,R 42),("__static_attributes__",226,R 43)]
def y1:List Ent:=[("__init__",254,R 64),("told",261,R 71),("__static_attributes__",264,R 72)]
def y2:List Ent:=[("__static_attributes__",284,R 85)]
def y3:List Ent:=[("__static_attributes__",300,R 97)]
def y4:List Ent:=[("__static_attributes__",316,R 109)]
def y5:List Ent:=[("__init__",394,R 169),("told",401,R 176),("__static_attributes__",403,R 177)]
def y6:List Ent:=[("__init__",430,R 197),("told",437,R 204),("__static_attributes__",440,R 205)]
def y7:List Ent:=[("__init__",463,R 223),("told",470,R 230),("__static_attributes__",473,R 231)]
def y8:List Ent:=[("__init__",495,R 249),("__static_attributes__",497,R 250)]
def y9:List Ent:=[("__init__",521,R 268),("told",528,R 275),("__static_attributes__",532,R 276)]
def Wo:List Ent:=[("__init__",557,R 294),("told",568,R 301),("__static_attributes__",573,R 302)]
def Wn:List Ent:=[("__init__",652,R 363),("told",659,R 370),("is_number",666,R 377),("is_symbol",673,R 384),("negate",680,R 391),("add",688,R 398),("places",698,R 405),("__static_attributes__",702,R 406)]
def Wm:List Ent:=[("__init__",735,R 432),("put",744,R 439),("find",752,R 446),("settled",762,R 453),("__static_attributes__",764,R 454)]
def Wl:List Ent:=[("__init__",930,R 586),("told",937,R 593),("slots",944,R 600),("has_modrm",951,R 607),("has_plus",958,R 614),("memory_size",965,R 621),("needs_memory",972,R 628),("__static_attributes__",983,R 629)]
def Wk:List Ent:=[("__init__",1046,R 668),("told",1052,R 673),("find",1060,R 680),("has",1068,R 687),("at",1078,R 694),("names",1085,R 701),("codes",1092,R 708),("counts",1098,R 713),("memory_sizes",1106,R 720),("__static_attributes__",1110,R 721)]
def Wj:List Ent:=[("__init__",1143,R 741),("told",1150,R 748),("symbol",1157,R 755),("registers",1164,R 762),("__static_attributes__",1166,R 763)]
def Wi:List Ent:=[("__init__",1193,R 783),("told",1200,R 790),("registers",1207,R 797),("__static_attributes__",1209,R 798)]
def Wh:List Ent:=[("__init__",1234,R 817),("told",1241,R 824),("symbol",1248,R 831),("__static_attributes__",1251,R 832)]
def Wg:List Ent:=[("__init__",1276,R 851),("told",1283,R 858),("symbol",1290,R 865),("target",1298,R 872),("__static_attributes__",1301,R 873)]
def Wf:List Ent:=[("__init__",1333,R 892),("told",1342,R 899),("symbol",1349,R 906),("registers",1355,R 911),("is_rip",1362,R 918),("is_absolute",1369,R 925),("__static_attributes__",1377,R 926)]
def We:List Ent:=[("__init__",1403,R 945),("told",1409,R 950),("memory_at",1418,R 957),("memory",1426,R 964),("symbols",1432,R 969),("replaced",1441,R 976),("__static_attributes__",1445,R 977)]
def Wd:List Ent:=[("__init__",1529,R 1032),("code",1536,R 1039),("is_extended",1543,R 1046),("is_high",1550,R 1053),("needs_rex",1557,R 1060),("told",1564,R 1067),("__static_attributes__",1569,R 1068)]
def Wc:List Ent:=[("__init__",1688,R 1151),("told",1695,R 1158),("__static_attributes__",1699,R 1159)]
def Wb:List Ent:=[("__init__",1994,R 1362),("is_sign",2002,R 1369),("is_backward",2009,R 1376),("told",2016,R 1383),("__static_attributes__",2021,R 1384)]
def Wa:List Ent:=[("__init__",2048,R 1404),("peek",2055,R 1411),("ahead",2063,R 1418),("take",2071,R 1425),("is_sign",2079,R 1432),("is_end",2086,R 1439),("skip",2094,R 1446),("skip_name",2102,R 1453),("need",2110,R 1460),("need_end",2117,R 1467),("name",2125,R 1474),("rest_place",2132,R 1481),("__static_attributes__",2135,R 1482)]
def FS(P:dw):List (List dJ):=[[o0 P,di P [("builtins",162,R 4),("__main__",163,R 5)],Rv N 2 P [("type.__subclasses__.Exception.0",268,I 74 0),("type.__subclasses__.Exception.n",269,I 1 0)],o3 P,⟨Y "module",aa 0,.plain,#[]⟩,⟨Y "module",aa 3,.plain,#[]⟩,di P [],tu [],fl (N) [],fl (Y "code") [S "<module>" 176,S "<module>" 177,S "/claim/cut.py" 178,I 1 0,I 0 0,I 0 0,I 0 0,I 0 0,R 7,B ae,I 175 0,R 8,N,N,N,N,I 179 0,I 1 0,S "/claim/cut.py" 180],n8 9 3 Gu,tu [],ln 0 W8,fl (Y "code") [S "<module>" 182,S "<module>" 183,S "/claim/cut.py" 184,I 1 0,I 0 0,I 0 0,I 0 0,I 0 0,R 11,B ae,I 181 0,R 12,N,N,N,N,I 185 0,I 1 0,S "/claim/cut.py" 186],n8 13 3 Gu],f7 15 187 (fd 0) "_wall" N Gu,[tu [],hI,di P (c3 "Place" 203 5 hN y0),tu [],ln 4 [(7,34),(11,41)],cc "Place" 198 5 25,n8 27 24 hN],f7 29 208 (fm 2 0) "Place.__init__" N hN,f7 36 217 (fm 2 1) "Place.told" N hN,[tu [S "column" 224,S "line" 225],d4 P (c2 203 5 hN y0 [("__dict__",228,R 46),("__weakref__",230,R 47),("__doc__",231,N)]),cls "Place" [Y "object"] [R 45,Y "object"] 44 [] ak 196 204 oN,AS 227 45,Av 229 45,sup 45,qc 45,tu [Y "Exception"],hI,di P (c3 "MintError" 241 13 hN y1),tu [],ln 4 [(15,63),(20,70)],cc "MintError" 236 13 53,n8 55 52 hN,tu [N]],f7 58 246 (fm 3 0) "MintError.__init__" (R 57) hN,f7 65 255 (fm 3 1) "MintError.told" N hN,[tu [S "at" 262,S "what" 263],d3 P (c2 241 13 hN y1 [("__weakref__",266,R 75),("__doc__",267,N)]),cls "MintError" [Y "Exception"] [R 74,Y "Exception",Y "BaseException",Y "object"] 73 [R 87,R 99,R 111] (aa (R 50)) 234 242 eN,Av 265 74,sup 74,qc 74,tu [R 74],hI,di P (c3 "ReadError" 279 24 hN y2),tu [],fl (N) [],cc "ReadError" 274 24 81,n8 83 80 hN,tu [],d2 P (c2 279 24 hN y2 [("__doc__",285,N)]),cls "ReadError" [R 74] [R 87,R 74,Y "Exception",Y "BaseException",Y "object"] 86 [] (aa (R 78)) 272 280 eN,sup 87,qc 87,tu [R 74],hI,di P (c3 "OperandError" 295 26 hN y3),tu [],fl (N) [],cc "OperandError" 290 26 93,n8 95 92 hN,tu [],d2 P (c2 295 26 hN y3 [("__doc__",301,N)]),cls "OperandError" [R 74] [R 99,R 74,Y "Exception",Y "BaseException",Y "object"] 98 [] (aa (R 90)) 288 296 eN,sup 99,qc 99,tu [R 74],hI,di P (c3 "SymbolError" 311 28 hN y4),tu [],fl (N) [],cc "SymbolError" 306 28 105,n8 107 104 hN,tu [],d2 P (c2 311 28 hN y4 [("__doc__",317,N)]),cls "SymbolError" [R 74] [R 111,R 74,Y "Exception",Y "BaseException",Y "object"] 110 [] (aa (R 102)) 304 312 eN,sup 111,qc 111],f7 114 320 (fd 7) "mask" N hN,f7 121 327 (fd 8) "wrap" N hN,f7 128 335 (fd 9) "signed" N hN,f7 135 344 (fd 10) "fits_signed" N hN,f7 142 353 (fd 11) "fits_unsigned" N hN,f7 149 361 (fd 12) "fits_either" N hN,[tu [],hI,di P (c3 "Expr" 382 49 cI y5),tu [],ln 4 [(51,168),(54,175)],cc "Expr" 377 49 159,n8 161 158 cI],f7 163 387 (fm 16 0) "Expr.__init__" N cI,f7 170 395 (fm 16 1) "Expr.told" N cI,[tu [S "kind" 402],d4 P (c2 382 49 cI y5 [("__dict__",405,R 180),("__weakref__",407,R 181),("__doc__",408,N)]),cls "Expr" [Y "object"] [R 179,Y "object"] 178 [R 207,R 233,R 252,R 278,R 304] ak 375 383 oN,AS 404 179,Av 406 179,sup 179,qc 179,tu [R 179],hI,di P (c3 "Number" 418 56 cI y6),tu [],ln 4 [(58,196),(62,203)],cc "Number" 413 56 187,n8 189 186 cI],f7 191 423 (fm 17 0) "Number.__init__" N cI,f7 198 431 (fm 17 1) "Number.told" N cI,[tu [S "kind" 438,S "worth" 439],d2 P (c2 418 56 cI y6 [("__doc__",441,N)]),cls "Number" [R 179] [R 207,R 179,Y "object"] 206 [] (aa (R 184)) 411 419 oN,sup 207,qc 207,tu [R 179],hI,di P (c3 "Symbol" 451 64 cI y7),tu [],ln 4 [(66,222),(70,229)],cc "Symbol" 446 64 213,n8 215 212 cI],f7 217 456 (fm 18 0) "Symbol.__init__" N cI,f7 224 464 (fm 18 1) "Symbol.told" N cI,[tu [S "kind" 471,S "name" 472],d2 P (c2 451 64 cI y7 [("__doc__",474,N)]),cls "Symbol" [R 179] [R 233,R 179,Y "object"] 232 [] (aa (R 210)) 444 452 oN,sup 233,qc 233,tu [R 179],hI,di P (c3 "Here" 484 72 cI y8),tu [],ln 4 [(74,248)],cc "Here" 479 72 239,n8 241 238 cI],f7 243 489 (fm 19 0) "Here.__init__" N cI,[tu [S "kind" 496],d2 P (c2 484 72 cI y8 [("__doc__",498,N)]),cls "Here" [R 179] [R 252,R 179,Y "object"] 251 [] (aa (R 236)) 477 485 oN,sup 252,qc 252,tu [R 179],hI,di P (c3 "Unary" 508 76 cI y9),tu [],ln 4 [(78,267),(83,274)],cc "Unary" 503 76 258,n8 260 257 cI],f7 262 513 (fm 20 0) "Unary.__init__" N cI,f7 269 522 (fm 20 1) "Unary.told" N cI,[tu [S "body" 529,S "kind" 530,S "sign" 531],d2 P (c2 508 76 cI y9 [("__doc__",533,N)]),cls "Unary" [R 179] [R 278,R 179,Y "object"] 277 [] (aa (R 255)) 501 509 oN,sup 278,qc 278,tu [R 179],hI,di P (c3 "Binary" 543 85 cI Wo),tu [],ln 4 [(87,293),(93,300)],cc "Binary" 538 85 284,n8 286 283 cI],f7 288 548 (fm 21 0) "Binary.__init__" N cI,f7 295 558 (fm 21 1) "Binary.told" N cI,[tu [S "kind" 569,S "left" 570,S "right" 571,S "sign" 572],d2 P (c2 543 85 cI Wo [("__doc__",574,N)]),cls "Binary" [R 179] [R 304,R 179,Y "object"] 303 [] (aa (R 281)) 536 544 oN,sup 304,qc 304],f7 307 577 (fd 22) "left_spine" N cI,f7 314 586 (fd 23) "level_of" N cI,f7 321 593 (fd 24) "binary_level" N cI,f7 328 600 (fd 25) "read_part" N cI,f7 335 610 (fd 26) "read_level" N cI,f7 342 622 (fd 27) "read_expr" N cI,[tu [],hI,di P (c3 "Affine" 636 150 cI Wn),tu [],ln 4 [(152,362),(157,369),(160,376),(163,383),(166,390),(169,397),(172,404)],cc "Affine" 631 150 352,n8 354 351 cI,tu [S "" 641,S "" 642]],f7 357 643 (fm 28 0) "Affine.__init__" (R 356) cI,f7 364 653 (fm 28 1) "Affine.told" N cI,f7 371 660 (fm 28 2) "Affine.is_number" N cI,f7 378 667 (fm 28 3) "Affine.is_symbol" N cI,f7 385 674 (fm 28 4) "Affine.negate" N cI,f7 392 681 (fm 28 5) "Affine.add" N cI,f7 399 689 (fm 28 6) "Affine.places" N cI,[tu [S "minus" 699,S "plus" 700,S "worth" 701],d4 P (c2 636 150 cI Wn [("__dict__",704,R 409),("__weakref__",706,R 410),("__doc__",707,N)]),cls "Affine" [Y "object"] [R 408,Y "object"] 407 [] ak 629 637 oN,AS 703 408,Av 705 408,sup 408,qc 408],f5 413 710 (fd 29) "affine_of" N cI,[tu [],hI,di P (c3 "Scope" 723 193 cI Wm),tu [],ln 4 [(195,431),(198,438),(201,445),(204,452)],cc "Scope" 718 193 421,n8 423 420 cI,tu [N]],f7 426 728 (fm 30 0) "Scope.__init__" (R 425) cI,f7 433 736 (fm 30 1) "Scope.put" N cI,f7 440 745 (fm 30 2) "Scope.find" N cI,f7 447 753 (fm 30 3) "Scope.settled" N cI,[tu [S "equates" 763],d4 P (c2 723 193 cI Wm [("__dict__",766,R 457),("__weakref__",768,R 458),("__doc__",769,N)]),cls "Scope" [Y "object"] [R 456,Y "object"] 455 [] ak 716 724 oN,AS 765 456,Av 767 456,sup 456,qc 456],f7 461 772 (fd 31) "quotient" N cI,f7 468 780 (fd 32) "shifted" N cI,f7 475 789 (fd 33) "reckoned" N cI,f7 482 798 (fd 34) "combined" N cI,f7 489 807 (fd 35) "turned" N cI,[tu [S "" 815]],f7 497 816 (fd 36) "evaluate" (R 496) cI,f7 504 831 (fd 38) "is_fixed" N jq,f7 511 838 (fd 39) "is_immediate" N jq,f7 518 845 (fd 40) "is_relative" N jq,f7 525 852 (fd 41) "takes_memory" N jq,f7 532 859 (fd 42) "kind_size" N jq,f7 539 866 (fd 43) "slot_of" N jq,f7 546 873 (fd 44) "takes_register" N jq,f7 553 881 (fd 45) "takes_worth" N jq,f7 560 891 (fd 46) "takes_distance" N jq,f7 567 899 (fd 47) "takes" N jq,[tu [],hI,di P (c3 "Form" 915 337 jq Wl),tu [],ln 4 [(339,585),(351,592),(354,599),(357,606),(360,613),(363,620),(366,627)],cc "Form" 910 337 577,n8 579 576 jq,tu [I 0 920,I (-1) 922,I 0 923,I 0 924,B ae]],f5 582 925 (fm 48 0) "Form.__init__" (R 581) jq,f7 587 931 (fm 48 1) "Form.told" N jq,f7 594 938 (fm 48 2) "Form.slots" N jq,f7 601 945 (fm 48 3) "Form.has_modrm" N jq,f7 608 952 (fm 48 4) "Form.has_plus" N jq,f7 615 959 (fm 48 5) "Form.memory_size" N jq,f7 622 966 (fm 48 6) "Form.needs_memory" N jq,[tu [S "digit" 973,S "escape" 974,S "is_wide" 975,S "kinds" 976,S "must" 977,S "name" 978,S "number" 979,S "opcode" 980,S "places" 981,S "size" 982],d4 P (c2 915 337 jq Wl [("__dict__",985,R 632),("__weakref__",987,R 633),("__doc__",988,N)]),cls "Form" [Y "object"] [R 631,Y "object"] 630 [] ak 908 916 oN,AS 984 631,Av 986 631,sup 631,qc 631],f7 636 997 (fd 52) "pairs_of" N kV,f7 643 1008 (fd 53) "canonical" N kV,f5 650 1018 (fd 54) "codes_of" N kV,[tu [],hI,di P (c3 "InstructionSet" 1031 390 kV Wk),tu [],ln 4 [(392,667),(407,672),(410,679),(413,686),(416,693),(419,700),(422,707),(425,712),(428,719)],cc "InstructionSet" 1026 390 658,n8 660 657 kV],f7 662 1036 (fm 55 0) "InstructionSet.__init__" N kV,f5 669 1047 (fm 55 1) "InstructionSet.told" N kV,f7 674 1053 (fm 55 2) "InstructionSet.find" N kV,f7 681 1061 (fm 55 3) "InstructionSet.has" N kV,f7 688 1069 (fm 55 4) "InstructionSet.at" N kV,f7 695 1079 (fm 55 5) "InstructionSet.names" N kV,f7 702 1086 (fm 55 6) "InstructionSet.codes" N kV,f5 709 1093 (fm 55 7) "InstructionSet.counts" N kV,f7 714 1099 (fm 55 8) "InstructionSet.memory_sizes" N kV,[tu [S "by_code" 1107,S "by_name" 1108,S "forms" 1109],d4 P (c2 1031 390 kV Wk [("__dict__",1112,R 724),("__weakref__",1114,R 725),("__doc__",1115,N)]),cls "InstructionSet" [Y "object"] [R 723,Y "object"] 722 [] ak 1024 1032 oN,AS 1111 723,Av 1113 723,sup 723,qc 723,tu [],hI,di P (c3 "Operand" 1131 433 cb Wj),tu [],ln 4 [(435,740),(438,747),(441,754),(444,761)],cc "Operand" 1126 433 731,n8 733 730 cb],f7 735 1136 (fm 59 0) "Operand.__init__" N cb,f7 742 1144 (fm 59 1) "Operand.told" N cb,f7 749 1151 (fm 59 2) "Operand.symbol" N cb,f7 756 1158 (fm 59 3) "Operand.registers" N cb,[tu [S "kind" 1165],d4 P (c2 1131 433 cb Wj [("__dict__",1168,R 766),("__weakref__",1170,R 767),("__doc__",1171,N)]),cls "Operand" [Y "object"] [R 765,Y "object"] 764 [R 800,R 834,R 875,R 928] ak 1124 1132 oN,AS 1167 765,Av 1169 765,sup 765,qc 765,tu [R 765],hI,di P (c3 "Reg" 1181 446 cb Wi),tu [],ln 4 [(448,782),(452,789),(455,796)],cc "Reg" 1176 446 773,n8 775 772 cb],f7 777 1186 (fm 60 0) "Reg.__init__" N cb,f7 784 1194 (fm 60 1) "Reg.told" N cb,f7 791 1201 (fm 60 2) "Reg.registers" N cb,[tu [S "register" 1208],d2 P (c2 1181 446 cb Wi [("__doc__",1210,N)]),cls "Reg" [R 765] [R 800,R 765,Y "object"] 799 [] (aa (R 770)) 1174 1182 oN,sup 800,qc 800,tu [R 765],hI,di P (c3 "Imm" 1220 457 cb Wh),tu [],ln 4 [(459,816),(464,823),(467,830)],cc "Imm" 1215 457 806,n8 808 805 cb,tu [S "" 1225]],f7 811 1226 (fm 61 0) "Imm.__init__" (R 810) cb,f7 818 1235 (fm 61 1) "Imm.told" N cb,f7 825 1242 (fm 61 2) "Imm.symbol" N cb,[tu [S "name" 1249,S "worth" 1250],d2 P (c2 1220 457 cb Wh [("__doc__",1252,N)]),cls "Imm" [R 765] [R 834,R 765,Y "object"] 833 [] (aa (R 803)) 1213 1221 oN,sup 834,qc 834,tu [R 765],hI,di P (c3 "Rel" 1262 469 cb Wg),tu [],ln 4 [(471,850),(476,857),(479,864),(482,871)],cc "Rel" 1257 469 840,n8 842 839 cb,tu [S "" 1267]],f7 845 1268 (fm 62 0) "Rel.__init__" (R 844) cb,f7 852 1277 (fm 62 1) "Rel.told" N cb,f7 859 1284 (fm 62 2) "Rel.symbol" N cb,f7 866 1291 (fm 62 3) "Rel.target" N cb,[tu [S "name" 1299,S "worth" 1300],d2 P (c2 1262 469 cb Wg [("__doc__",1302,N)]),cls "Rel" [R 765] [R 875,R 765,Y "object"] 874 [] (aa (R 837)) 1255 1263 oN,sup 875,qc 875,tu [R 765],hI,di P (c3 "Mem" 1312 484 cb Wf),tu [],ln 4 [(486,891),(496,898),(501,905),(504,910),(507,917),(510,924)],cc "Mem" 1307 484 881,n8 883 880 cb,tu [I 0 1317,S "" 1318,S "" 1319]],f7 886 1320 (fm 63 0) "Mem.__init__" (R 885) cb,f7 893 1334 (fm 63 1) "Mem.told" N cb,f7 900 1343 (fm 63 2) "Mem.symbol" N cb,f5 907 1350 (fm 63 3) "Mem.registers" N cb,f7 912 1356 (fm 63 4) "Mem.is_rip" N cb,f7 919 1363 (fm 63 5) "Mem.is_absolute" N cb,[tu [S "base" 1370,S "index" 1371,S "name" 1372,S "scale" 1373,S "segment" 1374,S "size" 1375,S "worth" 1376],d2 P (c2 1312 484 cb Wf [("__doc__",1378,N)]),cls "Mem" [R 765] [R 928,R 765,Y "object"] 927 [] (aa (R 878)) 1305 1313 oN,sup 928,qc 928,tu [],hI,di P (c3 "Instruction" 1388 512 cb We),tu [],ln 4 [(514,944),(519,949),(522,956),(528,963),(532,968),(535,975)],cc "Instruction" 1383 512 934,n8 936 933 cb,tu [S "" 1393]],f7 939 1394 (fm 64 0) "Instruction.__init__" (R 938) cb,f5 946 1404 (fm 64 1) "Instruction.told" N cb,f7 951 1410 (fm 64 2) "Instruction.memory_at" N cb,f7 958 1419 (fm 64 3) "Instruction.memory" N cb,f5 965 1427 (fm 64 4) "Instruction.symbols" N cb,f7 970 1433 (fm 64 5) "Instruction.replaced" N cb,[tu [S "name" 1442,S "operands" 1443,S "prefix" 1444],d4 P (c2 1388 512 cb We [("__dict__",1447,R 980),("__weakref__",1449,R 981),("__doc__",1450,N)]),cls "Instruction" [Y "object"] [R 979,Y "object"] 978 [] ak 1381 1389 oN,AS 1446 979,Av 1448 979,sup 979,qc 979],f7 984 1453 (fd 65) "is_address_register" N cb,f7 991 1460 (fd 66) "check_base" N cb,f7 998 1467 (fd 67) "check_index" N cb,f7 1005 1474 (fd 68) "check_mem" N cb,f7 1012 1481 (fd 69) "sized" N cb,[tu [],hI,di P (c3 "Register" 1514 576 f6 Wd),tu [],ln 4 [(578,1031),(584,1038),(587,1045),(590,1052),(593,1059),(596,1066)],cc "Register" 1509 576 1022,n8 1024 1021 f6],f7 1026 1519 (fm 79 0) "Register.__init__" N f6,f7 1033 1530 (fm 79 1) "Register.code" N f6,f7 1040 1537 (fm 79 2) "Register.is_extended" N f6,f7 1047 1544 (fm 79 3) "Register.is_high" N f6,f7 1054 1551 (fm 79 4) "Register.needs_rex" N f6,f7 1061 1558 (fm 79 5) "Register.told" N f6,[tu [S "kind" 1565,S "name" 1566,S "number" 1567,S "size" 1568],d4 P (c2 1514 576 f6 Wd [("__dict__",1571,R 1071),("__weakref__",1573,R 1072),("__doc__",1574,N)]),cls "Register" [Y "object"] [R 1070,Y "object"] 1069 [] ak 1507 1515 oN,AS 1570 1070,Av 1572 1070,sup 1070,qc 1070],f7 1075 1577 (fd 80) "early_names" N f6,f7 1082 1584 (fd 81) "late_ending" N f6,f7 1089 1591 (fd 82) "gpr" N f6,f7 1096 1600 (fd 83) "high" N f6,f7 1103 1607 (fd 84) "xmm" N f6,f7 1110 1614 (fd 85) "rip" N f6,f7 1117 1620 (fd 86) "segment" N f6,f7 1124 1628 (fd 87) "late_register" N f6,f7 1131 1638 (fd 88) "find_register" N f6,[tu [],hI,di P (c3 "Head" 1674 671 cY Wc),tu [],ln 4 [(673,1150),(678,1157)],cc "Head" 1669 671 1141,n8 1143 1140 cY],f7 1145 1679 (fm 99 0) "Head.__init__" N cY,f7 1152 1689 (fm 99 1) "Head.told" N cY,[tu [S "at" 1696,S "prefix" 1697,S "word" 1698],d4 P (c2 1674 671 cY Wc [("__dict__",1701,R 1162),("__weakref__",1703,R 1163),("__doc__",1704,N)]),cls "Head" [Y "object"] [R 1161,Y "object"] 1160 [] ak 1667 1675 oN,AS 1700 1161,Av 1702 1161,sup 1161,qc 1161],f7 1166 1707 (fd 100) "is_branch" N cY,f7 1173 1714 (fd 101) "suffix_size" N cY,f7 1180 1721 (fd 102) "is_general" N cY,f5 1187 1728 (fd 103) "has_xmm" N cY,f7 1192 1734 (fd 104) "read_head" N cY,f7 1199 1744 (fd 105) "plain_part" N cY,f7 1206 1752 (fd 106) "goal_of" N cY,f7 1213 1760 (fd 107) "checked_mem" N cY,f7 1220 1769 (fd 108) "take_register" N cY,f7 1227 1778 (fd 109) "opens_base" N cY,f7 1234 1786 (fd 110) "read_scale" N cY,f7 1241 1796 (fd 111) "read_base" N cY,f7 1248 1808 (fd 112) "read_place" N cY,f7 1255 1825 (fd 113) "read_operand" N cY,f7 1262 1839 (fd 114) "read_operands" N cY,f7 1269 1849 (fd 115) "name_alone" N cY,f7 1276 1857 (fd 116) "widened_word" N cY,f5 1283 1866 (fd 117) "takes_suffix" N cY,f7 1288 1872 (fd 118) "told_word" N cY,f7 1295 1884 (fd 119) "plain_operands" N cY,f7 1302 1892 (fd 120) "telling" N cY,f7 1309 1900 (fd 121) "check_registers" N cY,f7 1316 1914 (fd 122) "could_take" N cY,f7 1323 1924 (fd 123) "only_size" N cY,f7 1330 1937 (fd 124) "memory_size" N cY,f5 1337 1950 (fd 125) "complete" N cY,f7 1342 1956 (fd 126) "read_att" N cY,[tu [],hI,di P (c3 "Token" 1979 914 eW Wb),tu [],ln 4 [(916,1361),(922,1368),(925,1375),(928,1382)],cc "Token" 1974 914 1352,n8 1354 1351 eW],f7 1356 1984 (fm 128 0) "Token.__init__" N eW,f7 1363 1995 (fm 128 1) "Token.is_sign" N eW,f7 1370 2003 (fm 128 2) "Token.is_backward" N eW,f7 1377 2010 (fm 128 3) "Token.told" N eW,[tu [S "at" 2017,S "kind" 2018,S "text" 2019,S "worth" 2020],d4 P (c2 1979 914 eW Wb [("__dict__",2023,R 1387),("__weakref__",2025,R 1388),("__doc__",2026,N)]),cls "Token" [Y "object"] [R 1386,Y "object"] 1385 [] ak 1972 1980 oN,AS 2022 1386,Av 2024 1386,sup 1386,qc 1386,tu [],hI,di P (c3 "Cursor" 2036 930 eW Wa),tu [],ln 4 [(932,1403),(936,1410),(939,1417),(944,1424),(950,1431),(953,1438),(956,1445),(962,1452),(965,1459),(969,1466),(973,1473),(980,1480)],cc "Cursor" 2031 930 1394,n8 1396 1393 eW],f7 1398 2041 (fm 129 0) "Cursor.__init__" N eW,f7 1405 2049 (fm 129 1) "Cursor.peek" N eW,f7 1412 2056 (fm 129 2) "Cursor.ahead" N eW,f7 1419 2064 (fm 129 3) "Cursor.take" N eW,f7 1426 2072 (fm 129 4) "Cursor.is_sign" N eW,f7 1433 2080 (fm 129 5) "Cursor.is_end" N eW,f7 1440 2087 (fm 129 6) "Cursor.skip" N eW,f7 1447 2095 (fm 129 7) "Cursor.skip_name" N eW,f7 1454 2103 (fm 129 8) "Cursor.need" N eW,f7 1461 2111 (fm 129 9) "Cursor.need_end" N eW,f7 1468 2118 (fm 129 10) "Cursor.name" N eW,f7 1475 2126 (fm 129 11) "Cursor.rest_place" N eW,[tu [S "at" 2133,S "tokens" 2134],d4 P (c2 2036 930 eW Wa [("__dict__",2137,R 1485),("__weakref__",2139,R 1486),("__doc__",2140,N)]),cls "Cursor" [Y "object"] [R 1484,Y "object"] 1483 [] ak 2029 2037 oN,AS 2136 1484,Av 2138 1484,sup 1484,qc 1484],f5 1489 2145 (fd 131) "_law_box" N cT,f7 1494 2151 (fd 132) "_law_draw" N cT,f5 1501 2161 (fd 133) "_law_forms" N cT,f7 1506 2167 (fd 134) "_law_set" N cT,f7 1513 2175 (fd 135) "_law_letter" N cT,f7 1520 2184 (fd 136) "_law_plain" N cT,f7 1527 2191 (fd 137) "_law_number" N cT,f7 1534 2200 (fd 138) "_law_sum" N cT,f7 1541 2210 (fd 139) "_law_symbol" N cT,f7 1548 2217 (fd 140) "_law_reg" N cT,f7 1555 2227 (fd 141) "_law_inner" N cT,f7 1562 2238 (fd 142) "_law_place" N cT,f7 1569 2256 (fd 143) "_law_either" N cT,f7 1576 2264 (fd 144) "_law_immediate" N cT,f7 1583 2274 (fd 145) "_law_condition" N cT,f7 1590 2283 (fd 146) "_law_shift" N cT,f7 1597 2298 (fd 147) "_law_two" N cT,f7 1604 2314 (fd 148) "_law_exchange" N cT,f7 1611 2329 (fd 149) "_law_extension" N cT,f7 1618 2346 (fd 150) "_law_through" N cT,f7 1625 2360 (fd 151) "_law_target" N cT,f7 1632 2374 (fd 152) "_law_conditional" N cT,f7 1639 2390 (fd 153) "_law_alone" N cT,f7 1646 2400 (fd 154) "_law_product" N cT,f7 1653 2416 (fd 155) "_law_lea" N cT,f7 1660 2428 (fd 156) "_law_vector" N cT,f7 1667 2444 (fd 157) "_law_line" N cT,f7 1674 2452 (fd 158) "_law_heard" N cT,f5 1681 2464 (fd 159) "_law_rows" N cT,f7 1686 2470 (fd 160) "_law_is_read" N cT,f7 1693 2485 (fd 161) "_law_spoiled" N cT,f7 1700 2502 (fd 162) "_law_is_refused" N cT,f7 1707 2511 (fd 163) "law" N cT]
def tV(P:dw):List dJ:=(FS P).flatten
def part(P:dw)(n:Nat)(m:al)(a b:Nat):List dJ:=(((tV P).take n).set 3 (di P (("__name__",165,m)::(e3.drop 1).take a))).set 12 (ln 0 (W8.take b))
def UG(P:dw):List dJ:=part P 468 cI 38 28
def Ux(P:dw):List dJ:=part P 1019 f6 81 59
def Uu(P:dw):List dJ:=part P 1316 cY 123 92
noncomputable def Sg:List aq:=[0,1,2,3,20,21,34,35,41,42,44,45,57,63,64,70,71,73,74,86,87,98,99,110,111,119,120,126,127,133,134,140,141,147,148,154,155,168,169,175,176,178,179,196,197,203,204,206,207,222,223,229,230,232,233,248,249,251,252,267,268,274,275,277,278,293,294,300,301,303,304,312,313,319,320,326,327,333,334,340,341,347,348,356,362,363,369,370,376,377,383,384,390,391,397,398,404,405,407,408,416,417,425,431,432,438,439,445,446,452,453,455,456,466,467,473,474,480,481,487,488,494,495,496,502,503,509,510,516,517,523,524,530,531,537,538,544,545,551,552,558,559,565,566,572,573,581,585,586,592,593,599,600,606,607,613,614,620,621,627,628,630,631,641,642,648,649,653,654,667,668,672,673,679,680,686,687,693,694,700,701,707,708,712,713,719,720,722,723,740,741,747,748,754,755,761,762,764,765,782,783,789,790,796,797,799,800,810,816,817,823,824,830,831,833,834,844,850,851,857,858,864,865,871,872,874,875,885,891,892,898,899,905,906,910,911,917,918,924,925,927,928,938,944,945,949,950,956,957,963,964,968,969,975,976,978,979,989,990,996,997,1003,1004,1010,1011,1017,1018,1031,1032,1038,1039,1045,1046,1052,1053,1059,1060,1066,1067,1069,1070,1080,1081,1087,1088,1094,1095,1101,1102,1108,1109,1115,1116,1122,1123,1129,1130,1136,1137,1150,1151,1157,1158,1160,1161,1171,1172,1178,1179,1185,1186,1190,1191,1197,1198,1204,1205,1211,1212,1218,1219,1225,1226,1232,1233,1239,1240,1246,1247,1253,1254,1260,1261,1267,1268,1274,1275,1281,1282,1286,1287,1293,1294,1300,1301,1307,1308,1314,1315,1321,1322,1328,1329,1335,1336,1340,1341,1347,1348,1361,1362,1368,1369,1375,1376,1382,1383,1385,1386,1403,1404,1410,1411,1417,1418,1424,1425,1431,1432,1438,1439,1445,1446,1452,1453,1459,1460,1466,1467,1473,1474,1480,1481,1483,1484,1492,1493,1499,1500,1504,1505,1511,1512,1518,1519,1525,1526,1532,1533,1539,1540,1546,1547,1553,1554,1560,1561,1567,1568,1574,1575,1581,1582,1588,1589,1595,1596,1602,1603,1609,1610,1616,1617,1623,1624,1630,1631,1637,1638,1644,1645,1651,1652,1658,1659,1665,1666,1672,1673,1679,1680,1684,1685,1691,1692,1698,1699,1705,1706,1712,1713]
noncomputable def sel:Nat->List aq->List dJ->bt
 |_,[],_=>[]|_,_::_,[]=>[]|i,a::as,o::os=>match a7 i a with
  |ac=>(a,o)::sel (i+1) as os|ae=>sel (i+1) (a::as) os
def K(P:dw):bt:=sel 0 Sg (tV P)
end H
namespace H
def oC:dJ:=fl (Y "code") [S "<module>" 182,S "<module>" 183,file 184,I 1 0,I 0 0,I 0 0,I 0 0,I 0 0,R 11,B ae,I 181 0,R 12,N,N,N,N,I 185 0,I 1 0,file 186]
noncomputable def JC:List dJ->List dJ
 |[]=>[]|x::r=>x::(match r with
  |[]=>[]|_::r=>JC r)
noncomputable def P3:List dJ->List dJ
 |[]=>[]|_::r=>(match r with
  |[]=>[]|y::r=>y::P3 r)
def P0:Nat->List dJ->BT
 |0,_=>.nil|n+1,l=>(match l with
  |[]=>.nil|x::xs=>.node x (P0 n (JC xs)) (P0 n (P3 xs)))
noncomputable def D5:Env:={scope:=pr.main.scope,locals:=mainNs,globals:=mainNs,cells:=[],code:=.ref 13,frame:=aa 14}
noncomputable def gX:List dG:=behindTheImports pr
def ig:Code:=.body gX D5
noncomputable def po(a b c d:Nat):gA:={line:=a,col:=b,endLine:=c,endCol:=d}
def tv:gA:=po 0 0 0 0
def PI:gA:=po 216 0 221 33
def PH:gA:=po 1288 0 1293 56
def PF:gA:=po 575 0 575 13
def PE:gA:=po 856 0 861 95
def zW(l:List dJ)(n t:Nat)(os:cQ):ma:={tree:=P0 20 l,n:=n,life:={},gens:={toList:=[]},drawn:={},toks:=t,os:=os}
def SP(w:aJ)(os:cQ):ma:=zW ((iA w.params).objs.toList++[tu [],fl .none [],oC,n8 13 3 Gu]) 15 187 os
def WF(w:aJ)(os:cQ):ma:=zW (UG w.params) 468 780 os
def WE(w:aJ)(os:cQ):ma:=zW (Ux w.params) 1019 1507 os
def T1(w:aJ)(os:cQ):ma:=zW (tV w.params) 1714 2520 os
def WD(w:aJ)(os:cQ):ma:=zW (Uu w.params) 1316 1914 os
def N6(w:aJ)(os:cQ)(n t:Nat)(m:al)(a b:Nat):ma:=zW (part w.params n m a b) n t os
def uW(N:Nat)(w:aJ)(s:ma)(l:List dG)(p:gA):=j7 j6 pr w 11 (aa (.ref 6)) 1 N s (piecesOf l D5 ig p [topFrame tv])
theorem LE:∀(w:aJ)(os:cQ),uW 3999 w (SP w os) (gX.take 32) tv=aa (.next,WF w os,ig,PI):=by intro w os;kernel_rfl
theorem LD:∀(w:aJ)(os:cQ),uW 1483 w (WF w os) ((gX.drop 32).take 24) PI=aa (.next,N6 w os 728 1118 kV 60 48,ig,(po 390 0 429 16)):=by intro w os;kernel_rfl
theorem LC:∀(w:aJ)(os:cQ),uW 2328 w (N6 w os 728 1118 kV 60 48) ((gX.drop 56).take 23) (po 390 0 429 16)=aa (.next,WE w os,ig,PF):=by intro w os;kernel_rfl
theorem LB:∀(w:aJ)(os:cQ),uW 1028 w (WE w os) ((gX.drop 79).take 22) PF=aa (.next,N6 w os 1173 1714 cY 102 71,ig,(po 680 0 681 70)):=by intro w os;kernel_rfl
theorem LA:∀(w:aJ)(os:cQ),uW 659 w (N6 w os 1173 1714 cY 102 71) ((gX.drop 101).take 21) (po 680 0 681 70)=aa (.next,WD w os,ig,PE):=by intro w os;kernel_rfl
theorem Lz:∀(w:aJ)(os:cQ),uW 1221 w (WD w os) ((gX.drop 122).take 14) PE=aa (.next,N6 w os 1520 2184 cT 135 104,ig,(po 1015 0 1018 13)):=by intro w os;kernel_rfl
theorem Ly:∀(w:aJ)(os:cQ),uW 951 w (N6 w os 1520 2184 cT 135 104) (gX.drop 136) (po 1015 0 1018 13)=aa (.next,T1 w os,ig,PH):=by intro w os;kernel_rfl
end H
set_option tactic.hygienic true in theorem lr{M:Model}{Γ:PySem.Ctx}{p:gA}{t:j5 Fin}{fs:List Frame}{s s':ax}{e:End}(h:Runs M Γ p t fs s e s'):s.toks<=s'.toks:=by induction h<;>first
 |exact a8 _|assumption|(rename_i ih;exact bC (eT _) ih)|(rename_i Yt Ys;exact bC Yt Ys)
theorem v8{M:Model}{Γ:PySem.Ctx}{p:gA}{g:Nat}{r:Resume}{s i:ax}{f:GenResult}(h:Wakes M Γ p g r s f i):s.toks<=i.toks:=by
  unfold Wakes at h;split at h;·induction h
  · split at h;·refine qC h λc d b a j e=>?_;subst e;have z:=lr b;exact z
    ·refine bB h λb a=>?_;subst a;exact a8 _
    ·refine bB h λb a=>?_;subst a;exact a8 _
  ·refine qC h λc d b a j e=>?_;subst e;have z:=lr b;exact z
  ·refine bB h λb a=>?_;subst a;exact a8 _
  ·refine bB h λb a=>?_;(clear h;subst a);exact a8 _
theorem wp_toks{w:Type}{M:Model}{Γ:PySem.Ctx}{E:al->gA->ax->Prop}:∀(t:j5 w){Q:w->gA->ax->Prop}{p:gA}{s:ax},Sem.wp M Γ t Q E p s->Sem.wp M Γ t (λa y v=>s.toks<=v.toks/\Q a y v) E p s:=λt=>by induction t with
 |pure a=>exact@λz9 z9 z9 h=>⟨a8 _,h⟩|raise e=>exact@λz9 z9 z9 h=>h|unsupported l=>exact@λz9 z9 z9 h=>h|finish l=>exact@λz9 z9 z9 h=>h|rule l k b=>exact@λz9 z9 z9 h=>b (()) h|«at» B k b=>exact@λz9 z9 z9 h=>b (()) h|load a u k b=>intro _ _ _ h;refine aE h λo e h=>⟨o,e,b (o) h⟩|update a u f k b=>intro _ _ _ h;refine bB h λe h=>⟨e,b (()) h⟩|loadIfAlive a k b=>exact@λz9 z9 s h=>b ((s.heap.get? a)) h|point l k b=>exact@λz9 z9 z9 h=>b (()) h|register l u=>exact@λz9 z9 z9 h=>h|alloc o k b=>exact@λz9 z9 s h=>b (s.heap.objs.size) h|fresh k b=>exact@λz9 z9 s h=>Sem.wp_mono M Γ _ (λz9 z9 z9 x=>⟨bC (eT _) x.1,x.2⟩) (λz9 z9 z9 x=>x) _ _ (b (s.toks) h)|ask k b=>exact@λz9 z9 z9 h=>b (⟨M.prog,M.w.params⟩) h|choose j n k b=>intro _ _ s h;refine bB h λe h=>⟨e,b ((M.w.draws j (s.drawn.get j)%n)) h⟩|os q u k b=>exact@λz9 z9 s h=>b ((Os.step s.os q).2) h|call c A z C k b=>intro _ p s h;refine c8 h λr d e h=>(cM r d ⟨e,Sem.wp_mono M Γ _ (λz9 z9 z9 x=>⟨bC (lr e) x.1,x.2⟩) (λz9 z9 z9 x=>x) _ _ (b (r) h)⟩)|handled m k b=>exact@λz9 z9 z9 h=>b ((if m then Γ.own else Γ.handled)) h|genState g k b=>intro _ _ _ h;refine aE h λst e h=>⟨st,e,b (st.seen) h⟩|newGen c k b=>exact@λz9 z9 s h=>b (s.gens.size) h|resume g r z k b=>intro _ _ _ h;refine c8 h λi d e h=>(cM i d ⟨e,Sem.wp_mono M Γ _ (λz9 z9 z9 x=>⟨bC (v8 e) x.1,x.2⟩) (λz9 z9 z9 x=>x) _ _ (b (i) h)⟩)|yield=>exactλh=>h|stack k b=>exact@λz9 p z9 h=>b (((Γ.code,p)::Γ.below)) h|fork=>exactλh=>h|thread k b=>exact@λz9 z9 z9 h=>b (0) h|await=>exactλh=>h
theorem wpAny_toks{d:Type}{M:Model}{A:bc}{t:j5 d}{Q:d->ax->Prop}{E:al->ax->Prop}{s:ax}(h:wpAny M A t Q E s):wpAny M A t (λa c=>s.toks<=c.toks/\Q a c) E s:=λe p b=>wp_toks t (h e p b)
theorem ue{M:Model}{A:bc}{c:Code}{R:n4->ax->Prop}{s:ax}(h:codeAny M A c R s):codeAny M A c (λr a=>s.toks<=a.toks/\R r a) s:=λg p e f=>let⟨r,a,b,d⟩:=h g p e f;(cM r a ⟨b,lr b,d⟩)
abbrev pw:Program:=pw_nn0098_01
abbrev qH(xs:List al)(n:Nat):dJ:={cls:=.type "tuple",data:=.seq xs.toArray n}
abbrev eo(xs:List al)(n:Nat):dJ:={cls:=.type "list",data:=.seq xs.toArray n}
abbrev Pp(a b:Int)(t u v:Tok):dJ:={cls:=.type "range",data:=.fields #[.int a t,.int b u,.int 1 v]}
noncomputable def d7:List aq:=[74,87,99,111]
structure NZ(C d:aq)(o:dJ):Prop where
 cls:o.cls=.ref C
 no:notCls o=ac
 dict:o.dict=aa d
 slots:o.slots=#[]
structure nP(C d:aq)(o:dJ):Prop extends NZ C d o where fresh:d7.contains C=ac->∃vs,o.data=.fields vs/\4<vs.size/\vs[1]?=aa .none/\vs[2]?=aa .none
inductive i3 where|ob(o:dJ)|ns(m:ao->Option al)
inductive Tag where|fz(o:dJ)|lo(ns:List ao)(es:List ba)|kp(k:i3)|loc|qz(x:ao)|cell(i:Nat)(b:Bool)
abbrev Gh:=aq->Option Tag
abbrev CA:=aq×aq
structure G where
 g:Gh
 ca:List CA
noncomputable def upd(g:Gh)(a:aq)(t:Tag):Gh:=λb=>if b=a then aa t else g b
theorem bv{g:Gh}{a:aq}{t:Tag}:upd g a t a=aa t:=if_pos rfl
theorem cX{g:Gh}{a b:aq}{t:Tag}(h:b≠a):upd g a t b=g b:=if_neg h
structure Off(K:bt)(g:Gh)(a:aq):Prop where
 g:g a=ak
 K:K.lookup a=ak
def JV(ns:List ao):List ba->List ba->Prop
 |[],es=>es=[]|e::r,es=>∃e' r',es=e'::r'/\e'.key=e.key/\(e'.val=e.val\/handedIn e'.val=ac/\∃x t,e.key=.str x t/\qd x ns=ac)/\JV ns r r'
def Meets(h:bz)(a:aq):Tag->Prop
 |.fz o=>h.get? a=aa o|.lo ns es=>∃Hn n,h.get? a=aa (dictOf Hn n)/\JV ns es Hn|.kp (.ob o)=>h.get? a=aa o|.kp (.ns m)=>h.Ns a m|_=>∃o,h.get? a=aa o
theorem JV.refl(a:List ao):∀es,JV a es es
 |[]=>rfl|e::r=>(cM e r ⟨rfl,rfl,.inl rfl,JV.refl a r⟩)
theorem Meets.has{h:bz}{a:aq}{t:Tag}(x:Meets h a t):∃o,h.get? a=aa o:=by induction t with
 |fz o=>exact⟨_,x⟩|lo=>refine c8 x λb c h e=>⟨_,h⟩|kp k=>induction k with
  |ob o=>exact⟨_,x⟩|ns m=>refine d0 x λb c d h f=>⟨_,h⟩
 |_=>exact x
theorem Meets.keep{h h':bz}{a:aq}{t:Tag}(k:∀o,h.get? a=aa o->h'.get? a=aa o)(x:Meets h a t):Meets h' a t:=by induction t with
 |fz o=>exact k _ x|lo=>refine c8 x λb c h r=>cM _ _ ⟨k _ h,r⟩|kp q=>induction q with
  |ob o=>exact k _ x|ns m=>refine d0 x λb c d h r=>dB _ _ _ ⟨k _ h,r⟩
 |_=>refine aQ x λb h=>⟨_,k _ h⟩
def ml(C:aq)(es:List ba)(n:Nat):Tag:=match fG C with
 |[]=>.fz (dictOf es n)|a::r=>.lo (a::r) es
noncomputable def rW(v:Tag):Bool:=by cases v with
 |fz _=>exact ac|lo _ _=>exact ac|_=>exact ae
theorem tO{C:aq}{es:List ba}{n:Nat}:rW (ml C es n)=ac:=by unfold ml;cases fG C<;>rfl
def rN(C:aq)(fs:Vs):Prop:=∀p∈fs,qd p.1 (fG C)=ac->p.2=.any
inductive rS(w:aJ)(o:dJ)(ks:List V)(vals:List al):Prop|str(ss:List ao)(e:ks=ss.map .str)(d:o.IsDictOf (strKind pw w) (ss.zip vals))|int(ss:List Int)(e:ks=ss.map .int)(d:o.IsDictOf (intKind pw w) (ss.zip vals))
noncomputable def VI:BI->al
 |.len=>.builtin "len"|.abs=>.builtin "abs"|.any=>.builtin "any"|.list=>.type "list"|.tuple=>.type "tuple"|.str=>.type "str"|.int=>.type "int"|.range=>.type "range"|.zip=>.type "zip"
inductive rM(g:Gh)(f:List al->Nat->dJ)(R:List al->Prop)(x:al):Prop|mk(a:aq)(xs:List al)(n:Nat)(e:x=.ref a)(h:g a=aa (.fz (f xs n)))(r:R xs)
inductive zy(g:Gh)(C:aq)(fs:Vs)(R:List ba->Prop)(x:al):Prop|mk(a d:aq)(o:dJ)(es:List ba)(n:Nat)(e:x=.ref a)(h:g a=aa (.fz o))(i:nP C d o)(hd:g d=aa (ml C es n))(r:R es)(l:rN C fs)
inductive Ii(g:Gh)(C:aq)(x:al):Prop|mk(a d:aq)(o:dJ)(es:List ba)(n:Nat)(v:al)(e:x=.ref a)(h:g a=aa (.fz o))(i:NZ C d o)(hd:g d=aa (.fz (dictOf es n)))(r:getL "what" es=aa (aa v))(hv:handedIn v=ac)
inductive vW(w:aJ)(g:Gh)(l:List (V×V))(R:List al->Prop)(x:al):Prop|mk(a:aq)(o:dJ)(vals:List al)(e:x=.ref a)(h:g a=aa (.fz o))(r:R vals)(k:rS w o (l.map (·.1)) vals)
inductive Ib(g:Gh)(i j:Int)(x:al):Prop|mk(a:aq)(t u v:Tok)(e:x=.ref a)(h:g a=aa (.fz (Pp i j t u v)))
inductive bl{α:Type}(R:α->Prop)(S:List α->Prop)(xs:List α):Prop|mk(y:α)(ys:List α)(e:xs=y::ys)(h:R y)(t:S ys)
mutual def TR(w:aJ)(g:Gh):V->al->Prop
 |.none,x=>x=.none|.bool b,x=>x=.bool b|.int i,x=>∃t,x=.int i t|.str s,x=>∃t,x=.str s t|.ref a,x=>x=.ref a|.bi b,x=>x=VI b|.any,x=>handedIn x=ac|.ptr _,_=>False|.tup l,x=>rM g qH (eA w g l) x|.lst l,x=>rM g eo (eA w g l) x|.FY i j,x=>Ib g i j x|.inst C fs,x=>zy g C fs (sR w g fs) x|.exc C,x=>Ii g C x|.dict l,x=>vW w g l (xA w g l) x def eA(w:aJ)(g:Gh):List V->List al->Prop
 |[],xs=>xs=[]|v::vs,xs=>bl (TR w g v) (eA w g vs) xs def sR(w:aJ)(g:Gh):List (ao×V)->List ba->Prop
 |[],es=>es=[]|(f,v)::fs,es=>bl (λe=>(∃t,e.key=.str f t)/\TR w g v e.val) (sR w g fs) es def xA(w:aJ)(g:Gh):List (V×V)->List al->Prop
 |[],xs=>xs=[]|(_,v)::vs,xs=>bl (TR w g v) (xA w g vs) xs end
abbrev jJ(g g':Gh):Prop:=∀a t,g a=aa t->rW t=ac->g' a=aa t
theorem bl.imp{c:Type}{R d:c->Prop}{S f:List c->Prop}{xs:List c}(h:bl R S xs)(g:∀y,R y->d y)(i:∀ys,S ys->f ys):bl d f xs:=by obtain⟨y,ys,e,a,b⟩:=h;exact⟨y,ys,e,g _ a,i _ b⟩
section
variable{w:aJ}{g g':Gh}
mutual theorem TR.mono(h:jJ g g'):∀(v:V)(x:al),TR w g v x->TR w g' v x
 |.none,_,e=>e|.bool _,_,e=>e|.int _,_,e=>e|.str _,_,e=>e|.ref _,_,e=>e|.bi _,_,e=>e|.any,_,e=>e|.ptr _,_,e=>e|.tup l,x,e=>by change rM _ _ _ _ at e;change rM _ _ _ _;obtain⟨a,xs,n,e,m,r⟩:=e;exact⟨a,xs,n,e,h _ _ m rfl,eA.mono h l xs r⟩|.lst l,x,e=>by change rM _ _ _ _ at e;change rM _ _ _ _;obtain⟨a,xs,n,e,m,r⟩:=e;exact⟨a,xs,n,e,h _ _ m rfl,eA.mono h l xs r⟩|.FY _ _,x,e=>by change Ib _ _ _ _ at e;change Ib _ _ _ _;obtain⟨a,t,u,v,e,m⟩:=e;exact⟨a,t,u,v,e,h _ _ m rfl⟩|.inst C fs,x,e=>by change zy _ _ _ _ _ at e;change zy _ _ _ _ _;obtain⟨a,d,o,es,n,e,m,i,md,r,l⟩:=e;exact⟨a,d,o,es,n,e,h _ _ m rfl,i,h _ _ md tO,sR.mono h fs es r,l⟩|.exc C,x,e=>by change Ii _ _ _ at e;change Ii _ _ _;obtain⟨a,d,o,es,n,v,e,m,i,md,r,hv⟩:=e;exact⟨a,d,o,es,n,v,e,h _ _ m rfl,i,h _ _ md rfl,r,hv⟩|.dict l,x,e=>by change vW _ _ _ _ _ at e;change vW _ _ _ _ _;obtain⟨a,o,vals,e,m,r,k⟩:=e;exact⟨a,o,vals,e,h _ _ m rfl,xA.mono h l vals r,k⟩theorem eA.mono(h:jJ g g'):∀(vs:List V)(xs:List al),eA w g vs xs->eA w g' vs xs
 |[],_,e=>e|v::vs,_,e=>bl.imp e (TR.mono h v) (eA.mono h vs)theorem sR.mono(h:jJ g g'):∀(vs:Vs)(xs:List ba),sR w g vs xs->sR w g' vs xs
 |[],_,e=>e|(f,v)::vs,_,e=>bl.imp e (λy z=>⟨z.1,TR.mono h v _ z.2⟩) (sR.mono h vs)theorem xA.mono(h:jJ g g'):∀(vs:List (V×V))(xs:List al),xA w g vs xs->xA w g' vs xs
 |[],_,e=>e|(_,v)::vs,_,e=>bl.imp e (TR.mono h v) (xA.mono h vs)end
end
def V5(ca RF:List CA):Prop:=∀(i:Nat)(p:CA),ca[i]?=aa p->RF[i]?=aa p
structure G.le(a b:G):Prop where
 f:jJ a.g b.g
 c:V5 a.ca b.ca
theorem G.le.refl(a:G):a.le a:=⟨λz9 z9 h z9=>h,λz9 z9 h=>h⟩
theorem G.le.trans{a b c:G}(x:a.le b)(y:b.le c):a.le c:=⟨λz9 z9 h f=>y.f _ _ (x.f _ _ h f) f,λz9 z9 h=>y.c _ _ (x.c _ _ h)⟩
inductive uj(ca:List CA)(i:Nat)(x:al):Prop|mk(p:CA)(h:ca[i]?=aa p)(e:x=.ref p.1)
def VR(w:aJ)(q:G)(v:V)(x:al):Prop:=match v with
 |.ptr i=>uj q.ca i x|v=>TR w q.g v x
def bG{α β:Type}(R:α->β->Prop):List α->List β->Prop
 |[],ys=>ys=[]|x::xs,ys=>bl (R x) (bG R xs) ys
theorem bG.imp{d β:Type}{R c:d->β->Prop}(h:∀a b,R a b->c a b):∀{l:List d}{m:List β},bG R l m->bG c l m
 |[],_,e=>e|_::_,_,e=>bl.imp e (h _) λz9=>bG.imp h
theorem bG.len{a β:Type}{R:a->β->Prop}:∀{l:List a}{m:List β},bG R l m->m.length=l.length
 |[],_,e=>by subst e;rfl|_::_,_,e=>by obtain⟨y,b,e,h,t⟩:=e;exact e.symm▸bH.symm▸bH.symm▸t.len.symm▸rfl
theorem bG.append{a β:Type}{R:a->β->Prop}{l':List a}{m':List β}(h':bG R l' m'):∀{l:List a}{m:List β},bG R l m->bG R (l++l') (m++m')
 |[],_,e=>by subst e;exact h'|_::_,_,e=>by obtain⟨y,b,e,h,t⟩:=e;subst e;exact bl.mk y _ rfl h (bG.append h' t)
theorem bG.get{c β:Type}{R:c->β->Prop}:∀{l:List c}{m:List β}{i:Nat}{a:c},bG R l m->l[i]?=aa a->∃b,m[i]?=aa b/\R a b
 |_::_,_,0,_,e,h=>by obtain⟨y,d,e,r,t⟩:=e;subst e;(injection h with h;subst h);exact⟨y,rfl,r⟩|_::_,_,_+1,_,e,h=>by obtain⟨y,d,e,r,t⟩:=e;subst e;exact t.get h
theorem bG.one{c β:Type}{R:c->β->Prop}{a:c}{m:List β}(h:bG R [a] m):∃b,m=[b]/\R a b:=by obtain⟨y,d,e,r,t⟩:=h;subst t;exact⟨y,e,r⟩
abbrev iR(w:aJ)(q:G):List V->List al->Prop:=bG (VR w q)
abbrev qe(w:aJ)(q:G):Vs->List ba->Prop:=bG λp e=>(∃t,e.key=.str p.1 t)/\VR w q p.2 e.val
section
variable{w:aJ}{q q':G}
theorem VR.iN{v:V}{x:al}(h:TR w q.g v x):VR w q v x:=by induction v using V.casesOn<;>first|exact h|exact h.elim
theorem VR.handed{v:V}{x:al}(h:VR w q v x):handedIn x=ac:=by induction v using V.casesOn with
 |none=>subst h;rfl|bool=>subst h;rfl|int=>obtain⟨t,rfl⟩:=h;rfl|str=>obtain⟨t,rfl⟩:=h;rfl|ref=>subst h;rfl|bi b=>subst h;induction b<;>decide+kernel|any=>exact h|ptr=>obtain⟨p,h,e⟩:=h;refine e.symm▸rfl|tup=>obtain⟨_,_,_,e⟩:=h;refine e.symm▸rfl|lst=>obtain⟨_,_,_,e⟩:=h;refine e.symm▸rfl|inst=>obtain⟨_,_,_,_,_,e⟩:=h;refine e.symm▸rfl|dict=>obtain⟨_,_,_,e⟩:=h;refine e.symm▸rfl|exc=>obtain⟨_,_,_,_,_,_,e⟩:=h;refine e.symm▸rfl|FY=>obtain⟨_,_,_,_,e⟩:=h;refine e.symm▸rfl
theorem VR.mono(l:q.le q'){v:V}{x:al}(e:VR w q v x):VR w q' v x:=by induction v using V.casesOn with
 |ptr i=>change uj _ _ _ at e;obtain⟨p,h,e⟩:=e;exact uj.mk p (l.c _ _ h) e|_=>exact TR.mono l.f _ _ e
theorem iR.mono(l:q.le q'){a:List V}{xs:List al}(h:iR w q a xs):iR w q' a xs:=bG.imp (λz9 z9 h=>h.mono l) h
theorem qe.mono(l:q.le q'){a:Vs}{xs:List ba}(h:qe w q a xs):qe w q' a xs:=bG.imp (λz9 z9 h=>⟨h.1,h.2.mono l⟩) h
theorem eA.all{g:Gh}:∀{a:List V}{xs:List al},eA w g a xs->bG (TR w g) a xs
 |[],_,e=>e|_::_,_,e=>bl.imp e (λz9 h=>h) λz9=>eA.all
theorem eA.of{g:Gh}:∀{a:List V}{xs:List al},bG (TR w g) a xs->eA w g a xs
 |[],_,e=>e|_::_,_,e=>bl.imp e (λz9 h=>h) λz9=>eA.of
theorem sR.all{g:Gh}:∀{a:Vs}{xs:List ba},sR w g a xs->bG (λp e=>(∃t,e.key=.str p.1 t)/\TR w g p.2 e.val) a xs
 |[],_,e=>e|_::_,_,e=>bl.imp e (λz9 h=>h) λz9=>sR.all
theorem sR.of{g:Gh}:∀{a:Vs}{xs:List ba},bG (λp e=>(∃t,e.key=.str p.1 t)/\TR w g p.2 e.val) a xs->sR w g a xs
 |[],_,e=>e|_::_,_,e=>bl.imp e (λz9 h=>h) λz9=>sR.of
theorem xA.all{g:Gh}:∀{a:List (V×V)}{xs:List al},xA w g a xs->bG (λp=>TR w g p.2) a xs
 |[],_,e=>e|_::_,_,e=>bl.imp e (λz9 h=>h) λz9=>xA.all
theorem xA.of{g:Gh}:∀{a:List (V×V)}{xs:List al},bG (λp=>TR w g p.2) a xs->xA w g a xs
 |[],_,e=>e|_::_,_,e=>bl.imp e (λz9 h=>h) λz9=>xA.of
theorem bG.map{b β c:Type}{R:c->β->Prop}{f:b->c}:∀{l:List b}{m:List β},bG R (l.map f) m->bG (λa=>R (f a)) l m
 |[],_,e=>e|_::_,_,e=>bl.imp e (λz9 h=>h) λz9=>bG.map
theorem bG.IB{b β c:Type}{R:c->β->Prop}{f:b->c}:∀{l:List b}{m:List β},bG (λa=>R (f a)) l m->bG R (l.map f) m
 |[],_,e=>e|_::_,_,e=>bl.imp e (λz9 h=>h) λz9=>bG.IB
theorem iR.wT{a:List V}{xs:List al}(h:eA w q.g a xs):iR w q a xs:=bG.imp (λz9 z9 h=>.iN h) h.all
theorem qe.wU{a:Vs}{xs:List ba}(h:sR w q.g a xs):qe w q a xs:=bG.imp (λz9 z9 h=>⟨h.1,.iN h.2⟩) h.all
end
inductive gx(w:aJ)(h:bz)(q:G)(l:List (V×V))(a:aq):Prop|kind(o:dJ)(vals:List al)(ho:h.get? a=aa o)(hv:iR w q (l.map (·.2)) vals)(k:rS w o (l.map (·.1)) vals)|p8(xs:List (List Int×aq×al))(hd:h.DictOfH (tupleKind (intKind pw w)) a xs)(hx:∀x∈xs,∃o,q.g x.2.1=aa (.fz o))(e:l.map (·.1)=xs.map (λx=>V.tup (x.1.map .int)))(hv:iR w q (l.map (·.2)) (xs.map (·.2.2)))
inductive Ic(w:aJ)(h:bz)(g:Gh)(l:List V)(a:aq):Prop|mk(xs:List al)(n:Nat)(ho:h.get? a=aa (eo xs n))(r:eA w g l xs)
inductive NX(w:aJ)(h:bz)(q:G)(C:aq)(fs:Vs)(p:CA):Prop|mk(o:dJ)(es:List ba)(n:Nat)(ho:h.get? p.1=aa o)(i:nP C p.2 o)(hd:h.get? p.2=aa (dictOf es n))(r:qe w q fs es)
def g5(w:aJ)(h:bz)(q:G)(i:Nat)(p:CA)(c:Cell):Prop:=match c with
 |.lst _ l=>q.g p.1=aa (.cell i ae)/\Ic w h q.g l p.1|.inst C fs=>q.g p.1=aa (.cell i ae)/\q.g p.2=aa (.cell i ac)/\NX w h q C fs p|.dict l=>q.g p.1=aa (.cell i ae)/\gx w h q l p.1|.dead v=>TR w q.g v (.ref p.1)|.ch _=>False
def io(Sm:V->Cell->Prop)(w:aJ)(h:bz)(q:G)(i:Nat)(p:CA)(c:Cell):Prop:=match c with
 |.ch x=>∃c,Sm x c/\g5 w h q i p c|c=>g5 w h q i p c
structure Cx where
 K:bt
 w:aJ
 rest:Array n7×Drawn×cQ
 kept:aq->Option i3
 frames:List Env
 hd:Option al
 dep:Nat
 Sm:V->Cell->Prop
 env:Env
 L:aq
 sc:eJ
 lf:Bool
structure jh(Γ:Cx)(A:bc):Prop where
 frames:A.frames=aa Γ.frames
 hd:A.handled=Γ.hd
 depth:A.depth+4*Γ.dep<990
 units:A.units+16*Γ.dep+200<9900
structure dh(Γ:Cx):Prop where
 glob:Γ.env.globals=mainGlobals
 bi:Γ.env.builtins=builtinsNs
 kind:Γ.env.scope.kind=.function
 loc:Γ.env.locals=Γ.L
 k:∀x,Γ.env.kindOf x=Γ.sc.names.lookup x\/(Γ.sc.names.lookup x=aa .free/\Γ.env.kindOf x=aa .cell)
 ck:∀x,Γ.env.kindOf x=aa .cell->(Γ.env.cells.lookup x).isSome=ac
 M2:Γ.env.kindOf "__debug__"=ak
 Re:∃e0 rest,Γ.frames=e0::rest/\Γ.env.frame=e0.frame
 fr:∀e∈Γ.frames,e.scope.kind≠.module/\∃a,e.frame=aa a/\(a=Γ.L\/∃m,Γ.kept a=aa (.ns m))
 lf:Γ.lf=ac\/Γ.hd=ak
def Bound(Γ:Cx)(q:G)(m:ao->Option al)(h:bz)(x:ao)(v:V):Prop:=(Γ.env.kindOf x=aa .local/\∃u,m x=aa u/\VR Γ.w q v u)\/(Γ.env.kindOf x=aa .cell/\∃c o u,Γ.env.cells.lookup x=aa c/\h.get? c=aa o/\o.data=.cell (aa u)/\VR Γ.w q v u)
def Chain(g:Gh):List aq->al->Prop
 |[],v=>v=.none|a::l,v=>v=.ref a/\∃o vs u,g a=aa (.fz o)/\o.data=.fields vs/\vs[2]?=aa u/\Chain g l u
theorem Chain.mono{g g':Gh}(h:jJ g g'):∀{l:List aq}{v:al},Chain g l v->Chain g' l v
 |[],_,e=>e|_::_,_,i=>bB i λe j=>hY j λo f u a b c d=>⟨e,o,f,u,h _ _ a rfl,b,c,d.mono h⟩
def Ig(hd:Option al)(g:Gh):Prop:=∀h,hd=aa h->∃a l,Chain g (a::l) h
structure HS(F:bt)(st:Array n7×Drawn×cQ)(kept:aq->Option i3)(g:Gh)(s:ax):Prop where
 rest:(s.gens,s.drawn,s.os)=st
 K:F.In s.heap
 tag:∀a t,g a=aa t->Meets s.heap a t/\F.lookup a=ak
 kp:∀a k,kept a=aa k->g a=aa (.kp k)
structure SI(Γ:Cx)(q:G)(ev:Vs)(cs:Cs)(s:ax):Prop where
 hs:HS Γ.K Γ.rest Γ.kept q.g s
 loc:q.g Γ.L=aa .loc
 ns:∃m,s.heap.Ns Γ.L m/\∀x v,ev.lookup x=aa v->Bound Γ q m s.heap x v
 cl:∀p∈Γ.env.cells,q.g p.2=aa (.qz p.1)/\∃o u,s.heap.get? p.2=aa o/\o.data=.cell u
 len:cs.length=q.ca.length
 cr:∀(i:Nat)(c:Cell)(p:CA),cs[i]?=aa c->q.ca[i]?=aa p->io Γ.Sm Γ.w s.heap q i p c
 hc:Ig Γ.hd q.g
inductive Zk(K:bt)(g:Gh)(h:bz)(a:aq)(vs:Array al):Prop|no(e:vs[1]?=aa .none)|tb(T:aq)(oT:dJ)(ts:Array al)(e:vs[1]?=aa (.ref T))(ne:T≠a)(ho:h.get? T=aa oT)(hd:oT.data=.fields ts)(sz:3<ts.size)(off:Off K g T)
structure zB(K:bt)(g:Gh)(C:aq)(h:bz)(a:aq)(o:dJ)(vs:Array al):Prop where
 at_:h.get? a=aa o
 exc:∃d es n,NZ C d o/\g d=aa (.fz (dictOf es n))/\∃v,getL "what" es=aa (aa v)/\handedIn v=ac
 data:o.data=.fields vs
 sz:4<vs.size
 off:Off K g a
 tb:Zk K g h a vs
 cx:∃u l,vs[2]?=aa u/\Chain g l u
inductive jl(K:bt)(g:Gh)(C:aq)(h:bz)(e:al):Prop|mk(a:aq)(o:dJ)(vs:Array al)(e:e=.ref a)(f:zB K g C h a o vs)
section
variable{α β γ δ:Type}
def cE(Γ:Cx)(q:G)(ev:Vs)(cs:Cs)(rel:G->β->α->Prop)(t:j5 α)(Q:β->Cs->Prop)(X:XP):Prop:=∀(A:bc)(s:ax)(QQ:α->ax->Prop)(EE:al->ax->Prop),jh Γ A->SI Γ q ev cs s->0<s.toks->(∀b x cs' q' s',Q b cs'->rel q' b x->SI Γ q' ev cs' s'->q.le q'->QQ x s')->(∀C e cs' q' s',X C cs'->jl Γ.K q'.g C s'.heap e->SI Γ q' ev cs' s'->q.le q'->EE e s')->wpAny (model pw Γ.w) A t QQ EE s
def ik(Γ:Cx)(q:G)(ev:Vs)(cs:Cs)(rel:G->β->α->Prop)(t:j5 α)(Q:β->Vs->Cs->Prop)(X:XS):Prop:=∀(A:bc)(s:ax)(QQ:α->ax->Prop)(EE:al->ax->Prop),jh Γ A->SI Γ q ev cs s->0<s.toks->(∀b x ev' cs' q' s',Q b ev' cs'->rel q' b x->SI Γ q' ev' cs' s'->q.le q'->QQ x s')->(∀C e ev' cs' q' s',X C ev' cs'->jl Γ.K q'.g C s'.heap e->SI Γ q' ev' cs' s'->q.le q'->EE e s')->wpAny (model pw Γ.w) A t QQ EE s
variable{Γ:Cx}{q:G}{ev:Vs}{cs:Cs}{rel:G->β->α->Prop}{rel':G->δ->γ->Prop}{X:XP}{Y:XS}
abbrev eg(w:aJ):G->V->al->Prop:=λq v x=>VR w q v x
abbrev oy:G->Bool->Bool->Prop:=λz9 a b=>a=b
abbrev wH:G->Unit->α->Prop:=λz9 z9 z9=>True
theorem cE.bind{t:j5 α}{f:α->j5 γ}{Q1:β->Cs->Prop}{Q:δ->Cs->Prop}(p:cE Γ q ev cs rel t Q1 X)(u:∀b x a g,Q1 b a->rel g b x->q.le g->cE Γ g ev a rel' (f x) Q X):cE Γ q ev cs rel' (t>>=f) Q X:=λA s j h m I o v n=>ah (c7 (wpAny_toks (p A s (λx d=>0<d.toks->wpAny (model pw Γ.w) A (f x) j h d) h m I o (λb x a g w k r J l y=>u b x a g k r l A w j h m J y (λb x c q s k r I i=>v b x c q s k r I (l.trans i)) λC e c q s k f I i=>n C e c q s k f I (l.trans i)) n)) (λz9 z9 z=>z.2 (bd o z.1)) λz9 z9 z=>z)
theorem cE.ms{t:j5 α}{f:α->j5 γ}{Q1:β->Cs->Prop}{Q:δ->Vs->Cs->Prop}(p:cE Γ q ev cs rel t Q1 (λC cs=>Y C ev cs))(u:∀b x a g,Q1 b a->rel g b x->q.le g->ik Γ g ev a rel' (f x) Q Y):ik Γ q ev cs rel' (t>>=f) Q Y:=λA s j h m I o w n=>ah (c7 (wpAny_toks (p A s (λx d=>0<d.toks->wpAny (model pw Γ.w) A (f x) j h d) h m I o (λb x a g y k r J l B=>u b x a g k r l A y j h m J B (λb x v c q s k r I i=>w b x v c q s k r I (l.trans i)) λC e v c q s k f I i=>n C e v c q s k f I (l.trans i)) (λC e c q s k f I l=>n C e ev c q s k f I l))) (λz9 z9 z=>z.2 (bd o z.1)) λz9 z9 z=>z)
theorem ik.bind{t:j5 α}{f:α->j5 γ}{Q1:β->Vs->Cs->Prop}{Q:δ->Vs->Cs->Prop}(u:ik Γ q ev cs rel t Q1 Y)(w:∀b x g a h,Q1 b g a->rel h b x->q.le h->ik Γ h g a rel' (f x) Q Y):ik Γ q ev cs rel' (t>>=f) Q Y:=λA s m i n I p y o=>ah (c7 (wpAny_toks (u A s (λx d=>0<d.toks->wpAny (model pw Γ.w) A (f x) m i d) i n I p (λb x E a h B k r J l D=>w b x E a h k r l A B m i n J D (λb x v c q s k r I j=>y b x v c q s k r I (l.trans j)) λC e v c q s k f I j=>o C e v c q s k f I (l.trans j)) o)) (λz9 z9 z=>z.2 (bd p z.1)) λz9 z9 z=>z)
theorem cE.pure{b:β}{x:α}{Q:β->Cs->Prop}(k:Q b cs)(h:rel q b x):cE Γ q ev cs rel (pure x) Q X:=λz9 s z9 z9 z9 I z9 a z9=>aA (a b x cs q s k h I (.refl _))
theorem ik.pure{b:β}{x:α}{Q:β->Vs->Cs->Prop}(k:Q b ev cs)(h:rel q b x):ik Γ q ev cs rel (pure x) Q Y:=λz9 s z9 z9 z9 I z9 a z9=>aA (a b x ev cs q s k h I (.refl _))
theorem cE.dS{p:gA}{f:Unit->j5 α}{Q:β->Cs->Prop}(h:cE Γ q ev cs rel (f ()) Q X):cE Γ q ev cs rel (standAt p>>=f) Q X:=λA s b a c I g e d=>ah (gh (h A s b a c I g e d))
theorem ik.dS{p:gA}{f:Unit->j5 α}{Q:β->Vs->Cs->Prop}(h:ik Γ q ev cs rel (f ()) Q Y):ik Γ q ev cs rel (standAt p>>=f) Q Y:=λA s b a c I g e d=>ah (gh (h A s b a c I g e d))
theorem cE.holding{g:List al}{t:j5 α}{Q:β->Cs->Prop}(h:cE Γ q ev cs rel t Q X):cE Γ q ev cs rel (holding g t) Q X:=λA s b a c I f e d=>bW (h A s b a c I f e d)
theorem ik.holding{g:List al}{t:j5 α}{Q:β->Vs->Cs->Prop}(h:ik Γ q ev cs rel t Q Y):ik Γ q ev cs rel (holding g t) Q Y:=λA s b a c I f e d=>bW (h A s b a c I f e d)
theorem wpAny_release{M:Model}{A:bc}{E:al->ax->Prop}{s:ax}{c a:List al}{Q:Unit->ax->Prop}(h:Q () s):wpAny M A (release c a) Q E s:=λΓ p b=>by rw[Sem.wp_release];exact h
theorem r0{M:Model}{A:bc}{E:al->ax->Prop}{s:ax}{b:List al}{t:j5 al}{Q:al->ax->Prop}(h:wpAny M A t Q E s):wpAny M A (operate b t) Q E s:=λΓ p a=>by rw[Sem.wp_operate];exact h Γ p a
theorem cE.operate{rel:G->β->al->Prop}{g:List al}{t:j5 al}{Q:β->Cs->Prop}(h:cE Γ q ev cs rel t Q X):cE Γ q ev cs rel (operate g t) Q X:=λA s b a c I f e d=>r0 (h A s b a c I f e d)
theorem cE.release{j a:List al}{f:Unit->j5 α}{Q:β->Cs->Prop}(h:cE Γ q ev cs rel (f ()) Q X):cE Γ q ev cs rel (release j a>>=f) Q X:=λA s c b d I i g e=>ah (wpAny_release (h A s c b d I i g e))
end
theorem qG{g:Gh}{a:aq}{t:Tag}(h:∀t,g a=aa t->rW t=ac->False):jJ g (upd g a t):=λb u e f=>by
 by_cases c:b=a;·subst c;exact(h u e f).elim
 ·exact(cX c).trans e
theorem w8{q:G}{a:aq}{t:Tag}(h:∀t,q.g a=aa t->rW t=ac->False):q.le ⟨upd q.g a t,q.ca⟩:=⟨qG h,λz9 z9 h=>h⟩
theorem kT{q:G}{K:bt}{a:aq}{t:Tag}(h:Off K q.g a):q.le ⟨upd q.g a t,q.ca⟩:=w8 λt e=>by rw[h.g]at e;exact bn e
section
variable{w:aJ}{h h':bz}{q q':G}{i:Nat}{p:CA}{c:Cell}{l:List (V×V)}{a:aq}
theorem gx.to(g:q.le q')(C:∀b o,q.g b=aa (.fz o)->h.get? b=aa o/\h'.get? b=aa o)(s:∀o,h.get? a=aa o->h'.get? a=aa o)(x:gx w h q l a):gx w h' q' l a:=by induction x with
 |kind o f A j B=>exact .kind o f (s _ A) (j.mono g) B|p8 N y r e j=>refine xN y λD v u E F H I J K=>.p8 N (dB D v u ⟨s _ E,F,H,I,λx d=>?_,K⟩) (λx d=>let⟨o,e⟩:=r x d;⟨o,g.f _ _ e rfl⟩) e (j.mono g);refine xK λQ m=>d0 (J x d) λo k n L M=>aQ (r x d) λt z=>bB (C _ _ z) λO P=>m (dB o k n ⟨by refine P.symm▸O▸L,M⟩)
theorem g5.to(d:q.le q')(e:∀a b,q.g a=aa (.cell i b)->q'.g a=aa (.cell i b))(y:∀b o,q.g b=aa (.fz o)->h.get? b=aa o/\h'.get? b=aa o)(f:∀a b o,q.g a=aa (.cell i b)->h.get? a=aa o->h'.get? a=aa o)(x:g5 w h q i p c):g5 w h' q' i p c:=by induction c with
 |lst r l=>(refine bB x λt j=>?_;obtain⟨z,n,g,r⟩:=j);exact⟨e _ _ t,z,n,f _ _ _ t g,eA.mono d.f _ _ r⟩|inst C A=>(refine fi x λt k j=>?_;obtain⟨o,m,n,g,u,s,r⟩:=j);exact⟨e _ _ t,e _ _ k,o,m,n,f _ _ _ t g,u,f _ _ _ k s,r.mono d⟩|dict l=>exact⟨e _ _ x.1,x.2.to d y λo=>f _ _ _ x.1⟩|dead v=>exact TR.mono d.f _ _ x|ch x=>exact x
theorem io.to{Sm:V->Cell->Prop}(d:q.le q')(e:∀a b,q.g a=aa (.cell i b)->q'.g a=aa (.cell i b))(g:∀b o,q.g b=aa (.fz o)->h.get? b=aa o/\h'.get? b=aa o)(f:∀a b o,q.g a=aa (.cell i b)->h.get? a=aa o->h'.get? a=aa o)(x:io Sm w h q i p c):io Sm w h' q' i p c:=by induction c with
 |ch v=>refine aE x λc k x=>⟨c,k,x.to d e g f⟩|lst r l=>exact g5.to (w:=w) (p:=p) (c:=.lst r l) d e g f x|inst C j=>exact g5.to (w:=w) (p:=p) (c:=.inst C j) d e g f x|dict l=>exact g5.to (w:=w) (p:=p) (c:=.dict l) d e g f x|dead v=>exact g5.to (w:=w) (p:=p) (c:=.dead v) d e g f x
end
section
variable{Γ:Cx}{q:G}{ev:Vs}{cs:Cs}{s:ax}{h':bz}{tk:Nat}
theorem Bound.to{q':G}{m:ao->Option al}{h h':bz}{x:ao}{v:V}(g:q.le q')(k:∀c o,(x,c)∈Γ.env.cells->h.get? c=aa o->h'.get? c=aa o):Bound Γ q m h x v->Bound Γ q' m h' x v
 |.inl ⟨a,u,b,c⟩=>.inl ⟨a,u,b,c.mono g⟩|.inr ⟨a,c,o,u,b,d,e,f⟩=>.inr ⟨a,c,o,u,b,k _ _ (mem_of_lookup b) d,e,f.mono g⟩where mem_of_lookup{x:ao}{c:aq}:∀{l:List (ao×aq)},l.lookup x=aa c->(x,c)∈l
 |y::l,e=>by
  rw[aW]at e;split at e;·rename_i i;(injection e with e;subst e);rw[gz i];exact .head _
  ·exact .tail _ (mem_of_lookup e)
theorem SI.iV(I:SI Γ q ev cs s){a:aq}{o:dJ}(h:q.g a=aa (.fz o)):s.heap.get? a=aa o:=(I.hs.tag _ _ h).1
theorem SI.fresh(I:SI Γ q ev cs s){a:aq}(h:s.heap.get? a=ak):Off Γ.K q.g a:=by
 constructor;·induction e:q.g a with
  |none=>rfl|some t=>refine aQ ((I.hs.tag a t e).1.has) λo z=>?_;rw[h]at z;exact bn z
 ·induction e:Γ.K.lookup a with
  |none=>rfl|some o=>have z:=I.hs.K a o e;rw[h]at z;exact bn z
theorem SI.off(I:SI Γ q ev cs s)(k:∀b o,¬Off Γ.K q.g b->s.heap.get? b=aa o->h'.get? b=aa o):SI Γ q ev cs {s with heap:=h',toks:=tk}:=by
 have g:∀b o t,q.g b=aa t->s.heap.get? b=aa o->h'.get? b=aa o:=λb o t e=>k b o λf=>by rw[f.g]at e;exact bn e
 refine aE I.ns λm B y=>d0 B λo w n A r=>⟨⟨I.hs.rest,λa o e=>k a o (λf=>by rw[f.K]at e;exact bn e) (I.hs.K a o e),λa t e=>⟨(I.hs.tag a t e).1.keep λo=>g a o t e,(I.hs.tag a t e).2⟩,I.hs.kp⟩,I.loc,⟨m,(dB o w n ⟨g _ _ _ I.loc A,r⟩),λx v e=>(y x v e).to (.refl _) λc o z=>g _ _ _ (I.cl _ z).1⟩,λp h=>⟨(I.cl p h).1,let⟨o,u,e,d⟩:=(I.cl p h).2;(cM o u ⟨g _ _ _ (I.cl p h).1 e,d⟩)⟩,I.len,λi c p j l=>(I.cr i c p j l).to (.refl _) (λz9 z9 e=>e) (λb o e=>⟨I.iV e,g _ _ _ e (I.iV e)⟩) (λa b o e=>g a o _ e),I.hc⟩
theorem SI.grow(I:SI Γ q ev cs s)(k:∀b o,s.heap.get? b=aa o->h'.get? b=aa o):SI Γ q ev cs {s with heap:=h',toks:=tk}:=I.off λb o z9=>k b o
theorem SI.toks(I:SI Γ q ev cs s):SI Γ q ev cs {s with toks:=tk}:=I.grow (h':=s.heap) λz9 z9 e=>e
theorem SI.at(I:SI Γ q ev cs s){i:Nat}{p:CA}(a:q.ca[i]?=aa p):∃c,cs[i]?=aa c:=⟨_,bg (by refine I.len.symm▸(aP.mp a).1)⟩
theorem qX{a:Type}{cs:List a}{i j:Nat}{c' d:a}(h:(cs.set i c')[j]?=aa d):(j=i/\d=c')\/(j≠i/\cs[j]?=aa d):=by
 by_cases e:j=i;·subst e;have :=(aP.mp h).1;rw[gj (by simpa using this)]at h;(injection h with h;subst h);exact .inl ⟨rfl,rfl⟩
 ·rw[List.getElem?_set_ne (Ne.symm e)]at h;exact .inr ⟨e,h⟩
theorem SI.cell{i:Nat}{b:Bool}{p:CA}{c':Cell}{D:aq}(I:SI Γ q ev cs s)(g:q.ca[i]?=aa p)(A:q.g D=aa (.cell i b))(k:∀b o,b≠D->s.heap.get? b=aa o->h'.get? b=aa o)(y:∃o,h'.get? D=aa o)(E:io Γ.Sm Γ.w h' q i p c'):SI Γ q ev (cs.set i c') {s with heap:=h',toks:=tk}:=by
  have C:∀{a t},q.g a=aa t->t≠.cell i b->a≠D:=λe n h=>n (eL (e.symm.trans (h▸A)));have l:∀a o t,q.g a=aa t->t≠.cell i b->s.heap.get? a=aa o->h'.get? a=aa o:=λa o t e n=>k a o (C e n);have B:∀a o,Γ.K.lookup a=aa o->a≠D:=λa o e h=>by replace e:=((I.hs.tag _ _ A).2)▸h▸e;exact bn e
  refine aE I.ns λm K H=>d0 K λo M L J r=>⟨⟨I.hs.rest,λa o e=>k a o (B a o e) (I.hs.K a o e),λa t e=>⟨?_,(I.hs.tag a t e).2⟩,I.hs.kp⟩,I.loc,⟨m,(dB o M L ⟨l _ _ _ I.loc (λe=>nomatch e) J,r⟩),λx v e=>(H x v e).to (.refl _) λc o O=>l _ _ _ (I.cl _ O).1 (λe=>nomatch e)⟩,λp g=>⟨(I.cl p g).1,let⟨o,u,e,d⟩:=(I.cl p g).2;(cM o u ⟨l _ _ _ (I.cl p g).1 (λe=>nomatch e) e,d⟩)⟩,by refine ip.symm▸I.len,λj d P w f=>?_,I.hc⟩
  · by_cases F:a=D;·(clear C B;subst F);replace e:=A▸e;(injection e with e;subst e);exact y
    ·exact(I.hs.tag a t e).1.keep λo=>k a o F
  · (clear A k y C B K H J r;rcases qX w with⟨rfl,rfl⟩|⟨N,w⟩);·replace f:=g▸f;(injection f with f;(clear g;subst f));exact E
    ·exact(I.cr j d P w f).to (.refl _) (λz9 z9 e=>e) (λb o e=>⟨I.iV e,l _ _ _ e (λz=>nomatch z) (I.iV e)⟩) λa b o e=>l a o _ e λz=>by(injection z with z;(clear g E l f w e;(clear w;subst z)));exact N rfl
theorem SI.say{i:Nat}{p:CA}{c':Cell}(I:SI Γ q ev cs s)(e:q.ca[i]?=aa p)(c:io Γ.Sm Γ.w s.heap q i p c'):SI Γ q ev (cs.set i c') s:=⟨I.hs,I.loc,I.ns,I.cl,by refine ip.symm▸I.len,λj d f b a=>by
 rcases qX b with⟨rfl,rfl⟩|⟨g,b⟩;·replace a:=e▸a;(injection a with a;subst a);exact c
 ·exact I.cr j d f b a,I.hc⟩
theorem SI.tagged{D:aq}{t:Tag}(I:SI Γ q ev cs s)(J:rW t=ac)(K:Meets s.heap D t)(F:Γ.K.lookup D=ak)(A:∀u,q.g D=aa u->∃i b v,u=.cell i b/\cs[i]?=aa (.dead v)):SI Γ ⟨upd q.g D t,q.ca⟩ ev cs s:=by
  have r:q.le ⟨upd q.g D t,q.ca⟩:=w8 λu e f=>by(refine d0 (A u e) λi b v M P=>?_;subst M);exact cy f
  have w:∀{a u},q.g a=aa u->(∀i b v,u=.cell i b->cs[i]?=aa (.dead v)->False)->upd q.g D t a=aa u:=λ{a u}e n=>by refine(cX λh=>?_).trans e;subst h;refine d0 (A u e) λi b v d g=>n i b v d g
  refine aE I.ns λm L H=>⟨⟨I.hs.rest,I.hs.K,λa u e=>?_,λa k e=>w (I.hs.kp a k e) λz9 z9 z9 h=>nomatch h⟩,w I.loc (λz9 z9 z9 h=>nomatch h),⟨m,L,λx v e=>(H x v e).to r λz9 z9 z9 e=>e⟩,λp C=>⟨w (I.cl p C).1 (λz9 z9 z9 h=>nomatch h),(I.cl p C).2⟩,I.len,λi c p d g=>?_,λh e=>let⟨a,l,z⟩:=I.hc h e;(cM a l (z.mono r.f))⟩
  · by_cases B:a=D;·(clear A;subst B);(injection(bv.symm.trans e)with N;(clear J;subst N));exact⟨K,F⟩
    ·exact I.hs.tag a u ((cX B).symm.trans e)
  ·have x:=I.cr i c p d g;have E:(∀v,c≠.dead v)->io Γ.Sm Γ.w s.heap ⟨upd q.g D t,q.ca⟩ i p c:=λn=>x.to r (λa b e=>w e λj O v z y=>by(injection z with z;(clear g;subst z));rw[d]at y;(injection y with y;(clear d;subst y));exact n v rfl) (λb o e=>⟨I.iV e,I.iV e⟩) λz9 z9 z9 z9 e=>e;clear d;induction c with
    |dead v=>exact TR.mono r.f _ _ x|_=>exact E λz9 h=>nomatch h
theorem SI.Ac{D:aq}{t:Tag}(I:SI Γ q ev cs s)(a:Off Γ.K q.g D)(c:Meets s.heap D t)(b:rW t=ac:=by rfl):SI Γ ⟨upd q.g D t,q.ca⟩ ev cs s:=I.tagged b c a.K λu e=>by rw[a.g]at e;exact bn e
theorem SI.put{g':Gh}{p:CA}{c:Cell}(I:SI Γ q ev cs s)(j:∀a t,q.g a=aa t->g' a=aa t)(E:∀a t,g' a=aa t->q.g a=aa t\/(∃b,t=.cell q.ca.length b)/\(∃o,s.heap.get? a=aa o)/\Γ.K.lookup a=ak)(D:io Γ.Sm Γ.w s.heap ⟨g',q.ca++[p]⟩ q.ca.length p c):SI Γ ⟨g',q.ca++[p]⟩ ev (cs++[c]) s:=by
  have u:q.le ⟨g',q.ca++[p]⟩:=⟨λa t e z9=>j a t e,λi p e=>by refine(cR (aP.mp e).1).symm▸e⟩;refine aE I.ns λm n y=>⟨⟨I.hs.rest,I.hs.K,λa t e=>?_,λa k e=>j _ _ (I.hs.kp a k e)⟩,j _ _ I.loc,⟨m,n,λx v e=>(y x v e).to u λz9 z9 z9 e=>e⟩,λp A=>⟨j _ _ (I.cl p A).1,(I.cl p A).2⟩,by simp[I.len],λi B w f d=>?_,λh e=>let⟨a,l,z⟩:=I.hc h e;(cM a l (z.mono u.f))⟩
  · (clear n y;rcases E a t e with h|⟨⟨b,rfl⟩,g,C⟩);·exact I.hs.tag a t h
    ·exact⟨g,C⟩
  · by_cases r:i<cs.length;·rw[cR r]at f;have d:(q.ca++[p])[i]?=aa w:=d;rw[cR (by refine I.len▸r)]at d;exact(I.cr i B w f d).to u (λa b e=>j _ _ e) (λb o e=>⟨I.iV e,I.iV e⟩) λz9 z9 z9 z9 e=>e
    ·have g:=(aP.mp f).1;rw[aw,List.length_singleton]at g;have :i=cs.length:=Nat.le_antisymm (Nat.le_of_lt_succ g) (ka r);clear r g;subst this;have d:(q.ca++[p])[cs.length]?=aa w:=d;rw[I.len,ey]at d;rw[ey]at f;(injection f with f;subst f);(injection d with d;(clear u;subst d));refine I.len.symm▸D
theorem tf{a:List CA}(p:CA):(a++[p])[a.length]?=aa p:=ey
theorem SI.jQ{r:Bool}{l:List V}{xs:List al}{n:Nat}{D:aq}{d:Prop}(I:SI Γ q ev cs s)(c:Off Γ.K q.g D)(g:s.heap.get? D=aa (eo xs n))(j:eA Γ.w q.g l xs)(k:∀q',q.le q'->SI Γ q' ev (cs++[.lst r l]) s->VR Γ.w q' (.ptr cs.length) (.ref D)->d):d:=by
 have b:jJ q.g (upd q.g D (.cell q.ca.length ae)):=qG λt e=>by rw[c.g]at e;exact bn e
 refine k ⟨upd q.g D (.cell q.ca.length ae),q.ca++[(D,0)]⟩ ⟨b,λi p e=>by refine(cR (aP.mp e).1).symm▸e⟩ (I.put (λa t e=>(cX λh=>by rw[h,c.g]at e;exact bn e).trans e) (λa t e=>?_) ⟨bv,xs,n,g,eA.mono b _ _ j⟩) (uj.mk (D,0) (by refine I.len.symm▸tf _) rfl);by_cases f:a=D;·(clear k b;subst f);rw[bv]at e;(injection e with e;subst e);exact .inr ⟨⟨_,rfl⟩,⟨_,g⟩,c.K⟩
 ·rw[cX f]at e;exact .inl e
theorem c9(h:bz):h.get? h.objs.size=ak:=by induction e:h.get? h.objs.size with
 |none=>rfl|some o=>exact absurd (bp e) (mU _)
theorem lG{h:bz}{a:aq}(b:h.objs.size<=a):h.get? a=ak:=by induction e:h.get? a with
 |none=>rfl|some o=>exact absurd (bp e) (Nat.not_lt.mpr b)
end
abbrev Led:=List (aq×dJ)
noncomputable def allOf(h:bz)(L:aq):Led:=(cU h.objs.size).filterMap λb=>if b=L then ak else(h.get? b).map λo=>(b,o)
theorem ly{h:bz}{L:aq}{p:aq×dJ}:p∈allOf h L↔p.1≠L/\h.get? p.1=aa p.2:=by
  unfold allOf;rw[List.mem_filterMap];constructor
  · rintro⟨b,_,e⟩;by_cases a:b=L;·rw[if_pos a]at e;exact bn e
    ·rw[if_neg a]at e;(refine aE (aM.mp e) λo f g=>?_;(clear e;subst g));exact⟨a,f⟩
  ·rintro⟨d,c⟩;refine⟨p.1,gi.mpr (bp c),?_⟩;rw[if_neg d,c];rfl
theorem oU(b:aq):(({}:bz).get? b)=ak:=by dsimp only[Heap.get?];rfl
theorem oH{h:bz}{a:aq}{m m':ao->Option al}(x:h.Ns a m)(y:h.Ns a m'):m=m':=by refine hY x λo q p g f e k=>hY y λr j i c b l d=>?_;rw[g]at c;(injection c with c;(clear g;subst c));rw[f]at b;(injection b with b;(clear f e l;subst b));funext n;rw[<-k,<-d]
section
variable{Γ:Cx}{q:G}{ev:Vs}{cs:Cs}{s:ax}{h':bz}{tk:Nat}
theorem SI.store{ev':Vs}{m':ao->Option al}(I:SI Γ q ev cs s)(l:h'.Ns Γ.L m')(k:∀b o,b≠Γ.L->s.heap.get? b=aa o->h'.get? b=aa o)(w:∀x v,ev'.lookup x=aa v->Bound Γ q m' h' x v):SI Γ q ev' cs {s with heap:=h',toks:=tk}:=by
 have y:∀{a t},q.g a=aa t->t≠.loc->a≠Γ.L:=λe n h=>n (eL (e.symm.trans (h▸I.loc)));have g:∀a o t,q.g a=aa t->t≠.loc->s.heap.get? a=aa o->h'.get? a=aa o:=λa o t e n=>k a o (y e n);refine⟨⟨I.hs.rest,λa o e=>k a o (λh=>by rw[h,(I.hs.tag _ _ I.loc).2]at e;exact bn e) (I.hs.K a o e),λa t e=>⟨?_,(I.hs.tag a t e).2⟩,I.hs.kp⟩,I.loc,⟨m',l,w⟩,λp f=>⟨(I.cl p f).1,let⟨o,u,e,d⟩:=(I.cl p f).2;(cM o u ⟨g _ _ _ (I.cl p f).1 (λe=>nomatch e) e,d⟩)⟩,I.len,λi c p m r=>(I.cr i c p m r).to (.refl _) (λz9 z9 e=>e) (λb o e=>⟨I.iV e,g _ _ _ e (λz=>nomatch z) (I.iV e)⟩) (λa b o e=>g a o _ e (λz=>nomatch z)),I.hc⟩;by_cases j:a=Γ.L;·subst j;rw[I.loc]at e;(injection e with e;subst e);refine d0 l λo A B z C=>⟨o,z⟩
 ·exact(I.hs.tag a t e).1.keep λo=>k a o j
theorem SI.LV{m:ao->Option al}(I:SI Γ q ev cs s)(i:s.heap.Ns Γ.L m)(a:h'.Ns Γ.L m)(k:∀b o,b≠Γ.L->s.heap.get? b=aa o->h'.get? b=aa o):SI Γ q ev cs {s with heap:=h',toks:=tk}:=by refine aE I.ns λd f g=>?_;cases oH f i;exact I.store a k λx v e=>(g x v e).to (.refl _) λc o h=>k _ _ λz=>by have :=(I.cl _ h).1;replace this:=I.loc▸z▸this;exact nomatch this
theorem SI.frame{a:Prop}(I:SI Γ q ev cs s)(k:∀m,Fr {} Γ.L s.heap m->News {} Γ.L s.heap (allOf s.heap Γ.L)->(∀h' tk l,Fr {} Γ.L h' m->News {} Γ.L h' l->(∀p∈allOf s.heap Γ.L,p∈l)->SI Γ q ev cs {s with heap:=h',toks:=tk})->a):a:=by refine aE I.ns λm c h=>k m ⟨c,(λb o e=>by rw[oU]at e;exact bn e),dp _⟩ (λp d=>⟨(ly.mp d).2,(ly.mp d).1,oU _⟩) λh' tk l F N g=>I.LV c F.ns λb o f e=>(N _ (g (b,o) (ly.mpr ⟨f,e⟩))).1
end
section
variable{Γ:Cx}{ev:Vs}{s:ax}
def xF(Γ:Cx)(ev:Vs)(s:ax){α β γ:Type}(f:α->Cs->(β->Cs->Prop)->Prop)(R:G->α->γ->Prop)(R':Gh->β->γ->Prop)(S:α->β->Prop):Prop:=∀a y cs k q(Z:Prop),f a cs k->SI Γ q ev cs s->R q a y->(∀b cs' q',k b cs'->q.le q'->SI Γ q' ev cs' s->R' q'.g b y->S a b->Z)->Z
theorem xF.each{D β F:Type}{f:D->Cs->(β->Cs->Prop)->Prop}{R:G->D->F->Prop}{A:Gh->β->F->Prop}{S:D->β->Prop}(h:xF Γ ev s f R A S)(L:∀{q q' a y},q.le q'->R q a y->R q' a y)(C:∀{g g':Gh}{b y},jJ g g'->A g b y->A g' b y):xF Γ ev s (pN f) (λq=>bG (R q)) (λg=>bG (A g)) (bG S):=λl=>by induction l with
 |nil=>exactλy B k q Z m I r K=>K [] B q m (.refl _) I r rfl|cons a l M=>intro y B k q Z m I r K;obtain⟨b,E,e,r,t⟩:=r;refine h a b B _ q Z m I r λH i p m c n v x=>M E i _ p Z m n (bG.imp (λz9 z9=>L c) t) λJ j u m d o w z=>K _ j u m (c.trans d) o (bl.mk b E e (C d.f v) w) (bl.mk H J rfl x z)
theorem k7{b:Bool}{A:Prop}(h:gd b A):b=ac/\A:=by induction b with
 |true=>exact⟨rfl,h⟩|false=>exact h.elim
theorem xG{b:Bool}{A C:Prop}(h:gd b A)(k:b=ac->A->C):C:=k (k7 h).1 (k7 h).2
theorem rE{b:Bool}{A B Z:Prop}(h:br b A B)(c:b=ac->A->Z)(a:b=ae->B->Z):Z:=by induction b with
 |true=>exact c rfl h|false=>exact a rfl h
theorem AX{b:Type}{o:Option b}{Q:b->Prop}(h:wp o Q):∃a,o=aa a/\Q a:=by induction o with
 |some a=>exact⟨a,rfl,h⟩|none=>exact h.elim
theorem xW{b:Type}{o:Option b}{Q:b->Prop}{C:Prop}(h:wp o Q)(k:∀a,o=aa a->Q a->C):C:=(AX h).elim λa z=>k a z.1 z.2
theorem vE{a:Type}{b:Bool}{x:a}{y:a}(h:cd b (aa x) ak=aa y):b=ac/\x=y:=by induction b with
 |true=>(injection h with h;subst h);exact⟨rfl,rfl⟩|false=>exact bn h
abbrev NY(Γ:Cx)(ev:Vs)(s:ax)(f:V->Cs->(V->Cs->Prop)->Prop):Prop:=xF Γ ev s f (VR Γ.w) (TR Γ.w) (λz9 z9=>True)
theorem NY.fields{f:V->Cs->(V->Cs->Prop)->Prop}{lo:List ao}(h:NY Γ ev s f):xF Γ ev s (MP f lo) (λq(p:ao×V)(e:ba)=>(∃t,e.key=.str p.1 t)/\VR Γ.w q p.2 e.val) (λg(p:ao×V)(e:ba)=>(∃t,e.key=.str p.1 t)/\TR Γ.w g p.2 e.val) (λz9 b=>qd b.1 lo=ac->b.2=.any):=λp e d k q Z a I r K=>by refine rE a (λz9 a=>K _ d q a (.refl _) I ⟨r.1,r.2.handed⟩ λz9=>rfl) λj a=>h p.2 e.val d _ q Z a I r.2 λv c m a l i t z9=>K _ c m a l i ⟨r.1,t⟩ λz=>?_;rw[show qd (p.1,v).1 lo=ae from j]at z;exact cy z
theorem NY.dict{f:V->Cs->(V->Cs->Prop)->Prop}(h:NY Γ ev s f):xF Γ ev s (Rb f) (λq(p:V×V)(x:al)=>VR Γ.w q p.2 x) (λg(p:V×V)(x:al)=>TR Γ.w g p.2 x) (λa b=>b.1=a.1):=λp e j k q Z d I r K=>h p.2 e j _ q Z d I r λv c m d l i t z9=>K _ c m d l i t rfl
theorem bG.fst{l l':List (V×V)}(h:bG (λa b:V×V=>b.1=a.1) l l'):l'.map (·.1)=l.map (·.1):=by induction l generalizing l' with
 |nil=>subst h;rfl|cons a l c=>obtain⟨y,d,e,r,t⟩:=h;subst e;exact aK.symm▸aK.symm▸r.symm▸(c t).symm▸rfl
theorem bG.mem{f β:Type}{S:β->Prop}{l:List f}{l':List β}(h:bG (λz9 b=>S b) l l'):∀b∈l',S b:=by induction l generalizing l' with
 |nil=>subst h;exactλb c=>nomatch c|cons a l d=>
  obtain⟨y,g,e,r,t⟩:=h;subst e;intro b c;rcases aD.mp c with rfl|c;·exact r
  ·exact d t b c
theorem gx.simple{w:aJ}{h:bz}{q:G}{l:List (V×V)}{a:aq}{Z:Prop}(D:gx w h q l a)(g:(l.all λp=>gG p.1)=ac)(k:∀o b,h.get? a=aa o->iR w q (l.map (·.2)) b->rS w o (l.map (·.1)) b->Z):Z:=by induction D with
 |kind o b z d A=>exact k o b z d A|p8 c i j e d=>clear d;induction l using ai with
  |nil=>
   have :c=[]:=by induction c using ai with|nil=>rfl|cons _ _=>cases e
   clear j;subst this;refine xN i λo n m r t u f B C=>?_;have v:n=#[]:=by simpa using congrArg List.toArray f
   clear f;subst v;exact k o [] r rfl (.str [] rfl (cM #[] m ⟨t,u,(λz9 h=>by simp at h),Pairs.nil,iW⟩))|cons y l=>clear i j;induction c using ai with
   |nil=>cases e|cons x c=>rw[aK,aK]at e;rw[cn,af,(bj e).1]at g;exact absurd g.1 (by simp[gG])
theorem SI.quiet{q:G}{cs:Cs}{i:Nat}{p:CA}{v:V}(I:SI Γ q ev cs s)(a:q.ca[i]?=aa p)(t:TR Γ.w q.g v (.ref p.1)):SI Γ q ev (cs.set i (.dead v)) s:=I.say a t
theorem SI.tJ{q:G}{cs:Cs}{i:Nat}{p:CA}(I:SI Γ q ev cs s)(a:q.ca[i]?=aa p):SI Γ q ev (cs.set i (.dead .any)) s:=I.say a rfl
theorem SI.Ai{q:G}{cs:Cs}{i:Nat}{p:CA}{b:Bool}{D:aq}{t:Tag}{v:V}(I:SI Γ q ev (cs.set i (.dead v)) s)(f:q.ca[i]?=aa p)(a:q.g D=aa (.cell i b))(c:rW t=ac)(d:Meets s.heap D t):SI Γ ⟨upd q.g D t,q.ca⟩ ev (cs.set i (.dead v)) s:=I.tagged c d (I.hs.tag _ _ a).2 λu e=>by rw[a]at e;(injection e with e;subst e);exact dB i b v ⟨rfl,gj (by have :=I.len;rw[ip]at this;refine this.symm▸(aP.mp f).1)⟩
theorem i5{q:G}{D:aq}{t:Tag}{i:Nat}{b:Bool}(a:q.g D=aa (.cell i b)):q.le ⟨upd q.g D t,q.ca⟩:=w8 λu e f=>by rw[a]at e;(injection e with e;subst e);exact cy f
theorem DP{f:V->Cs->(V->Cs->Prop)->Prop}(R:NY Γ ev s f){i:Nat}{c:Cell}{p:CA}{cs:Cs}{k:V->Cs->Prop}{q:G}{Z:Prop}(b:Rc f i c cs k)(I:SI Γ q ev cs s)(P:cs[i]?=aa c)(d:q.ca[i]?=aa p)(K:∀v cs' q',k v cs'->q.le q'->SI Γ q' ev cs' s->TR Γ.w q'.g v (.ref p.1)->Z):Z:=by have x:=I.cr i c p P d;have B:=I.tJ d;clear P;induction c with
 |dead v=>exact K v cs q b (.refl _) I x|lst r l=>(refine bB x λt O=>?_;obtain⟨A,n,w,r⟩:=O);have g:=i5 (t:=.fz (eo A n)) t;have m:TR Γ.w (upd q.g p.1 (.fz (eo A n))) (.lst l) (.ref p.1):=rM.mk p.1 A n rfl bv (eA.mono g.f _ _ r);have J:=B.Ai d t (t:=.fz (eo A n)) rfl w;have y:=J.quiet (i:=i) (p:=p) d m;rw[List.set_set]at y;exact K _ _ _ b g y m
 |inst C T=>(refine fi x λt N O=>?_;obtain⟨o,z,n,w,X,Q,r⟩:=O);have g:=i5 (t:=.fz o) t;have J:=B.Ai d t (t:=.fz o) rfl w;have S:upd q.g p.1 (.fz o) p.2=aa (.cell i ac):=(cX λe=>by rw[e,t]at N;exact nomatch N).trans N;have H:=i5 (q:=⟨upd q.g p.1 (.fz o),q.ca⟩) (t:=ml C z n) S;have y:=J.Ai (i:=i) (p:=p) d S tO (by unfold ml;induction fG C using ai with
  |nil=>exact Q|cons a r=>exact cM z n ⟨Q,.refl _ _⟩);refine R.fields.each (λl h=>⟨h.1,h.2.mono l⟩) (λl h=>⟨h.1,TR.mono l _ _ h.2⟩) T z _ _ _ Z b y (qe.mono (g.trans H) r) λE cs' q' b j D L M=>?_;have F:=j.c _ _ d;have m:TR Γ.w q'.g (.inst C E) (.ref p.1):=zy.mk p.1 p.2 o z n rfl (j.f _ _ (H.f _ _ bv rfl) rfl) X (j.f _ _ bv tO) (sR.of L) (bG.mem M);exact K _ _ q' b ((g.trans H).trans j) (D.quiet F m) m|dict l=>refine xG b λU b=>x.2.simple U λo u w W Y=>?_;have g:=i5 (t:=.fz o) x.1;have J:=B.Ai d x.1 (t:=.fz o) rfl w;refine R.dict.each (λl h=>h.mono l) (λl h=>TR.mono l _ _ h) l u _ _ _ Z b J (bG.map (iR.mono g W)) λl' cs' q' b j D L M=>?_;have m:TR Γ.w q'.g (.dict l') (.ref p.1):=vW.mk p.1 o u rfl (j.f _ _ bv rfl) (xA.of L) (by refine(bG.fst M).symm▸Y);exact K _ _ q' b (g.trans j) (D.quiet (j.c _ _ d) m) m|ch x=>exact b.elim
theorem MO:∀n,NY Γ ev s (U9 n):=λn=>by induction n with
 |zero=>exactλv x f k q Z a=>mR a|succ n j=>intro v x f k q Z a I d K;induction v using V.casesOn with
  |ptr i=>change uj _ _ _ at d;obtain⟨p,h,e⟩:=d;subst e;refine xW a λc g a=>DP j a I g h λv b m a l J t=>K v b m a l J t trivial|_=>exact K _ f q a (.refl _) I d trivial
theorem f9:NY Γ ev s l8:=MO 5
theorem G8:xF Γ ev s tS (iR Γ.w) (λg=>bG (TR Γ.w g)) (bG λz9 z9=>True):=f9.each (λl h=>h.mono l) λl h=>TR.mono l _ _ h
end
def vR(F:bt)(w:aJ)(h:bz)(q:G)(u:V)(x:al):Prop:=match u with
 |.lst l=>∃a,x=.ref a/\Ic w h q.g l a|.inst C fs=>∃p:CA,x=.ref p.1/\NX w h q C fs p|.dict l=>∃a,x=.ref a/\gx w h q l a/\F.lookup a=ak|u=>TR w q.g u x
section
variable{Γ:Cx}{q:G}{ev:Vs}{cs:Cs}{s:ax}{α β:Type}
theorem Gz{w:aJ}{g:Gh}{C:aq}{fs:Vs}:∀{a es:List ba},rN C fs->sR w g fs a->JV (fG C) a es->sR w g fs es:=by induction fs with
 |nil=>intro a es _ h l;subst h;exact l|cons f fs v=>
  intro a es i h l;obtain⟨e,r,b,h,t⟩:=h;subst b;(refine qC l λk B d y c z=>?_;(clear l;subst d));refine bB h λd o=>aQ d λu j=>bl.mk k B rfl ⟨⟨u,y.trans j⟩,?_⟩ (v (λp n=>i p (.tail _ n)) t z);rcases c with c|⟨A,x,E,b,m⟩;·refine c.symm▸o
  ·(injection(j.symm.trans b)with D;(clear b;subst D));refine(i f (.head _) m).symm▸A
theorem sH{w:aJ}{h:bz}{g:Gh}{C d:aq}{es:List ba}{n:Nat}{fs:Vs}(x:Meets h d (ml C es n))(k:rN C fs)(f:sR w g fs es):∃b e,h.get? d=aa (dictOf b e)/\sR w g fs b:=by unfold ml at x;induction c:fG C using ai with
 |nil=>replace x:=c▸x;exact cM es n ⟨x,f⟩|cons a r=>replace x:=c▸x;refine c8 x λb e i j=>cM b e ⟨i,Gz k f (by refine c.symm▸j)⟩
theorem B9(I:SI Γ q ev cs s){u:V}{x:al}(h:TR Γ.w q.g u x):vR Γ.K Γ.w s.heap q u x:=by induction u using V.casesOn with
 |lst l=>obtain⟨a,t,n,e,m,r⟩:=h;exact⟨a,e,t,n,I.iV m,r⟩|inst C w=>obtain⟨a,d,o,v,n,e,m,i,j,r,l⟩:=h;refine c8 (sH (I.hs.tag _ _ j).1 l r) λc p f g=>⟨(a,d),e,o,c,p,I.iV m,i,f,.wU g⟩|dict l=>obtain⟨a,o,b,e,m,r,k⟩:=h;exact⟨a,e,.kind o b (I.iV m) (bG.IB (bG.imp (λz9 z9 h=>.iN h) r.all)) k,(I.hs.tag _ _ m).2⟩|_=>exact h
theorem sy(I:SI Γ q ev cs s){v:V}{x:al}(d:VR Γ.w q v x):vR Γ.K Γ.w s.heap q (view cs v) x:=by induction v using V.casesOn with
 |ptr i=>cases d with|mk p b e=>subst e;obtain⟨c,a⟩:=I.at b;have z:=I.cr i c p a b;show vR _ _ _ _ (seen cs[i]?) _;refine a.symm▸?_;clear a;induction c with
  |lst r l=>exact⟨p.1,rfl,z.2⟩|inst C f=>exact⟨p,rfl,z.2.2⟩|dict l=>exact⟨p.1,rfl,z.2,(I.hs.tag _ _ z.1).2⟩|dead u=>exact B9 I z|ch u=>trivial
 |_=>exact B9 I d
theorem cE.val{rel:G->β->α->Prop}{t:j5 α}{b:β}{Q:β->Cs->Prop}{X:XP}(k:Q b cs)(h:∀(A:bc)(s:ax)(QQ:α->ax->Prop)(EE:al->ax->Prop),jh Γ A->SI Γ q ev cs s->(∀x tk,rel q b x->QQ x {s with toks:=tk})->wpAny (model pw Γ.w) A t QQ EE s):cE Γ q ev cs rel t Q X:=λA s QQ EE a I z9 c z9=>h A s QQ EE a I λx tk d=>c b x cs q _ k d I.toks (.refl _)
theorem cE.by{rel:G->β->α->Prop}{t:j5 α}{Q:β->Cs->Prop}{X:XP}(h:∀s,SI Γ q ev cs s->∀A,jh Γ A->∀(QQ:α->ax->Prop)(EE:al->ax->Prop),(∀b x cs' q' a,Q b cs'->rel q' b x->SI Γ q' ev cs' a->q.le q'->QQ x a)->wpAny (model pw Γ.w) A t QQ EE s):cE Γ q ev cs rel t Q X:=λA s QQ EE c I z9 d z9=>h s I A c QQ EE d
theorem sG{a:Int}(h:small a=ac)(b:a≠0):a.natAbs.log2<4000:=(Nat.log2_lt (Int.natAbs_ne_zero.mpr b)).mpr (of_decide_eq_true h)
theorem Ag{a b:Int}(e:small a=ac)(f:small b=ac):IntMulOk a b:=by
 have c:∀{a:Int},small a=ac->gD a<=4000:=λ{a}h=>by
  unfold gD;by_cases d:a=0;·subst d;decide
  ·rw[if_neg (by simpa using d)];exact sG h d
 have g:=c e;have i:=c f;unfold IntMulOk;rw[show Builtin.Int.intTooBig (↑(gD a)+↑(gD b))=ae from decide_eq_false (by unfold bitsLine;lia)];simp
theorem AG{a b:Int}(d:small b=ac)(c:b≠0):pq a b=ae:=by have :=sG d c;unfold pq;rw[Bool.and_eq_false_iff];left;refine decide_eq_false ?_;dsimp only;rw[if_neg (by simpa using c)];lia
theorem dc{n:Nat}(h:fits n=ac):n<=1000000:=aj h
theorem el{n:Nat}(h:fits n=ac):n<=sizeLine:=by have :=dc h;refine sizeLine_eq.symm▸nT ‹_› rfl
variable{Q:V->Cs->Prop}{X:XP}
theorem Kq{op:Operator}{a b:Int}{t u:Tok}(h:OB op a b λv=>Q v cs):cE Γ q ev cs (eg Γ.w) (binaryOp op (.int a t) (.int b u)) Q X:=by induction op with
 |Add=>exact .val h λA s e d z9 z9 K=>PyProof.Rows.add_int (K _ _ ⟨_,rfl⟩)|Sub=>exact .val h λA s e d z9 z9 K=>PyProof.Rows.sub_int (K _ _ ⟨_,rfl⟩)|Mult=>refine xG h λc h=>?_;rw[af]at c;exact .val h λA s e d z9 z9 K=>PyProof.Rows.mul_int (K _ _ ⟨_,rfl⟩) (Ag c.1 c.2)|FloorDiv=>refine xG h λc h=>?_;rw[af]at c;have f:=of_decide_eq_true c.1;exact .val h λA s e d z9 z9 K=>PyProof.Rows.floordiv_int f (K _ _ ⟨_,rfl⟩) (.inl (AG c.2 f))|Mod=>refine xG h λc h=>.val h λA s e d z9 z9 K=>PyProof.Rows.mod_int (of_decide_eq_true c) (K _ _ ⟨_,rfl⟩)|LShift=>refine xG h λc h=>?_;have c:=of_decide_eq_true c;exact .val h λA s e d z9 z9 K=>PyProof.Rows.lshift_int_small c.1 c.2.1 c.2.2 (K _ _ ⟨_,rfl⟩)|RShift=>refine xG h λc h=>.val h λA s e d z9 z9 K=>PyProof.Rows.rshift_int (of_decide_eq_true c) (K _ _ ⟨_,rfl⟩)|Pow=>refine xG h λc h=>?_;have c:=of_decide_eq_true c;exact .val h λA s e d z9 z9 K=>PyProof.Rows.pow_int_small c.1 c.2.1 c.2.2 (K _ _ ⟨_,rfl⟩)|BitAnd=>exact .val h λA s e d z9 z9 K=>PyProof.Rows.and_int (K _ _ ⟨_,rfl⟩)|BitOr=>exact .val h λA s e d z9 z9 K=>PyProof.Rows.or_int (K _ _ ⟨_,rfl⟩)|BitXor=>exact .val h λA s e d z9 z9 K=>PyProof.Rows.xor_int (K _ _ ⟨_,rfl⟩)|MatMult=>exact h.elim|Div=>exact h.elim
theorem asInt_eq{v:V}{i:Int}(h:fu v=aa i):v=.int i:=by induction v using V.casesOn<;>(first|exact bn h|exact cy h|(injection h with h;subst h));rfl
theorem asStr_eq{v:V}{i:ao}(h:dX v=aa i):v=.str i:=by induction v using V.casesOn<;>(first|exact bn h|exact cy h|(injection h with h;subst h));rfl
theorem asLst_eq{v:V}{i:List V}(h:nG v=aa i):v=.lst i:=by induction v using V.casesOn<;>(first|exact bn h|exact cy h|(injection h with h;subst h));rfl
theorem asPtr_eq{v:V}{i:Nat}(h:nF v=aa i):v=.ptr i:=by induction v using V.casesOn<;>(first|exact bn h|exact cy h|(injection h with h;subst h));rfl
theorem asRef_eq{v:V}{i:aq}(h:zw v=aa i):v=.ref i:=by induction v using V.casesOn<;>(first|exact bn h|exact cy h|(injection h with h;subst h));rfl
theorem isAdd_eq{op:Operator}(h:isAdd op=ac):op=.Add:=by induction op<;>first|rfl|exact cy h
theorem one_eq{α:Type}{l:List α}{a:α}(h:one? l=aa a):l=[a]:=by induction l using ai with
 |nil=>exact bn h|cons b l=>induction l using ai with
  |nil=>(injection h with h;subst h);rfl|cons=>exact bn h
theorem two_eq{α:Type}{l:List α}{p:α×α}(h:p7 l=aa p):l=[p.1,p.2]:=by induction l using ai with
 |nil=>exact bn h|cons b l=>(refine aE (aM.mp (show(one? l).map (λc=>(b,c))=aa p from h)) λc a d=>?_;(clear h;subst d));exact(one_eq a).symm▸rfl
theorem bV{h:bz}{a:aq}{xs:List al}{n:Nat}(e:h.get? a=aa (eo xs n)):h.IsList a xs.toArray:=⟨_,e,rfl,n,rfl⟩
theorem eA.len{w:aJ}{g:Gh}{l:List V}{xs:List al}(h:eA w g l xs):xs.length=l.length:=h.all.len
theorem BA{op:Operator}{a b:V}{x y:al}(r:VR Γ.w q a x)(w:VR Γ.w q b y)(h:sY op (view cs a) (view cs b) cs Q):cE Γ q ev cs (eg Γ.w) (binaryOp op x y) Q X:=λA s L H O I T z P=>by have d:=sy I r;have g:=sy I w;generalize view cs a=u at h d;generalize view cs b=v at h g;induction u using V.casesOn with
 |int i=>refine xW h λj e h=>?_;replace g:=(asInt_eq e)▸g;(refine aQ d λt d=>?_;(clear r;subst d));(refine aQ g λC d=>?_;(clear w;subst d));exact Kq h A s L H O I T z P|str i=>refine xW h λj e h=>?_;replace g:=(asStr_eq e)▸g;(refine aQ d λt d=>?_;(clear r;subst d));(refine aQ g λC d=>?_;(clear w;subst d));refine xG h λc h=>xG h λf h=>(isAdd_eq c).symm▸PyProof.Rows.add_str (λC Y=>z _ _ cs q _ h ⟨C,rfl⟩ I.toks (.refl _)) (el f)|lst l=>refine xW h λm e h=>?_;replace g:=(asLst_eq e)▸g;(refine aE d λa d g=>?_;obtain⟨Z,n,R,E⟩:=g;(clear r;subst d));(refine aE g λb d g=>?_;obtain⟨ys,W,B,o⟩:=g;(clear w g;subst d));refine xG h λc h=>xG h λf h=>(isAdd_eq c).symm▸I.frame λm F N k=>add_lists F N (bV R) (bV B) (λM K D=>?_) (by refine E.len.symm▸o.len.symm▸el f);refine(k M s.toks _ K D λp S=>.tail _ S).jQ (n:=0) (I.fresh (c9 _)) (D _ (.head _)).1 (eA.of (bG.append o.all E.all)) λU l J v=>z _ _ _ U _ h v J l|_=>exact h.elim
mutual theorem uG{w:aJ}{g:Gh}{h:bz}(hp:∀a o,g a=aa (.fz o)->h.get? a=aa o):∀(v:V)(x:al)(d:PyData),TR w g v x->toD v=aa d->∃as,Reads h x d as
 |.none,x,d,e,q=>by(injection q with q;subst q);subst e;exact⟨_,.none⟩|.bool b,x,d,e,q=>by(injection q with q;subst q);subst e;exact⟨_,.bool b⟩|.int i,x,d,e,q=>by(injection q with q;subst q);(refine aQ e λt z1=>?_;subst z1);exact⟨_,.int i t⟩|.str i,x,d,e,q=>by(injection q with q;subst q);(refine aQ e λt z1=>?_;subst z1);exact⟨_,.str i t⟩|.tup l,x,d,e,q=>by obtain⟨a,xs,n,e,m,r⟩:=e;subst e;(refine aE (aM.mp (show(lV l).map _=aa d from q)) λds hd z1=>?_;subst z1);refine aQ (lp hp l xs ds r hd) λas z=>⟨as,reads_tuple_at (hp _ _ m) rfl rfl z⟩|.lst l,x,d,e,q=>by obtain⟨a,xs,n,e,m,r⟩:=e;subst e;(refine aE (aM.mp (show(lV l).map _=aa d from q)) λds hd z1=>?_;subst z1);refine aQ (lp hp l xs ds r hd) λas z=>⟨_,reads_list_at (hp _ _ m) rfl rfl z⟩|.ref _,_,_,_,q=>bn q|.bi _,_,_,_,q=>bn q|.any,_,_,_,q=>bn q|.ptr _,_,_,_,q=>bn q|.FY _ _,_,_,_,q=>bn q|.inst _ _,_,_,_,q=>bn q|.exc _,_,_,_,q=>bn q|.dict _,_,_,_,q=>bn q theorem lp{w:aJ}{g:Gh}{h:bz}(hp:∀a o,g a=aa (.fz o)->h.get? a=aa o):∀(vs:List V)(xs:List al)(ds:List PyData),eA w g vs xs->lV vs=aa ds->∃as,ReadsAll h xs ds as
 |[],xs,ds,e,q=>by(injection q with q;subst q);subst e;exact⟨_,.nil⟩|v::vs,xs,ds,e,q=>by cases e with|mk y ys e r t=>
  subst e;dsimp only[lV]at q;refine xO (toD v) (λhd=>?_) λd hd=>?_;·replace q:=hd▸q;exact bn q
  ·rw[hd]at q;(refine aE (aM.mp (show(lV vs).map _=aa ds from q)) λZb YR z1=>?_;(clear q;subst z1));refine aQ (uG hp v y d r hd) λas r=>aQ (lp hp vs ys Zb t YR) λbs r'=>⟨_,.cons r r'⟩end
theorem iD(I:SI Γ q ev cs s){u:V}{x:al}{d:PyData}(z:vR Γ.K Γ.w s.heap q u x)(h:toD u=aa d):∃c,Reads s.heap x d c:=by have e:∀a o,q.g a=aa (.fz o)->s.heap.get? a=aa o:=λa o=>I.iV;induction u using V.casesOn with
 |lst l=>(refine aE z λa b m=>?_;obtain⟨k,n,j,i⟩:=m;subst b);(refine aE (aM.mp (show(lV l).map _=aa d from h)) λf g b=>?_;subst b);refine aQ (lp e l k f i g) λc r=>⟨_,reads_list_at j rfl rfl r⟩|inst C p=>exact bn h|dict l=>exact bn h|_=>exact uG e _ _ _ z h
theorem jh.Wx{A:bc}(h:jh Γ A):A.units+64<cLine:=by have :=h.units;unfold cLine;lia
theorem jh.u0{A:bc}(h:jh Γ A):A.units<cLine:=by have :=h.units;unfold cLine;lia
theorem jh.u1{A:bc}(h:jh Γ A):A.units+1<cLine:=by have :=h.units;unfold cLine;lia
theorem jh.OK{A:bc}(h:jh Γ A){n m:Nat}(a:m<=64):A.units+1+min n m<cLine:=by have :=h.units;have :=Nat.min_le_right n m;unfold cLine;lia
theorem uu{u:V}{x:al}{A:bc}{QQ:Bool->ax->Prop}{EE:al->ax->Prop}{R:Bool->Prop}(I:SI Γ q ev cs s)(z:vR Γ.K Γ.w s.heap q u x)(h:om u R)(k:∀b tk,R b->QQ b {s with toks:=tk}):wpAny (model pw Γ.w) A (truthy x) QQ EE s:=by induction u using V.casesOn with
 |none=>subst z;exact truthy_none (k _ s.toks h)|bool b=>subst z;exact wpAny_truthy_bool (k _ s.toks h)|int i=>(refine aQ z λt d=>?_;subst d);exact PyProof.Rows.truthy_int (k _ s.toks h)|str i=>refine xG h λf h=>?_;(refine aQ z λt d=>?_;subst d);have :=dc f;refine PySem.P.truthy_str (by lia) ?_;refine(show((i.length:Int)!=0)=(i.length !=0)from by cases p:i.length<;>simp<;>lia).symm▸k _ (s.toks+1+1) h|lst l=>refine xG h λf h=>?_;(refine aE z λa d o=>?_;obtain⟨c,n,j,g⟩:=o;subst d);have :=dc f;have e:=g.len;refine wpAny_truthy_list (bV j) (by refine aT.symm▸?_;lia) ?_;refine(show(!c.toArray.isEmpty)=(l.length !=0)from by refine e▸?_;induction c using ai<;>simp).symm▸?_;exact k _ _ h|tup l=>refine xG h λf h=>?_;obtain⟨a,c,n,e,m,g⟩:=z;subst e;have :=dc f;have e:=g.len;refine truthy_tuple ⟨_,I.iV m,rfl,n,rfl⟩ (by refine aT.symm▸?_;lia) ?_;refine(show(!c.toArray.isEmpty)=(l.length !=0)from by refine e▸?_;induction c using ai<;>simp).symm▸?_;exact k _ _ h|_=>exact h.elim
theorem uF{a:V}{x:al}{R:Bool->Cs->Prop}(c:VR Γ.w q a x)(h:om (view cs a) λb=>R b cs):cE Γ q ev cs oy (truthy x) R X:=.by λs I A f e d K=>uu I (sy I c) h λb g r=>K b b cs q _ r rfl I.toks (.refl _)
theorem Ff{op:UnaryOp}{a:V}{x:al}(c:VR Γ.w q a x)(h:Iq op (view cs a) λv=>Q v cs):cE Γ q ev cs (eg Γ.w) (unaryOp op x) Q X:=.by λs I A d g f K=>by have z:=sy I c;induction op with
 |USub=>refine xW h λi e h=>?_;rw[asInt_eq e]at z;clear c d e;obtain⟨t,rfl⟩:=z;exact neg_int (K _ _ cs q _ h ⟨_,rfl⟩ I.toks (.refl _))|Not=>exact not_value (uu (R:=λb=>Q (.bool (!b)) cs) I z h λb j r=>K (.bool (!b)) _ cs q _ r rfl I.toks (.refl _))|_=>exact h.elim
end
inductive xC{α β:Type}(R:α->β->Prop):Option α->Option β->Prop|none:xC R ak ak|some{a:α}{b:β}(h:R a b):xC R (aa a) (aa b)
theorem rb{c β:Type}{R:c->β->Prop}{a:Option c}{b:Option β}(h:xC R a b):a.isSome=b.isSome:=by induction h<;>rfl
theorem tx{d β:Type}{R:d->β->Prop}{a:d}{b:Option β}(h:xC R (aa a) b):∃c,b=aa c/\R a c:=by cases h with|some h=>exact⟨_,rfl,h⟩
section enc
variable{K:Type}[DecidableEq K]{enc:K->V}{mk:K->Key}{w:aJ}{q:G}{k:K}
theorem mZ{k₁:K}{y:al}{r:List (K×al)}:valueAt ((k₁,y)::r) k=if k₁=k then aa y else valueAt r k:=by by_cases h:k₁=k<;>simp[valueAt,kt,h]
theorem rx{k:Key}{p:V×V}{l:List (V×V)}{b:Bool}(h:k.is p.1=aa b):eY k (p::l)=cd b (aa (aa p.2)) (eY k l):=by show(match k.is p.1with|aa b=>cd b (aa (aa p.2)) (eY k l)|ak=>ak)=_;exact h.symm▸rfl
theorem Ab{k:Key}{v:V}{p:V×V}{l:List (V×V)}{b:Bool}(h:k.is p.1=aa b):putK k v (p::l)=cd b (aa ((p.1,v)::l)) ((putK k v l).map (p::·)):=by show(match k.is p.1with|aa b=>cd b (aa ((p.1,v)::l)) ((putK k v l).map (p::·))|ak=>ak)=_;rw[h]
theorem mI{k:Key}{p:V×V}{l:List (V×V)}{r:Option V}(h:eY k (p::l)=aa r):∃b,k.is p.1=aa b:=by induction e:k.is p.1with
 |some b=>exact⟨b,rfl⟩|none=>
  have :eY k (p::l)=ak:=by show(match k.is p.1with|aa b=>cd b (aa (aa p.2)) (eY k l)|ak=>ak)=_;exact e.symm▸rfl
  rw[this]at h;exact bn h
theorem rv(n:∀a b,(mk a).is (enc b)=aa (decide (b=a))){l:List (V×V)}{r:Option V}:∀{ks:List K}{c:List al},l.map (·.1)=ks.map enc->iR w q (l.map (·.2)) c->eY (mk k) l=aa r->xC (VR w q) r (valueAt (ks.zip c) k):=by induction l with
 |nil=>intro ks c g j d;(injection d with d;subst d);induction ks using ai with
  |nil=>exact .none|cons=>cases g
 |cons p l s=>intro ks c g j d;induction ks using ai with
  |nil=>cases g|cons f ks=>
   obtain⟨y,t,e,o,i⟩:=j;subst e;have m:p.1=enc f:=(bj g).1;rw[rx (b:=decide (f=k)) (by rw[m,n])]at d;rw[cj,mZ];by_cases h:f=k;·rw[decide_eq_true h]at d;rw[if_pos h];(injection d with d;subst d);exact .some o
   ·rw[decide_eq_false h]at d;rw[if_neg h];exact s (bj g).2 i d
theorem kZ{ks:List K}{a:List al}(h:a.length=ks.length):(ks.zip a).map (·.1)=ks:=List.map_fst_zip (Nat.le_of_eq h.symm)
inductive VT(enc:K->V)(w:aJ)(q:G)(Yp:List (K×al))(l:List (V×V)):Prop|mk(ks:List K)(vals:List al)(e:Yp=ks.zip vals)(h1:l.map (·.1)=ks.map enc)(h2:iR w q (l.map (·.2)) vals)(h3:vals.length=ks.length)
theorem yo(J:∀a b,(mk a).is (enc b)=aa (decide (b=a)))(B:(mk k).v=enc k){v:V}{u:al}(A:VR w q v u){l:List (V×V)}:∀{l':List (V×V)}{ks:List K}{d:List al},l.map (·.1)=ks.map enc->iR w q (l.map (·.2)) d->putK (mk k) v l=aa l'->ks.Nodup->VT enc w q (stored (ks.zip d) k u) l':=by induction l with
 |nil=>intro l' ks d j s f n;(injection f with f;subst f);induction ks using ai with
  |nil=>subst s;exact⟨[k],[u],rfl,by rw[aK,B];rfl,bl.mk u [] rfl A rfl,rfl⟩|cons=>cases j
 |cons p l M=>intro l' ks d j s f n;induction ks using ai with
  |nil=>cases j|cons c ks=>
   obtain⟨y,m,e,L,i⟩:=s;subst e;have o:p.1=enc c:=(bj j).1;have r:=(bj j).2;have h:m.length=ks.length:=by have a:=i.len;have b:=congrArg dZ r;rw[az]at a b;rw[az]at b;exact a.symm▸b.symm▸rfl
   rw[Ab (b:=decide (c=k)) (by rw[o,J])]at f;rw[d9]at n;by_cases t:c=k;·(clear B j;subst t);rw[decide_eq_true rfl]at f;(injection f with f;subst f);refine⟨c::ks,u::m,?_,by rw[aK,r];exact congrArg (·::_) o,bl.mk u m rfl A i,congrArg Nat.succ h⟩;have :((ks.zip m).map λz=>if z.1=c then(z.1,u)else z)=ks.zip m:=map_store_of_not_mem _ _ _ (by refine(kZ h).symm▸n.1);simp[stored,this]
   ·rw[decide_eq_false t]at f;(refine aE (aM.mp (show(putK (mk k) v l).map _=aa l' from f)) λC I N=>?_;(clear f;subst N));obtain⟨x,g,D,E,F,H⟩:=M r i I n.2;refine⟨c::x,y::g,?_,by rw[aK,E];exact congrArg (·::_) o,bl.mk y g rfl L F,congrArg Nat.succ H⟩;rw[cj,cj,<-D];unfold stored;simp only[fK,t,decide_false,fL,aK,if_false];split<;>rfl
end enc
theorem xb(l:List Int):intsOf (l.map .int)=aa l:=by induction l with
 |nil=>rfl|cons i l a=>show(intsOf (l.map .int)).map (i::·)=_;refine a.symm▸?_;rfl
theorem intsOf_eq{l:List V}:∀{is:List Int},intsOf l=aa is->l=is.map .int:=by induction l with
 |nil=>intro is h;(injection h with h;subst h);rfl|cons v l b=>
  intro is h;dsimp only[intsOf]at h;refine xO (fu v) (λe=>?_) λi e=>?_;·replace h:=e▸h;exact bn h
  ·rw[e]at h;(refine aE (aM.mp (show(intsOf l).map _=aa is from h)) λq a c=>?_;(clear h;subst c));refine(b a).symm▸(asInt_eq e).symm▸?_;rfl
theorem intsEq_eq:∀a b:List Int,tN a b=decide (a=b)
 |[],[]=>rfl|[],_::_=>rfl|_::_,[]=>rfl|a::l,b::m=>by show(decide (a=b)&&tN l m)=_;rw[intsEq_eq l m];by_cases h:a=b<;>simp[h]
theorem DA(a b:ao):(Key.str a).is (.str b)=aa (decide (b=a)):=by show aa (ag b a)=_;congr 1;rw[ky,aI,decide_eq_true_iff]
theorem DB(a b:Int):(Key.int a).is (.int b)=aa (decide (b=a)):=rfl
theorem Dz(a b:List Int):(Key.tup a).is (.tup (b.map .int))=aa (decide (b=a)):=by show(intsOf (b.map .int)).map _=_;rw[xb,j8,intsEq_eq]
inductive Face(w:aJ)(h:bz)(q:G)(l:List (V×V))(a:aq)(k:Key)(x:al):Prop|flat(K:Type)(dec:DecidableEq K)(knd:KeyKind pw w K)(enc:K->V)(mk:K->Key)(key:K)(he:∀a b,(mk a).is (enc b)=aa (decide (b=a)))(hv:∀a,(mk a).v=enc a)(hk:k=mk key)(hx:knd.is key x=ac)(ks:List K)(vals:List al)(e:l.map (·.1)=ks.map enc)(r:iR w q (l.map (·.2)) vals)(d:h.DictOf knd a (ks.zip vals))(back:∀(o:dJ)(ks:List K)(vals:List al),o.IsDictOf knd (ks.zip vals)->rS w o (ks.map enc) vals)|tup(xs:List (List Int×aq×al))(y:List Int)(b:aq)(o:dJ)(hk:k=.tup y)(hx:x=.ref b)(hb:IsTupleKey (intKind pw w) h y b)(ho:q.g b=aa (.fz o))(d:h.DictOfH (tupleKind (intKind pw w)) a xs)(hf:∀x∈xs,∃o,q.g x.2.1=aa (.fz o))(e:l.map (·.1)=xs.map (λx=>V.tup (x.1.map .int)))(r:iR w q (l.map (·.2)) (xs.map (·.2.2)))
section
variable{w:aJ}{h:bz}{q:G}{l:List (V×V)}{a:aq}
theorem gx.empty(D:gx w h q [] a):(h.DictOf (strKind pw w) a [])/\(h.DictOf (intKind pw w) a [])/\h.DictOfH (tupleKind (intKind pw w)) a []:=by
 have :∃o b,h.get? a=aa o/\o.ExactDict/\o.data=.dict #[] b:=by
  have j:∀{K:Type}[DecidableEq K]{m:KeyKind pw w K}{g:Array ba},Pairs m g.toList []->g=#[]:=λh=>by induction v:(‹Array ba›:Array ba)with|mk l=>replace h:=v▸h;cases h;rfl
  induction D with
  |kind o r i p y=>induction y with
   |str n e d=>induction n using ai with
    |cons=>cases e|nil=>refine se d λg b f c s k t=>?_;replace c:=(j k)▸c;exact cM o b ⟨i,f,c⟩
   |int n e d=>induction n using ai with
    |cons=>cases e|nil=>refine se d λg b f c s k t=>?_;replace c:=(j k)▸c;exact cM o b ⟨i,f,c⟩
  |p8 E u x e p=>clear x p;induction E using ai with
   |cons=>cases e|nil=>
    refine Ot u λo g b z A B C F=>?_;obtain rfl:g=#[]:=by simpa using C
    exact cM o b ⟨z,A,B⟩
 refine fY this λo b i f c=>⟨(dB o #[] b ⟨i,f,c,(λz9 h=>by simp at h),Pairs.nil,iW⟩),(dB o #[] b ⟨i,f,c,(λz9 h=>by simp at h),Pairs.nil,iW⟩),(dB o #[] b ⟨i,f,c,rfl,(λz9 h=>nomatch h),iW⟩)⟩
theorem gV{K:Type}[DecidableEq K]{knd:KeyKind pw w K}{o:dJ}{b:List (K×al)}(c:h.get? a=aa o)(x:o.IsDictOf knd b):h.DictOf knd a b:=kx.mpr ⟨o,c,x⟩
theorem gx.face{Γ:Cx}{ev:Vs}{cs:Cs}{s:ax}{k:Key}{v:V}{x:al}(I:SI Γ q ev cs s)(D:gx Γ.w s.heap q l a)(B:keyOf v=aa k)(F:vR Γ.K Γ.w s.heap q v x)(hd:∀p t,l=p::t->∃b,k.is p.1=aa b):Face Γ.w s.heap q l a k x:=by have N:∀o(A:List ao)f,o.IsDictOf (strKind pw Γ.w) (A.zip f)->rS Γ.w o (A.map .str) f:=λo A f d=>.str A rfl d;have M:∀o(A:List Int)f,o.IsDictOf (intKind pw Γ.w) (A.zip f)->rS Γ.w o (A.map .int) f:=λo A f d=>.int A rfl d;induction v using V.casesOn with
 |str y=>(injection B with B;subst B);obtain⟨t,rfl⟩:=F;induction l using ai with
  |nil=>exact .flat ao _ (strKind pw Γ.w) .str .str y DA (λz9=>rfl) rfl (strKind_is _ _ _ _) [] [] rfl rfl D.empty.1 N|cons p l=>refine aQ (hd p l rfl) λb j=>?_;induction D with
   |kind o f K C H=>induction H with
    |str g e d=>exact .flat ao _ (strKind pw Γ.w) .str .str y DA (λz9=>rfl) rfl (strKind_is _ _ _ _) g f e C (gV K d) N|int g e d=>induction g using ai with|nil=>cases e|cons i g=>rw[show p.1=.int i from(bj e).1]at j;exact bn j
   |p8 E hd F e C=>induction E using ai with|nil=>cases e|cons i g=>rw[show p.1=.tup _ from(bj e).1]at j;exact bn j
 |int y=>(injection B with B;subst B);obtain⟨t,rfl⟩:=F;induction l using ai with
  |nil=>exact .flat Int _ (intKind pw Γ.w) .int .int y DB (λz9=>rfl) rfl (intKind_is _ _ _ _) [] [] rfl rfl D.empty.2.1 M|cons p l=>refine aQ (hd p l rfl) λb j=>?_;induction D with
   |kind o f K C H=>induction H with
    |str g e d=>induction g using ai with|nil=>cases e|cons i g=>rw[show p.1=.str i from(bj e).1]at j;exact bn j
    |int g e d=>exact .flat Int _ (intKind pw Γ.w) .int .int y DB (λz9=>rfl) rfl (intKind_is _ _ _ _) g f e C (gV K d) M
   |p8 E hd F e C=>induction E using ai with|nil=>cases e|cons i g=>rw[show p.1=.tup _ from(bj e).1]at j;exact bn j
 |tup m=>(refine aE (aM.mp (show(intsOf m).map Key.tup=aa k from B)) λy O L=>?_;subst L);cases intsOf_eq O;cases F with|mk b E n e m r=>
  have j:IsTupleKey (intKind pw Γ.w) s.heap y b:=by refine dB _ _ n ⟨I.iV m,rfl,rfl,?_⟩;show ItemsAre _ y E;clear m B hd O;induction y generalizing E with
   |nil=>subst r;exact .nil|cons k A Q=>obtain⟨z,R,e,h,t⟩:=r;subst e;(refine aQ h λu L=>?_;subst L);exact .cons (intKind_is _ _ _ _) (Q _ t)
  induction l using ai with
  |nil=>exact .tup [] y b _ rfl e j m D.empty.2.2 (λz9 h=>nomatch h) rfl rfl|cons p l=>refine aQ (hd p l rfl) λc J=>?_;induction D with
   |kind o f K C H=>induction H with
    |str g e d=>induction g using ai with|nil=>cases e|cons i g=>rw[show p.1=.str i from(bj e).1]at J;exact bn J
    |int g e d=>induction g using ai with|nil=>cases e|cons i g=>rw[show p.1=.int i from(bj e).1]at J;exact bn J
   |p8 E hd F P C=>exact .tup E y b _ rfl e j m hd F P C
 |_=>exact bn B
end
theorem atKey_eq{xs:List (List Int×aq×al)}{k:List Int}:(atKey xs k).map (·.2)=valueAt ((xs.map (·.1)).zip (xs.map (·.2.2))) k:=by induction xs with
 |nil=>rfl|cons x xs b=>rw[aK,aK,cj,mZ,<-b];by_cases a:x.1=k<;>simp[atKey,kt,a]
section
variable{Γ:Cx}{q:G}{ev:Vs}{cs:Cs}{s:ax}{l:List (V×V)}{a:aq}{k:Key}{x:al}{A:bc}{r:Option V}
theorem Face.found(F:Face Γ.w s.heap q l a k x)(e:eY k l=aa r)(n:jh Γ A)(w:(a==sysModules)=ae):(∀(Q:al->ax->Prop)(E:al->ax->Prop),(∀tk,Q (.bool r.isSome) {s with toks:=tk})->wpAny (model pw Γ.w) A (compareOp .In x (.ref a)) Q E s)/\∀v,r=aa v->∀(Q:al->ax->Prop)(E:al->ax->Prop),(∀u tk,VR Γ.w q v u->Q u {s with toks:=tk})->wpAny (model pw Γ.w) A (getItem (.ref a) x) Q E s:=by induction F with
 |flat K C knd enc mk I D O j f ks B g i d _=>subst j;have z:=rv D g i e;refine⟨λQ E h=>wpAny_in_of (knd:=knd) f w d.mapOf (by refine(rb z)▸h _),λv ev Q E h=>?_⟩;subst ev;refine aE (tx z) λu c m=>wpAny_getItem_of (knd:=knd) f d.mapOf c (h _ _ m)|tup J y b o j f t N d M g i=>subst j f;have z:=rv (mk:=Key.tup) (enc:=λy=>V.tup (y.map .int)) (ks:=J.map (·.1)) Dz (by refine g.symm▸iF.symm▸rfl) i e;rw[<-atKey_eq]at z;refine⟨λQ E h=>wpAny_in_heap (knd:=tupleKind (intKind pw Γ.w)) (tupleKind_room_in1 n.u1) t w d (by rw[<-Option.isSome_map,<-rb z];exact h _),λv ev Q E h=>?_⟩;clear e;subst ev;refine aE (tx z) λu c m=>?_;(refine aE (aM.mp c) λp H L=>?_;(clear c;subst L));exact wpAny_getItem_heap (knd:=tupleKind (intKind pw Γ.w)) (tupleKind_room_in1 n.u1) t d H (h _ _ m)
theorem ur(xs:List (List Int×aq×al)):(xs.map (·.1)).zip (xs.map (·.2.2))=xs.map λx=>(x.1,x.2.2):=by induction xs with
 |nil=>rfl|cons x xs b=>rw[aK,aK,cj,b];rfl
theorem wl(xs:List (List Int×aq×al))(y:List Int)(b:aq)(u:al):stored ((xs.map (·.1)).zip (xs.map (·.2.2))) y u=((storedH xs y b u).map (·.1)).zip ((storedH xs y b u).map (·.2.2)):=by
 have c:(xs.map λx=>(x.1,x.2.2)).map (λd=>if d.1=y then(d.1,u)else d)=(xs.map (putAt y u)).map λx=>(x.1,x.2.2):=by induction xs with
  |nil=>rfl|cons x xs g=>rw[aK,aK,aK,aK,g];congr 1;by_cases f:x.1=y<;>simp[putAt,f]
 rw[ur,ur];delta storedH stored;have e:((xs.map λx=>(x.1,x.2.2)).any λd=>decide (d.1=y))=(atKey xs y).isSome:=by delta atKey;refine Option.isSome_map.symm▸List.any_map.symm▸List.isSome_find?.symm▸?_;rfl
 refine e.symm▸?_;split;·exact c
 ·refine cN.symm▸?_;rfl
theorem Face.set(F:Face Γ.w s.heap q l a k x){l':List (V×V)}{v:V}{u:al}(X:jh Γ A)(U:VR Γ.w q v u)(e:putK k v l=aa l')(hf:fits l.length=ac){Q:Unit->ax->Prop}{E:al->ax->Prop}(h:∀h' tk,gx Γ.w h' q l' a->ki a s.heap h'->Q () {s with heap:=h',toks:=tk}):wpAny (model pw Γ.w) A (setItem (.ref a) x u) Q E s:=by have Zy:=el hf;induction F with
  |flat K W knd enc mk key he hv N f ks D t H d w=>
    subst N;have g:D.length=ks.length:=by have a:=H.len;have b:=congrArg dZ t;rw[az]at a b;rw[az]at b;exact a.symm▸b.symm▸rfl
    have m:ks.Nodup:=by refine xN d λP z3 z5 z7 z9 R S T z=>?_;rwa[kZ g]at z
    obtain⟨n,c,p,J,L,M⟩:=yo he (hv _) U t H e m;refine wpAny_setItem_pairs (knd:=knd) f d (λh' I O=>?_) (by rw[kq,g,Nat.min_self];have :=congrArg dZ t;rw[az,az]at this;lia);rw[p]at I;refine aE (kx.mp I) λo C Z=>h h' _ (.kind o c C L (by refine J.symm▸w o n c Z)) O|tup j y b o N f Y C d B t H=>
    subst N f;have m:(j.map (·.1)).Nodup:=by refine xN d λP z3 z5 z7 z9 R S T z=>z
    obtain⟨n,c,p,J,L,M⟩:=yo (mk:=Key.tup) (enc:=λy=>V.tup (y.map .int)) (ks:=j.map (·.1)) Dz rfl U (by refine t.symm▸iF.symm▸rfl) H e m;refine wpAny_setItem_heap (knd:=tupleKind (intKind pw Γ.w)) (tupleKind_room_in1 X.u1) Y d (λh' I O=>?_) (by have :=congrArg dZ t;rw[az,az]at this;lia);have st:=wl j y b u;replace p:=st▸p;have i:((storedH j y b u).map (·.2.2)).length=((storedH j y b u).map (·.1)).length:=by rw[az,az]
    have k1:(storedH j y b u).map (·.1)=n:=by have :=congrArg (List.map (·.1)) p;rwa[kZ i,kZ M]at this
    have k2:(storedH j y b u).map (·.2.2)=c:=by have :=congrArg (List.map (·.2)) p;rwa[List.map_snd_zip (Nat.le_of_eq i),List.map_snd_zip (Nat.le_of_eq M)]at this
    refine h h' _ (.p8 (storedH j y b u) I (λx f=>?_) (by refine J.symm▸k1▸iF.symm▸rfl) (by refine k2.symm▸L)) O;unfold storedH at f;split at f;·(refine aE (aG.mp f) λz hz P=>?_;subst P);refine aQ (B z hz) λo C=>⟨o,?_⟩;unfold putAt;split<;>exact C
    · rcases ee.mp f with f|f;·exact B x f
      ·cases aF.mp f;exact⟨o,C⟩
end
theorem qq{F:bt}{a:aq}(h:∃o,F.lookup sysModules=aa o)(b:F.lookup a=ak):(a==sysModules)=ae:=by refine aQ h λo e=>beq_eq_false_iff_ne.mpr λz=>?_;replace b:=e▸z▸b;exact us b
theorem sOk_eq(x:ao):bO x=_root_.PySem.PyData.strOk x:=by delta bO _root_.PySem.PyData.strOk;refine Array.all_toList.symm▸?_;congr 1;funext c;rw[ky,decide_eq_true_iff];exact Iff.of_eq Nat.ble_eq
theorem m6(x y:ao):(x==y)=ag x y:=by rw[ky,aI,beq_iff_eq]
theorem zV{x s:ao}:dj x (.str s)=ag s x:=rfl
inductive Sn(l:List V):Prop|mk(xs:List PyData)(h1:lV l=aa xs)(h2:eh xs=ac)(h3:∀x,(xs.any λy=>y.eqv (.str x))=l.any (dj x))
theorem BF(l:List V)(h:l.all wP=ac):Sn l:=by induction l with
  |nil=>exact⟨[],rfl,rfl,λz9=>rfl⟩|cons v l g=>rw[cn,af]at h;induction g h.2with|mk b c d e=>
    refine xO (dX v) (λa=>?_) λs a=>?_;·have :=h.1;unfold wP at this;replace this:=a▸this;exact cy this
    · cases asStr_eq a;have f:_root_.PySem.PyData.strOk s=ac:=by rw[<-sOk_eq];exact h.1
      refine⟨.str s::b,?_,?_,λx=>?_⟩;·show(lV l).map (PyData.str s::·)=_;refine c.symm▸rfl
      ·show(_root_.PySem.PyData.strOk s&&eh b)=ac;refine f.symm▸d.symm▸rfl
      ·show((s==x)||_)=(ag s x||_);rw[e,m6]
section
variable{Γ:Cx}{q:G}{ev:Vs}{cs:Cs}{s:ax}{a b:V}{x y:al}{A:bc}{QQ:al->ax->Prop}{EE:al->ax->Prop}{R:Bool->Prop}
abbrev qf(Γ:Cx)(q:G)(s:ax)(u:V)(x:al):Prop:=vR Γ.K Γ.w s.heap q u x
theorem r5(l:aq)(items:Array al)(n:Nat)(b:aq)(c:Array al)(k:Nat)(i:(items.size !=c.size)=ac):PySem.Meets (Builtin.«list.__ne__» ⟨[.ref l,.ref b],[]⟩) (λz9 R s=>s.heap.get? l=aa {cls:=.type "list",dict:=ak,data:=.seq items n,slots:=#[]}/\s.heap.get? b=aa {cls:=.type "list",dict:=ak,data:=.seq c k,slots:=#[]}/\R (.ok (.ret (Value.bool ac))) s):=.of_wp λe w A R s h=>by obtain⟨o,g,d,p,os⟩:=s;refine fi h λj f h=>?_;have m:=AutoSeq1.sub_list_list;wp_walk using wpAny_loadPart' j,wpAny_loadPart' f;exact⟨_,rfl,h⟩
theorem wW{prog:Program}{w:aJ}{E:al->ax->Prop}{l b:aq}{items c:Array al}{n g:Nat}{Q:al->ax->Prop}(f:PySem.IsL s.heap l items n)(e:PySem.IsL s.heap b c g)(d:(items.size !=c.size)=ac)(i:A.units<cLine)(h:Q (.bool ac) s):wpAny (model prog w) A (compareOp .NotEq (.ref l) (.ref b)) Q E s:=PySem.richCompare_meets_room (op:=.NotEq) ⟨_,f,rfl⟩ ⟨_,e,rfl⟩ F.slot_list_ne F.entry_list_ne (F.args_list_ne_2 _ _) (r5 l items n b c g d) ⟨f,e,show Value.bool ac≠Value.notImplemented/\Q (.bool ac) s from⟨(λx=>nomatch x),h⟩⟩ i
def neg(n:Bool)(b:Bool):Bool:=cd n (!b) b
def Ru(n:Bool):CmpOp:=cd n .NotEq .Eq
theorem qE(f:jh Γ A)(I:SI Γ q ev cs s)(n:Bool)(m:qf Γ q s a x)(o:qf Γ q s b y)(h:uB a b R)(k:∀c,R c->QQ (.bool (neg n c)) s):wpAny (model pw Γ.w) A (compareOp (Ru n) x y) QQ EE s:=by refine xW h λd j h=>xW h λe l h=>xG h λc h=>?_;rw[af]at c;refine aQ (iD I m j) λp g=>aQ (iD I o l) λr i=>?_;induction n with
 |true=>exact ne_dataH g i c.1 c.2 f.Wx (k _ h)|false=>exact eq_dataH g i c.1 c.2 f.Wx (k _ h)
theorem wp_eq(g:jh Γ A)(I:SI Γ q ev cs s)(n:Bool)(i:qf Γ q s a x)(o:qf Γ q s b y)(h:SF a b R)(k:∀c,R c->QQ (.bool (neg n c)) s):wpAny (model pw Γ.w) A (compareOp (Ru n) x y) QQ EE s:=by induction a using V.casesOn with
  |str u=>induction b using V.casesOn with
    |str v=>
      refine xG h λc h=>?_;rw[af,sOk_eq,sOk_eq]at c;have F:∀{z:ao},_root_.PySem.PyData.strOk z=ac->dH (.str z)=ac:=λh=>by unfold dH;refine(show(PyData.str _).canLay0=_root_.PySem.PyData.strOk _ from rfl).symm▸h.symm▸?_;rfl
      refine qE (R:=R) g I n i o ?_ k;show gd (dH (.str u)&&dH (.str v)) (R (u==v));(refine(F c.1).symm▸?_;rw[F c.2,m6]);exact h|_=>exact qE g I n i o h k
  |lst l=>
    unfold SF at h;refine xB (P6 b) (λp=>?_) λp=>?_;·dsimp only at h;rw[p]at h;exact qE g I n i o h k
    · dsimp only at h;rw[p]at h;refine xG h λf r=>?_;clear h;clear f;obtain rfl:b=.lst []:=by induction b using V.casesOn with
        |lst m=>induction m using ai with|nil=>rfl|cons=>exact cy p
        |_=>exact cy p
      (refine aE i λa B C=>?_;obtain⟨K,m,t,E⟩:=C;subst B);(refine aE o λb B C=>?_;obtain⟨L,H,d,w⟩:=C;subst B);subst w;induction l using ai with
      |nil=>subst E;induction n with
        |false=>exact P.eq_list (e:=λz9=>ac) t d rfl (λj D=>absurd D (Nat.not_lt_zero _)) g.u0 (k _ r)|true=>exact qE (a:=.lst []) (b:=.lst []) (R:=R) g I ac ⟨a,rfl,[],m,t,rfl⟩ ⟨b,rfl,[],H,d,rfl⟩ r k
      |cons v l=>cases E with|mk z M e D J=>subst e;induction n with
        |false=>exact P.eq_list_lengths t d (by simp) g.u0 (k _ r)|true=>exact wW t d (by simp) g.u0 (k _ r)
  |_=>exact qE g I n i o h k
def QU(n:Bool):CmpOp:=cd n .NotIn .In
theorem vd{M:Model}(h:wpAny M A (compareOp .In x y) (λv f=>∃b,v=.bool b/\QQ (.bool (!b)) f) EE s):wpAny M A (compareOp .NotIn x y) QQ EE s:=λΓ p e=>by have z:=h Γ p e;have g:compareOp .In x y=(contains y x>>=λb=>pure (Value.bool b)):=rfl;have i:compareOp .NotIn x y=(contains y x>>=λb=>pure (Value.bool (!b))):=rfl;rw[g,Sem.wp_bind']at z;rw[i,Sem.wp_bind'];refine Sem.wp_mono M Γ _ (λb p f z=>?_) (λz9 z9 z9 z=>z) _ _ z;dsimp only[Sem.wp_pure']at z⊢;refine aE z λc d q=>?_;(injection d with d;subst d);exact q
theorem QS{n:Bool}(h:∀QQ:al->ax->Prop,(∀c tk,R c->QQ (.bool c) {s with toks:=tk})->wpAny (model pw Γ.w) A (compareOp .In x y) QQ EE s)(k:∀c tk,R c->QQ (.bool (neg n c)) {s with toks:=tk}):wpAny (model pw Γ.w) A (compareOp (QU n) x y) QQ EE s:=by induction n with
 |false=>exact h QQ k|true=>exact vd (h _ λc tk r=>⟨c,rfl,k c tk r⟩)
theorem yH{l:List V}(h:J2 a l R):L4 a l R:=by induction a using V.casesOn with
 |str u=>refine xG h λc h=>?_;rw[af,sOk_eq]at c;obtain⟨d,e,f,g⟩:=BF l c.2;unfold L4;refine e.symm▸?_;show gd (eh d&&_root_.PySem.PyData.strOk u&&decide _) (R (d.any λy=>y.eqv (.str u)));rw[f,c.1,g];exact h|_=>exact h
theorem A7{l:List (V×V)}(h:SE a (.dict l) R):(∃u,a=.str u/\gd (l.all λp=>jS p.1) (R (l.any λp=>dj u p.1)))\/wp (keyOf a) λk=>wp (eY k l) λo=>R o.isSome:=by induction a using V.casesOn with
 |str u=>exact .inl ⟨u,rfl,h⟩|_=>exact .inr h
theorem Az{u:ao}{l:List (V×V)}(c:(l.all λp=>jS p.1)=ac):∃r,eY (.str u) l=aa r/\r.isSome=l.any λp=>dj u p.1:=by induction l with
 |nil=>exact⟨ak,rfl,rfl⟩|cons p l g=>
  rw[cn,af]at c;refine aE (g c.2) λr e f=>xO (dX p.1) (λd=>?_) λt d=>?_;·have :=c.1;unfold jS at this;rw[d]at this;exact cy this
  ·rw[rx (b:=ag t u) (by show(dX p.1).map _=_;refine d.symm▸rfl),fK,asStr_eq d,zV];induction ag t u with
   |true=>exact⟨_,rfl,rfl⟩|false=>exact⟨r,e,f⟩
theorem Ip(m:∃o,Γ.K.lookup sysModules=aa o)(B:jh Γ A)(I:SI Γ q ev cs s)(n:Bool)(i:qf Γ q s a x)(j:qf Γ q s b y)(h:SE a b R)(k:∀c tk,R c->QQ (.bool (neg n c)) {s with toks:=tk}):wpAny (model pw Γ.w) A (compareOp (QU n) x y) QQ EE s:=by refine QS (R:=R) (λQQ k=>?_) k;induction b using V.casesOn with
 |str v=>refine xW h λu e h=>?_;replace i:=(asStr_eq e)▸i;(refine aQ i λt J=>?_;subst J);(refine aQ j λQ J=>?_;subst J);exact PyProof.Rows.in_str (k _ s.toks h)|tup l=>refine xK λO C=>xW (yH h) λd g h=>xW h λz f h=>xG h λc h=>?_;rw[af,af]at c;refine aQ (iD I i g) λK F=>C ?_;refine aQ (iD (d:=.tuple z) I j (by show(lV l).map _=_;refine f.symm▸rfl)) λL H=>?_;exact SeqAt.in_tuple_reads H F c.1.1 c.1.2 (B.OK (of_decide_eq_true c.2)) (k _ s.toks h)|lst l=>refine xK λP E=>xW (yH h) λd g h=>xW h λz f h=>xG h λc h=>?_;rw[af,af]at c;refine aQ (iD I i g) λK F=>E ?_;refine aQ (iD (d:=.list z) I j (by show(lV l).map _=_;refine f.symm▸rfl)) λL H=>?_;exact SeqAt.in_list_reads H F c.1.1 c.1.2 (B.OK (of_decide_eq_true c.2)) (k _ s.toks h)|dict l=>
  have :∃w r,keyOf a=aa w/\eY w l=aa r/\R r.isSome:=by
   rcases A7 h with⟨u,rfl,h⟩|h;·refine xG h λc h=>aE (Az (u:=u) c) λr g f=>cM _ r ⟨rfl,g,by rw[f];exact h⟩
   ·refine xW h λw g h=>xW h λr f h=>cM w r ⟨g,f,h⟩
  refine fY this λw r g f h=>?_;(refine cz j λd N D M=>?_;(clear j;subst N));exact((D.face I g i λp t e=>mI (l:=t) (by rw[<-e];exact f)).found f B (qq m M)).1 _ _ λtk=>k _ tk h|_=>exact h.elim
theorem Io(I:SI Γ q ev cs s)(c:qf Γ q s a x)(i:qf Γ q s b y)(h:Ty a b R):y=.none/\R (x==eI):=by induction b using V.casesOn with
 |none=>refine⟨i,?_⟩;induction a using V.casesOn with
  |none=>subst c;exact h|bool=>subst c;exact h|int=>(refine aQ c λt d=>?_;subst d);exact h|str=>(refine aQ c λt d=>?_;subst d);exact h|tup=>obtain⟨_,_,_,e⟩:=c;subst e;exact h|lst=>(refine aE c λd f g=>?_;subst f);exact h|inst=>(refine aE c λd f g=>?_;subst f);exact h|dict=>(refine aE c λd f g=>?_;(clear c;subst f));exact h|_=>exact h.elim
 |_=>exact h.elim
theorem qg(c:qf Γ q s a x)(d:qf Γ q s b y){P:Int->Int->Prop}(h:uA a b P):∃i j t u,x=.int i t/\y=.int j u/\P i j:=by refine xW h λi e h=>xW h λj g h=>?_;rw[asInt_eq e]at c;rw[asInt_eq g]at d;(refine aQ c λt f=>?_;(clear c;subst f));(refine aQ d λu f=>?_;(clear d;subst f));exact mS i j t u ⟨rfl,rfl,h⟩
abbrev sA:G->Bool->al->Prop:=λz9 b x=>x=.bool b
theorem ot(g:∃o,Γ.K.lookup sysModules=aa o){op:CmpOp}{a b:V}{RR:Bool->Cs->Prop}{X:XP}(l:VR Γ.w q a x)(k:VR Γ.w q b y)(h:E7 op (view cs a) (view cs b) λc=>RR c cs):cE Γ q ev cs sA (compareOp op x y) RR X:=.by λs I A m QQ EE K=>by have d:=sy I l;have f:=sy I k;have e:∀c n,RR c cs->QQ (.bool c) {s with toks:=n}:=λc n r=>K c _ cs q _ r rfl I.toks (.refl _);induction op with
 |Eq=>exact wp_eq (R:=λc=>RR c cs) m I ae d f h λc r=>e c s.toks r|NotEq=>exact wp_eq (R:=λc=>RR (!c) cs) m I ac d f h λc r=>e (!c) s.toks r|Lt=>(refine pt (qg d f h) λi j t u d f h=>?_;(clear l k;subst d f));exact PyProof.Rows.lt_int (e _ s.toks h)|LtE=>(refine pt (qg d f h) λi j t u d f h=>?_;(clear l k;subst d f));exact PyProof.Rows.le_int (e _ s.toks h)|Gt=>(refine pt (qg d f h) λi j t u d f h=>?_;(clear l k;subst d f));exact PyProof.Rows.gt_int (e _ s.toks h)|GtE=>(refine pt (qg d f h) λi j t u d f h=>?_;(clear l k;subst d f));exact PyProof.Rows.ge_int (e _ s.toks h)|Is=>(refine bB (Io (R:=λc=>RR c cs) I d f h) λd h=>?_;(clear k;subst d));exact is_none (e _ s.toks h)|IsNot=>(refine bB (Io (R:=λc=>RR (!c) cs) I d f h) λd h=>?_;(clear k;subst d));exact isNot_none (e _ s.toks h)|In=>exact Ip (R:=λc=>RR c cs) g m I ae d f h e|NotIn=>exact Ip (R:=λc=>RR (!c) cs) g m I ac d f h λc n r=>e (!c) n r
theorem bG.places{d β:Type}{R:d->β->Prop}{l:List d}{xs:List β}(h:bG R l xs)(is:List Nat):bG R (is.filterMap (l[·]?)) (is.filterMap (xs[·]?)):=by induction is with
 |nil=>rfl|cons i is c=>refine fk.symm▸fk.symm▸?_;induction e:l[i]?with
  |none=>
   have :xs[i]?=ak:=by rw[List.getElem?_eq_none_iff]at e⊢;refine h.len.symm▸e
   refine this.symm▸c|some v=>refine aE (h.get e) λx g f=>g.symm▸bl.mk x _ rfl f c
theorem iC{d g:aY}{o i:al}(h:ItemOn (model pw Γ.w) A EE o i QQ s):wpAny (model pw Γ.w) A (subscriptTail d g o i) QQ EE s:=by
 refine fY h λT id j k l=>?_;have :∃f,subscripted g ae o i=operate f (getItem o i):=by induction g using be with
  |Slice a b c p=>induction c<;>exact⟨_,rfl⟩|_=>exact⟨_,rfl⟩
 refine aQ this λf e=>tail_any k j l e
theorem pick_eq{l:List V}{xs:List al}(h:xs.length=l.length)(lo c st:Option Int):(slicePick xs.toArray lo c st).toList=(sliceRange (sliceBounds lo c st l.length).1 (sliceBounds lo c st l.length).2.1 (sliceBounds lo c st l.length).2.2).filterMap (xs[·]?):=by simp[slicePick,h]
theorem oK{l:List V}{k:Int}{v:V}(h:itemAt l k=aa v):l.length<=1000000/\∃j,seqIndex? k l.length=aa j/\l[j]?=aa v:=by unfold itemAt at h;induction c:fits l.length with
 |false=>replace h:=c▸h;exact bn h|true=>replace h:=c▸h;have h:(match seqIndex? k l.length with|aa j=>l[j]?|ak=>ak)=aa v:=h;induction d:seqIndex? k l.length with
  |none=>replace h:=d▸h;exact bn h|some j=>replace h:=d▸h;exact⟨dc c,j,rfl,h⟩
theorem mD{k:Int}{n j:Nat}(h:seqIndex? k n=aa j):(k<0/\-(n:Int)<=k/\(j:Int)=n+k)\/(0<=k/\k<n/\(j:Int)=k):=by
  unfold seqIndex? at h;dsimp only at h;by_cases d:k<0
  · rw[if_pos d]at h;split at h;·rename_i c;(injection h with h;subst h);rw[af]at c;have f:=of_decide_eq_true c.1;have e:=of_decide_eq_true c.2;exact .inl ⟨d,by lia,by lia⟩
    ·exact bn h
  · rw[if_neg d]at h;split at h;·rename_i c;(injection h with h;subst h);rw[af]at c;have e:=of_decide_eq_true c.2;exact .inr ⟨by exact ku.mp ‹_›,e,by lia⟩
    ·exact bn h
theorem wN{Q:V->Prop}:∀{l:List V}{k:Int},pk Q l k->∃(j:Nat)(v:V),k=(j:Int)/\l[j]?=aa v/\Q v
 |[],_,h=>h.elim|v::l,k,h=>rE (show br (decide (k=0)) (Q v) (pk Q l (k-1))from h) (λe h=>(cM 0 v ⟨of_decide_eq_true e,rfl,h⟩)) λz9 h=>by refine fY (wN h) λj u e c d=>cM (j+1) u ⟨by lia,c,d⟩
theorem yr{Q:V->Prop}{v:V}(q:Q v):∀{l:List V}{j:Nat},l[j]?=aa v->pk Q l (j:Int)
 |[],_,h=>by exact bn h|u::l,0,h=>by injection h with h;subst h;exact q|u::l,j+1,h=>by show br (decide (((j+1:Nat):Int)=0)) (Q u) (pk Q l (((j+1:Nat):Int)-1));rw[decide_eq_false (by lia),show((j+1:Nat):Int)-1=(j:Int)from by lia];exact yr q h
theorem Df{l:List V}{k:Int}{Q:V->Prop}(h:ro l k Q):∃v,itemAt l k=aa v/\Q v:=by
 refine xG h λi h=>?_;have d:∀(j:Nat)(v:V),l[j]?=aa v->Q v->(if k<0then k+(l.length:Int)else k)=(j:Int)->∃v,itemAt l k=aa v/\Q v:=λj v c f e=>by
  have m:j<l.length:=(aP.mp c).1;refine⟨v,?_,f⟩;unfold itemAt;refine i.symm▸?_;have :seqIndex? k l.length=aa j:=by unfold seqIndex?;dsimp only;refine e.symm▸(decide_eq_true (show(0:Int)<=(j:Int)by lia)).symm▸(decide_eq_true (show(j:Int)<(l.length:Int)by exact pn.mpr ‹_›)).symm▸?_;simp
  refine this.symm▸c
 refine rE h (λe h=>?_) λe h=>?_;·refine fY (wN h) λj v g c f=>d j v c f (by refine(if_pos (of_decide_eq_true e)).symm▸g)
 ·refine fY (wN h) λj v g c f=>d j v c f (by refine(if_neg (of_decide_eq_false e)).symm▸g)
theorem k5{l:List V}{k:Int}{v:V}{Q:V->Prop}(h:itemAt l k=aa v)(q:Q v):ro l k Q:=by
 refine bB (oK h) λg m=>aE m λj i e=>?_;unfold ro;refine(show fits l.length=ac from aV g).symm▸?_;rcases mD i with⟨c,f,d⟩|⟨c,f,d⟩;·refine(decide_eq_true c).symm▸(show k+(l.length:Int)=(j:Int)from by lia).symm▸yr q e
 ·refine(decide_eq_false (show¬k<0 by exact ku.mpr c)).symm▸d▸yr q e
theorem Fo(N:∃o,Γ.K.lookup sysModules=aa o){o i:V}{C sl:aY}{Q:V->Cs->Prop}{X:XP}(M:VR Γ.w q o x)(hi:VR Γ.w q i y)(h:Iv (view cs o) (view cs i) λv=>Q v cs):cE Γ q ev cs (eg Γ.w) (subscriptTail C sl x y) Q X:=.by λs I A hA QQ EE K=>by have g:=sy I M;have w:=sy I hi;have f:∀v u S,Q v cs->VR Γ.w q v u->QQ u {s with toks:=S}:=λv u S r O=>K v u cs q _ r O I.toks (.refl _);generalize view cs o=a at h g;generalize view cs i=b at h w;induction a using V.casesOn with
  |lst l=>
    obtain⟨k,e,h⟩:=AX h;replace w:=(asInt_eq e)▸w;obtain⟨t,rfl⟩:=w;obtain⟨v,e,h⟩:=Df h;obtain⟨hf,j,P,O⟩:=oK e;(refine aE g λa g w=>?_;obtain⟨T,n,Y,L⟩:=w;(clear M;subst g));refine aE (L.all.get O) λu H E=>?_;have B:=L.len;have f:=f v u s.toks h (.iN E);refine iC (cM "list" _ ⟨slot_list_getitem.lookup,(bV Y).typeIs,?_⟩);rcases mD P with⟨J,b1,b2⟩|⟨J,b1,b2⟩
    · have U:(k+(T.length:Int)).toNat=j:=by lia
      exact wpAny_getItem_list_neg (bV Y) J (by refine aT.symm▸?_;lia) (by lia) (by refine aT.symm▸U.symm▸?_;simpa using H) f
    · have U:k.toNat=j:=by lia
      exact wpAny_getItem_list (bV Y) J (by lia) (by refine U.symm▸?_;simpa using H) f|tup l=>obtain⟨k,e,h⟩:=AX h;replace w:=(asInt_eq e)▸w;obtain⟨t,rfl⟩:=w;obtain⟨v,e,h⟩:=Df h;obtain⟨hf,j,P,O⟩:=oK e;obtain⟨a,T,n,e,m,L⟩:=g;clear M;subst e;refine aE (L.all.get O) λu H E=>?_;have B:=L.len;have ht:IsTup s.heap a T.toArray:=⟨_,I.iV m,rfl,n,rfl⟩;have hb:=mD P;exact iC (cM "tuple" _ ⟨slot_tuple_getitem.lookup,ht.typeIs,getItem_tuple ht (by lia) (by lia) (by rw[aT,B];exact P) (by simpa using H) (f v u s.toks h (.iN E))⟩)|str z=>refine xW h λk e h=>?_;rw[asInt_eq e]at w;(refine aQ w λt g=>?_;(clear hi;subst g));(refine aQ g λu g=>?_;(clear M;subst g));refine xG h λc h=>?_;rw[af,af]at c;exact iC (cM "str" _ ⟨F.slot_str_getitem.lookup,typeIs_str _ _ _,SB.getItem c.1.2 c.2 (f _ _ _ h ⟨_,rfl⟩)⟩)|dict l=>
    refine xW h λk J h=>xW h λr E h=>?_;(refine xW h λv g h=>?_;subst g);(refine cz g λd g D hK=>?_;(clear M;subst g));have :s.TypeIs (.ref d) "dict":=by induction D with
      |kind o vals h1 h2 h3=>induction h3 with
        |str ss e z=>refine c8 z λes Z W z6=>⟨o,h1,W.1⟩|int ss e z=>refine c8 z λes Z W z6=>⟨o,h1,W.1⟩
      |p8 T z=>refine kB z λo' es Z q1 q2 V9=>⟨o',q1,q2.1⟩
    exact iC (cM "dict" _ ⟨slot_dict_getitem.lookup,this,((D.face I J w λp t e=>mI (l:=t) (by rw[<-e];exact E)).found E hA (qq N hK)).2 v rfl _ _ λu S H=>f v u S h H⟩)|_=>exact h.elim
abbrev wt(l u k:al):dJ:={cls:=.type "slice",data:=.fields #[l,u,k]}
theorem Bp{o:V}{S T P:al}{a:aq}{lo p st:Option Int}{r Y:aY}{Q:V->Cs->Prop}{X:XP}(C:VR Γ.w q o x)(N:IsPart S lo)(D:IsPart T p)(pk:IsPart P st)(L:q.g a=aa (.fz (wt S T P)))(h:v9 (view cs o) lo p st cs Q):cE Γ q ev cs (eg Γ.w) (subscriptTail r Y x (.ref a)) Q X:=.by λs I A U QQ EE K=>by have w:=sy I C;have d:=I.iV L;generalize view cs o=u at h w;induction u using V.casesOn with
 |str z=>
  refine xG h λf h=>xG h λc h=>?_;(refine aQ w λt w=>?_;(clear C;subst w));clear L U;obtain rfl:st=ak:=by induction st with|none=>rfl|some _=>exact cy c
  cases pk;have g:∀E k,QQ (.str (a6 z lo p) E) {s with toks:=k}:=λE k=>K _ _ cs q _ h ⟨E,rfl⟩ I.toks (.refl _);have m:(a6 z lo p).length<=sizeLine:=bC (Txt.slice_le z _ _) (el f);refine iC (cM "str" _ ⟨F.slot_str_getitem.lookup,typeIs_str _ _ _,?_⟩);induction N with
  |none=>induction D with
   |none=>exact gy (l:=ak) (u:=ak) (st:=ak) ⟨_,d,rfl,rfl⟩ rfl (mu ⟨m,g⟩)|int j H=>exact gy (l:=ak) (u:=aa (j,H)) (st:=ak) ⟨_,d,rfl,rfl⟩ rfl (mu ⟨m,g⟩)
  |int i O=>induction D with
   |none=>exact gy (l:=aa (i,O)) (u:=ak) (st:=ak) ⟨_,d,rfl,rfl⟩ rfl (mu ⟨m,g⟩)|int j H=>exact gy (l:=aa (i,O)) (u:=aa (j,H)) (st:=ak) ⟨_,d,rfl,rfl⟩ rfl (mu ⟨m,g⟩)
 |lst l=>refine xG h λf h=>xG h λc h=>?_;(refine aE w λb w Z=>?_;obtain⟨xs,n,M,B⟩:=Z;(clear C;subst w));refine iC (cM "list" _ ⟨slot_list_getitem.lookup,(bV M).typeIs,?_⟩);refine wpAny_getItem_list_slice (bV M) ⟨_,d,rfl,rfl⟩ N D pk (of_decide_eq_true c) ?_ (by refine aT.symm▸B.len.symm▸el f);have J:=I.grow (h':=s.heap.push {cls:=.type "list",data:=.seq (slicePick xs.toArray lo p st)}) (tk:=s.toks) λz9 z9 e=>ay _ e;refine J.jQ (r:=ae) (l:=ib l lo p st) (xs:=(slicePick xs.toArray lo p st).toList) (n:=0) (I.fresh (c9 _)) (by rw[aO _ rfl]) (eA.of (by rw[pick_eq B.len];exact B.all.places _)) λW l J v=>K _ _ _ W _ h v J l|_=>exact h.elim
end
section
variable{Γ:Cx}{q:G}{ev:Vs}{cs:Cs}{s:ax}{Q:V->Cs->Prop}{X:XP}
theorem zG{w:aJ}{g:Gh}{l:List V}:∀{a:List Bool}{xs:List al},eA w g l xs->boolsOf l=aa a->LSm.BoolsAre xs a:=by induction l with
 |nil=>intro a xs h e;subst h;(injection e with e;subst e);exact .nil|cons v l f=>intro a xs h e;cases h with|mk y j c h t=>subst c;induction v using V.casesOn with
  |bool b=>(refine aE (aM.mp (show(boolsOf l).map (b::·)=aa a from e)) λr d i=>?_;subst i);subst h;exact LSm.BoolsAre.cons b (f t d)|_=>exact bn e
theorem pI{h:bz}{D L:aq}(b:D≠L)(a:∀p∈allOf h L,p.1<D):h.get? D=ak:=by induction e:h.get? D with
 |none=>rfl|some o=>exact absurd (a (D,o) (ly.mpr ⟨b,e⟩)) (mU _)
theorem qT{i:Int}(h:gF i=ac):i.natAbs.log2<1920:=by
 have h:=of_decide_eq_true h;by_cases a:i.natAbs=0;·refine a.symm▸?_;decide
 ·have :=(Nat.log2_lt a).mpr h;exact nT ‹_› rfl
theorem gx.len{w:aJ}{h:bz}{l:List (V×V)}{a:aq}{Z:Prop}(D:gx w h q l a)(i:(l.all λp=>gG p.1)=ac)(k:∀(K:Type)(_:DecidableEq K)(knd:KeyKind pw w K)(b:List (K×al)),h.DictOf knd a b->b.length=l.length->Z):Z:=by refine D.simple i λo g f m n=>?_;have j:=m.len;rw[az]at j;induction n with
 |str r e d=>have c:=congrArg dZ e;rw[az,az]at c;exact k _ _ _ _ (gV f d) (by rw[kq];lia)|int r e d=>have c:=congrArg dZ e;rw[az,az]at c;exact k _ _ _ _ (gV f d) (by rw[kq];lia)
theorem gH{b:List V}{xs:List al}{v:V}(a:iR Γ.w q b xs)(e:one? b=aa v):∃y,xs=[y]/\VR Γ.w q v y:=by replace a:=(one_eq e)▸a;exact a.one
theorem Kp(g:∃o,Γ.K.lookup sysModules=aa o){x:List V}{xs:List al}(p:iR Γ.w q x xs)(h:SG Γ.lf .len x cs Q):cE Γ q ev cs (eg Γ.w) (call (.builtin "len") xs) Q X:=.by λs I A N B L K=>by refine xW h λv e h=>?_;(refine aE (gH p e) λy c j=>?_;(clear p;subst c));have z:=sy I j;have b:∀n w u,Q (.int n) cs->B (.int n u) {s with toks:=w}:=λn w u r=>K _ _ cs q _ r ⟨u,rfl⟩ I.toks (.refl _);generalize view cs v=u at h z;induction u using V.casesOn with
 |lst l=>refine xG h λf h=>?_;(refine aE z λa c J=>?_;obtain⟨xs,n,E,k⟩:=J;(clear j;subst c));have f:=dc f;have e:=k.len;refine call_len_list (bV E) (by refine aT.symm▸?_;lia) ?_;refine aT.symm▸e.symm▸b _ _ _ h|tup l=>refine xG h λf h=>?_;obtain⟨a,xs,n,e,m,k⟩:=z;clear j;subst e;have f:=dc f;have e:=k.len;refine len_tuple ⟨_,I.iV m,rfl,n,rfl⟩ (by refine aT.symm▸?_;lia) ?_;refine aT.symm▸e.symm▸b _ _ _ h|str i=>refine xG h λf h=>?_;(refine aQ z λt c=>?_;(clear j;subst c));have f:=dc f;exact PyProof.Rows.len_str (by lia) (b _ _ _ h)|dict l=>refine xG h λf h=>?_;rw[af]at f;have M:=dc f.2;(refine cz z λa c D C=>?_;(clear j z;subst c));refine D.len f.1 λz9 z9 F H d e=>call_len_dict (qq g C) d (by lia) ?_;refine e.symm▸b _ _ _ h|_=>exact h.elim
theorem OS(M:∃o,Γ.K.lookup sysModules=aa o)(R:Γ.lf=ac\/Γ.hd=ak){b:BI}{Y:List V}{xs:List al}(w:iR Γ.w q Y xs)(h:SG Γ.lf b Y cs Q):cE Γ q ev cs (eg Γ.w) (call (VI b) xs) Q X:=by induction b with
 |len=>exact Kp M w h|abs=>refine xW h λv e h=>?_;(refine aE (gH w e) λy d g=>?_;subst d);refine xW h λi e h=>?_;replace g:=(asInt_eq e)▸g;(refine aQ g λt d=>?_;subst d);exact .val h λA s B x z9 z9 K=>PyProof.Rows.call_abs_int λu tk=>K _ _ ⟨_,rfl⟩|any=>
  refine xG h λT h=>xW h λv e h=>?_;(refine aE (gH w e) λy d g=>?_;subst d);refine xW h λl e h=>xW h λbs Z h=>.by λs I A P B x K=>?_;have z:=sy I g;replace z:=(asLst_eq e)▸z;(refine aE z λa d O=>?_;obtain⟨xs,n,L,k⟩:=O;subst d);have hh:A.handled=ak:=by refine P.hd.symm▸R.resolve_left λz=>by replace T:=z▸T;exact cy T
  exact I.frame λm F N j=>LSm.any_bools F N hh (bV L) (zG k Z) λh' tk H r=>K _ _ cs q _ h rfl (j h' tk _ H r λz9 h=>h) (.refl _)|list=>refine xW h λv e h=>?_;(refine aE (gH w e) λy d g=>?_;subst d);refine .by λs I A P B x K=>?_;have z:=sy I g;generalize view cs v=u at h z;induction u using V.casesOn with
  |lst l=>refine xG h λf h=>?_;(refine aE z λa d O=>?_;obtain⟨xs,n,L,k⟩:=O;subst d);refine I.frame λm F N j=>list_copyK F N (bV L) (λD c h' H r C=>?_) (by refine aT.symm▸k.len.symm▸el f);exact(j h' s.toks _ H r λp S=>.tail _ S).jQ (r:=ae) (n:=c) (I.fresh (pI (r _ (.head _)).2.1 C)) (r _ (.head _)).1 k λU l J v=>K _ _ _ U _ h v J l|tup l=>refine xG h λf h=>?_;obtain⟨a,xs,n,e,m,k⟩:=z;subst e;refine I.frame λz9 F N j=>list_copyKT F N ⟨_,I.iV m,rfl,n,rfl⟩ (λD c h' H r C=>?_) (by refine aT.symm▸k.len.symm▸el f);exact(j h' s.toks _ H r λp S=>.tail _ S).jQ (r:=ae) (n:=c) (I.fresh (pI (r _ (.head _)).2.1 C)) (r _ (.head _)).1 k λU l J v=>K _ _ _ U _ h v J l|_=>exact h.elim
 |tuple=>refine xW h λv e h=>?_;(refine aE (gH w e) λy d g=>?_;subst d);refine xW h λl e h=>xG h λf h=>.by λs I A P B x K=>?_;have z:=sy I g;replace z:=(asLst_eq e)▸z;(refine aE z λa d O=>?_;obtain⟨xs,n,L,k⟩:=O;(clear z;subst d));refine call_tuple_list (bV L) (λh' W=>?_) (by refine aT.symm▸k.len.symm▸el f);have J:=I.grow (h':=h'.push (qH xs 0)) (tk:=s.toks) λb o e=>ay _ (W b o e);have E:Off Γ.K q.g h'.objs.size:=(I.grow (h':=h') (tk:=s.toks) W).fresh (c9 _);exact K _ _ cs _ _ h (rM.mk h'.objs.size xs 0 rfl bv (eA.mono (kT E).f _ _ k)) (J.Ac (t:=.fz (qH xs 0)) E (aO _ rfl)) (kT E)|str=>refine xW h λv e h=>?_;(refine aE (gH w e) λy d g=>?_;subst d);induction v using V.casesOn with
  |int i=>refine xG h λf h=>?_;(refine aQ g λt d=>?_;subst d);exact .val h λA s B x z9 z9 K=>PySem.P.str_of_int (qT f) (K _ _ ⟨_,rfl⟩)|str i=>(refine aQ g λt d=>?_;subst d);exact .val h λA s B x z9 z9 K=>PySem.P.str_of_str (K _ s.toks ⟨_,rfl⟩)|_=>exact h.elim
 |int=>refine xW h λv e h=>?_;(refine aE (gH w e) λy d g=>?_;subst d);induction v using V.casesOn with
  |int i=>(refine aQ g λt d=>?_;subst d);exact .val h λA s B x z9 z9 K=>call_int_int (K _ s.toks ⟨_,rfl⟩)|str i=>refine xG h λf h=>xW h λn hn h=>?_;(refine aQ g λt d=>?_;subst d);exact .val h λA s B x z9 z9 K=>KIN.call_text hn (aj f) (K _ _ ⟨_,rfl⟩)|_=>exact h.elim
 |range=>refine xW h λv e h=>?_;(refine aE (gH w e) λy d g=>?_;subst d);refine xW h λn e h=>?_;replace g:=(asInt_eq e)▸g;(refine aQ g λt d=>?_;(clear w g;subst d));refine .by λs I A P B x K=>call_range_1 ?_;have J:=I.grow (h':=s.heap.push (Pp 0 n s.toks t (s.toks+1))) (tk:=s.toks+1+1) λb o e=>ay _ e;have E:=I.fresh (c9 s.heap);exact K _ _ cs _ _ h (Ib.mk s.heap.objs.size s.toks t (s.toks+1) rfl bv) (J.Ac (t:=.fz _) E (aO _ rfl)) (kT E)|zip=>exact h.elim
theorem uR{c:Nat}{l p:List Nat}(h:c∉p):jb c (p++c::l)=p::jb c l:=by induction p with
 |nil=>show(match a7 c c with|ac=>_|ae=>_)=_;rw[pi]|cons a p d=>
  rw[aD,not_or]at h;have b:a7 a c=ae:=by induction e:a7 a c with
   |false=>rfl|true=>exact absurd (a9 e).symm h.1
  show(match a7 a c with|ac=>_|ae=>match jb c (p++c::l)with|p::f=>_|[]=>_)=_;exact b.symm▸(d h.2).symm▸rfl
theorem uQ{c:Nat}{p:List Nat}(h:c∉p):jb c p=[p]:=by induction p with
 |nil=>rfl|cons a p d=>
  rw[aD,not_or]at h;have b:a7 a c=ae:=by induction e:a7 a c with
   |false=>rfl|true=>exact absurd (a9 e).symm h.1
  show(match a7 a c with|ac=>_|ae=>match jb c p with|p::f=>_|[]=>_)=_;exact b.symm▸(d h.2).symm▸rfl
theorem uP{c:Nat}{ps:List ao}(h:ps≠[])(a:∀p∈ps,c∉p.cps.toList):jb c (Str.join ⟨#[c]⟩ ps).cps.toList=ps.map (·.cps.toList):=by induction ps with
 |nil=>exact absurd rfl h|cons p ps d=>clear h;induction ps using ai with
  |nil=>exact uQ (a p (.head _))|cons q r=>
   have e:(Str.join ⟨#[c]⟩ (p::q::r)).cps.toList=p.cps.toList++c::(Str.join ⟨#[c]⟩ (q::r)).cps.toList:=by show(p.cps++#[c]++(Str.join ⟨#[c]⟩ (q::r)).cps).toList=_;simp
   rw[e,uR (a p (.head _)),d (by simp) λx b=>a x (.tail _ b)];rfl
theorem xn(c:Nat)(l:List Nat):(0:Int)<=cnt c l:=by induction l with
 |nil=>dsimp only[cnt_nil];decide|cons a l b=>rw[cnt_cons];split<;>lia
theorem wn(x:ao)(c:Nat):(Txt.split x ⟨#[c]⟩).map V.str=(jb c x.cps.toList).map FF:=by
 have a:Txt.split x ⟨#[c]⟩≠[]:=λe=>by have :=split_len x c;replace this:=e▸this;have b:=xn c x.cps.toList;dsimp only[kr]at this;lia
 have :=uP a (StrLaws.split_free x c);rw[StrLaws.join_split]at this;refine this.symm▸iF.symm▸?_;rfl
theorem uN{w:aJ}{g:Gh}(l:List (ao×Tok)):∀{a:List ao},l.map (·.1)=a->eA w g (a.map .str) (strValues l):=by induction l with
 |nil=>intro a e;subst e;exact rfl|cons p l b=>intro a e;subst e;exact bl.mk (.str p.1 p.2) (strValues l) rfl ⟨_,rfl⟩ (b rfl)
noncomputable def Pg:SM->String
 |.split=>"str.split"|.lower=>"str.lower"|.lstrip=>"str.lstrip"
theorem Fh{x:ao}{t:Tok}{m:SM}{r:List V}{xs:List al}(j:iR Γ.w q r xs)(h:Ir x m r cs Q):cE Γ q ev cs (eg Γ.w) (call (.builtin (Pg m)) (.str x t::xs)) Q X:=by induction m with
 |split=>induction r using ai with
  |nil=>subst j;refine xG h λf h=>?_;have f:=dc f;refine .by λs I A T C w K=>I.frame λm F N b=>splitN0 F N (λl D k E B i=>?_) (by unfold sizeLine;exact nR ‹_› rfl);exact(b D k _ B i λp H=>.tail _ H).jQ (r:=ae) (n:=0) (I.fresh (c9 _)) (i _ (.head _)).1 (uN l E) λL l J v=>K _ _ _ L _ h v J l|cons a l=>
   refine xW h λv e h=>?_;(refine aE (gH j e) λy g d=>?_;subst g);refine xW h λo e R=>xW R λc O S=>xG S λf M=>?_;have f:=dc f;replace d:=(asStr_eq e)▸d;(refine aQ d λu g=>?_;subst g);have P:o=⟨#[c]⟩:=by obtain⟨z⟩:=o;exact congrArg Str.mk (Array.toList_inj.mp (one_eq O))
   refine P.symm▸?_;rw[<-wn]at M;refine .by λs I A T C w K=>I.frame λm F N b=>splitN1 F N rfl (λl D k E B i=>?_) (by unfold sizeLine;exact nR ‹_› rfl);exact(b D k _ B i λp H=>.tail _ H).jQ (r:=ae) (n:=0) (I.fresh (c9 _)) (i _ (.head _)).1 (uN l E) λL l J v=>K _ _ _ L _ M v J l
 |lower=>refine xG h λn h=>?_;obtain rfl:r=[]:=aX.mp n;subst j;refine xG h λf h=>?_;have f:=dc f;exact .val h λA s C w z9 z9 K=>SCL.lower (nT ‹_› rfl) λz9=>K _ _ ⟨_,rfl⟩|lstrip=>refine xW h λv e h=>?_;(refine aE (gH j e) λy g d=>?_;(clear j;subst g));refine xW h λz e h=>xG h λf h=>?_;have f:=dc f;rw[asStr_eq e]at d;(refine aQ d λu g=>?_;(clear d;subst g));exact .val h λA s C w z9 z9 K=>SC.lstripChars (λU k=>K _ _ ⟨_,rfl⟩) (by unfold sizeLine;exact nT ‹_› rfl)
theorem ya{a b:ao}:(a.cps.toList==b.cps.toList)=ag a b:=by rw[<-m6,ky,beq_iff_eq,beq_iff_eq];exact⟨λh=>by induction a;induction b;exact congrArg Str.mk (Array.toList_inj.mp h),λh=>by exact h.symm▸rfl⟩
noncomputable def k6(v:ao):al->Bool
 |.str x _=>x.cps.toList==v.cps.toList|_=>ae
theorem zh{w:aJ}{g:Gh}{v:ao}{u:Tok}{l:List V}:∀{xs:List al},eA w g l xs->l.all jS=ac->∀y,y∈xs->MeetsSeq.EqGives y (.str v u) (k6 v y):=by induction l with
 |nil=>intro xs e _ y b;subst e;cases b|cons a l i=>
  intro xs e c y b;obtain⟨z,j,e,d,f⟩:=e;subst e;rw[cn,af]at c;obtain⟨x,h⟩:=bu.mp c.1;rw[asStr_eq h]at d;obtain⟨t,rfl⟩:=d;rcases aD.mp b with rfl|b;·exact SeqRoads2.EqGives.str x v t u
  ·exact i f c.2 y b
inductive N0(v:ao)(xs:List al)(i:Nat):Prop|mk(hi:i<xs.length)(h1:k6 v xs[i]=ac)(h2:∀m(hm:m<xs.length),m<i->k6 v xs[m]=ae)
theorem N0.cons{v x:ao}{t:Tok}{xs:List al}{i:Nat}(h:N0 v xs i)(f:ag x v=ae):N0 v (.str x t::xs) (i+1):=by induction h with|mk d b c=>refine⟨Nat.succ_lt_succ d,b,λm e a=>?_⟩;induction m using bN with
 |zero=>exact ya.trans f|succ m=>exact c m (Nat.lt_of_succ_lt_succ e) (Nat.lt_of_succ_lt_succ a)
theorem N0.zero{v x:ao}{t:Tok}{xs:List al}(a:ag x v=ac):N0 v (.str x t::xs) 0:=⟨Nat.zero_lt_succ _,ya.trans a,λm z9 h=>absurd h (Nat.not_lt_zero _)⟩
theorem Do{w:aJ}{g:Gh}{v:ao}{l:List V}:∀{xs:List al}{n j:Nat},eA w g l xs->idxOf v n l=aa j->∃i,j=n+i/\N0 v xs i:=by induction l with
 |nil=>intro xs n j _ q;exact bn q|cons a l k=>intro xs n j e q;cases e with|mk z p e c f=>subst e;dsimp only[idxOf]at q;induction d:dX a with
  |none=>replace q:=d▸q;exact bn q|some x=>
   rw[d]at q;rw[asStr_eq d]at c;(refine aQ c λt m=>?_;(clear c;subst m));dsimp only at q;refine xB (ag x v) (λb=>?_) λb=>?_;·rw[b]at q;refine aE (k f q) λi o h=>⟨i+1,by lia,h.cons b⟩
   ·rw[b]at q;(injection q with q;subst q);exact⟨0,rfl,.zero b⟩
theorem Cq{w:aJ}{g:Gh}{v:ao}{l:List V}:∀{l':List V}{xs:List al},eA w g l xs->m8 v l=aa l'->∃i,N0 v xs i/\eA w g l' (xs.eraseIdx i):=by induction l with
 |nil=>intro l' xs _ q;exact bn q|cons a l j=>intro l' xs e q;cases e with|mk z p e c h=>subst e;dsimp only[m8]at q;induction d:dX a with
  |none=>replace q:=d▸q;exact bn q|some x=>
   replace q:=d▸q;replace c:=(asStr_eq d)▸c;(refine aQ c λt f=>?_;(clear c;subst f));dsimp only at q;refine xB (ag x v) (λb=>?_) λb=>?_;·replace q:=b▸q;(refine aE (aM.mp (show(m8 v l).map _=aa l' from q)) λk o f=>?_;subst f);refine aE (j h o) λi m n=>⟨i+1,m.cons b,bl.mk _ _ rfl (by rw[asStr_eq d];exact⟨t,rfl⟩) n⟩
   ·replace q:=b▸q;(injection q with q;(clear j;subst q));exact⟨0,.zero b,h⟩
theorem lstOf_eq{c:Cell}{p:Bool×List V}(h:CY c=aa p):c=.lst p.1 p.2:=by induction c<;>(first|exact bn h|exact cy h|(injection h with h;subst h));rfl
theorem instOf_eq{c:Cell}{p:aq×Vs}(h:xc c=aa p):c=.inst p.1 p.2:=by induction c<;>(first|exact bn h|exact cy h|(injection h with h;subst h));rfl
theorem dictOfC_eq{c:Cell}{p:List (V×V)}(h:ua c=aa p):c=.dict p:=by induction c<;>(first|exact bn h|exact cy h|(injection h with h;subst h));rfl
theorem SI.s4{i:Nat}{b:Bool}{l':List V}{p:CA}{xs:List al}{n:Nat}{f:Array al->Array al}(I:SI Γ q ev cs s)(k:q.ca[i]?=aa p)(d:q.g p.1=aa (.cell i ae))(j:s.heap.get? p.1=aa (eo xs n))(h:eA Γ.w q.g l' (f xs.toArray).toList):SI Γ q ev (cs.set i (.lst b l')) {s with heap:=s.heap.update p.1 (Obj.mapSeq f)}:=by have a:∃c,(s.heap.update p.1 (Obj.mapSeq f)).get? p.1=aa (eo (f xs.toArray).toList c):=⟨_,dy _ j rfl⟩;refine aQ a λc a=>I.cell (tk:=s.toks) k d (λb o g e=>(Heap.get?_update_ne _ _ _ _ g).trans e) ⟨_,a⟩ ⟨d,_,c,a,h⟩
theorem ri{i:Nat}{x:al}{P:Bool->List V->Prop}{Z:Prop}(I:SI Γ q ev cs s)(o:VR Γ.w q (.ptr i) x)(h:sF cs i P)(k:∀p b l xs n,q.ca[i]?=aa p->x=.ref p.1->q.g p.1=aa (.cell i ae)->s.heap.get? p.1=aa (eo xs n)->eA Γ.w q.g l xs->P b l->Z):Z:=by refine xW h λc f h=>xW h λu e h=>?_;obtain⟨p,a,d⟩:=o;have z:=I.cr i c p f a;rw[lstOf_eq e]at z;(refine bB z λm r=>?_;obtain⟨xs,n,j,g⟩:=r);exact k p u.1 u.2 xs n a d m j g h
noncomputable def Qh:LM->String
 |.append=>"list.append"|.reverse=>"list.reverse"|.remove=>"list.remove"|.index=>"list.index"
theorem Bs{S:V}{x:al}{l:List V}{m:LM}{Y:List V}{xs:List al}(r:VR Γ.w q S x)(hv:view cs S=.lst l)(C:iR Γ.w q Y xs)(h:A5 S l m Y cs Q):cE Γ q ev cs (eg Γ.w) (call (.builtin (Qh m)) (x::xs)) Q X:=.by λs I A hA QQ EE K=>by induction m with
 |append=>
  refine xW h λi e h=>xW h λv E h=>?_;(refine aE (gH C E) λy D o=>?_;subst D);replace r:=(asPtr_eq e)▸r;refine f9 v y cs _ q _ h I o λv' cs' q' h le J t z9=>ri J (r.mono le) h λp b l d n L e M c g h=>?_;subst e;refine xG h λf h=>?_;have w:d.toArray.size<=sizeLine:=by rw[aT,g.len];exact el f
  refine call_meets F.slot_list_append ⟨_,c,rfl⟩ F.entry_list_append (F.args_list_append_2 _ _) (PySem.list_append p.1 d.toArray n y w) ⟨c,?_⟩;exact K _ _ _ q' _ h rfl (J.s4 (f:=λxs=>xs.push y) L M c (by rw[Array.toList_push];exact eA.of (bG.append (l':=[v']) (m':=[y]) (bl.mk y [] rfl t rfl) g.all))) le|reverse=>
  refine xW h λi e h=>xG h λn0 h'=>?_;have e0:Y=[]:=aX.mp n0;replace C:=e0▸C;subst C;replace r:=(asPtr_eq e)▸r;clear h;revert h';intro h;refine ri I r h λp b l d n L e M c g h=>?_;subst e;refine xG h λf h=>?_;have w:d.toArray.size<=sizeLine:=by rw[aT,g.len];exact el f
  have W:∀{l:List V}{d:List al},bG (TR Γ.w q.g) l d->bG (TR Γ.w q.g) l.reverse d.reverse:=by intro l;induction l with
   |nil=>intro d e;subst e;rfl|cons v l ih=>intro d e;obtain⟨y,d,e,h1,h2⟩:=e;subst e;rw[ji,ji];exact bG.append (l':=[v]) (m':=[y]) (bl.mk y [] rfl h1 rfl) (ih h2)
  refine call_meets F.slot_list_reverse ⟨_,c,rfl⟩ F.entry_list_reverse (F.args_list_reverse_1 _) (AutoSeq1.list_reverse_list_0 p.1 d.toArray n w) ⟨c,?_⟩;exact K _ _ _ q _ h rfl (I.s4 (f:=λxs=>xs.reverse) L M c (eA.of (by simpa using W g.all))) (.refl _)|remove=>
  refine xW h λi e h=>xW h λv E h=>?_;(refine aE (gH C E) λy D o=>?_;subst D);refine xW h λz P h=>?_;replace o:=(asStr_eq P)▸o;(refine aQ o λu N=>?_;subst N);replace r:=(asPtr_eq e)▸r;refine ri I r h λp b l d n L e M c g h=>?_;subst e;refine xK λZ4 R=>xG h λf h=>?_;rw[af]at f;refine xW h λl' hr h=>?_;have w:d.toArray.size<=sizeLine:=by rw[aT,g.len];exact el f.1
  refine aE (Cq g hr) λj B q3=>?_;obtain⟨B,T,U⟩:=B;refine R ?_;refine call_meets F.slot_list_remove ⟨_,c,rfl⟩ F.entry_list_remove (F.args_list_remove_2 _ _) (MeetsSeq.list_remove p.1 d.toArray n (.str z u) (k6 z) (λy o=>zh g f.2 y (by simpa using o)) j B T U w) ⟨c,?_⟩;exact K _ _ _ q _ h rfl (I.s4 (f:=λxs=>xs.eraseIdxIfInBounds j) L M c (by simpa[Array.toList_eraseIdxIfInBounds]using q3)) (.refl _)|index=>
  refine xW h λv E h=>?_;(refine aE (gH C E) λy D o=>?_;subst D);refine xW h λz P h=>?_;replace o:=(asStr_eq P)▸o;(refine aQ o λu N=>?_;(clear C;subst N));refine xG h λf h=>?_;rw[af]at f;refine xW h λn hn h=>?_;have O:=sy I r;replace O:=hv▸O;(refine aE O λa D N=>?_;obtain⟨d,k,c,g⟩:=N;(clear r O;subst D));have f1:=dc f.1;refine aE (Do g hn) λj H B=>?_;rw[dk]at H;clear hn;subst H;obtain⟨B,T,U⟩:=B;have Z:=g.len;refine call_meets F.slot_list_index ⟨_,c,rfl⟩ F.entry_list_index (F.args_list_index_2 _ _) (MeetsSeq.list_index a d.toArray k (.str z u) (k6 z) (λy o=>zh g f.2 y (by simpa using o)) n B (by lia) T U) ⟨c,?_⟩;exact K _ _ _ q _ h ⟨_,rfl⟩ I.toks (.refl _)
theorem Kr(m:∃o,Γ.K.lookup sysModules=aa o){x:al}{N:V}{l:List (V×V)}{O:List V}{xs:List al}(L:VR Γ.w q N x)(M:view cs N=.dict l)(g:iR Γ.w q O xs)(h:OC l O cs Q):cE Γ q ev cs (eg Γ.w) (call (.builtin "dict.get") (x::xs)) Q X:=.by λs I A hA QQ EE K=>by refine xW h λp e h=>xG h λi h=>xW h λk c h=>xW h λo J h=>?_;replace g:=(two_eq e)▸g;cases g with|mk y ys v j g=>
 (refine aE g.one λz H Y=>?_;subst H);subst v;have u:=sy I L;replace u:=M▸u;(refine cz u λa H D T=>?_;(clear L u;subst H));have B:qf Γ q s p.1 y:=by cases f:p.1with
  |str=>replace j:=f▸j;exact j|int=>replace j:=f▸j;exact j|_=>replace i:=f▸i;exact cy i
 induction D.face I c B λp t e=>mI (l:=t) (by rw[<-e];exact J)with
 |flat K' P E S mk C U M c g Z n v R d _=>subst c;have w:=rv U v R J;refine call_meetsIn F.slot_dict_get d.typeIs F.entry_dict_get (F.args_dict_get_3 _ _ _) (meets_dict_get_default E a g (qq m T) z) ⟨_,d.mapOf,?_⟩;generalize valueAt (Z.zip n) C=r at w;induction w with
  |none=>exact K _ _ cs q _ h Y I.toks (.refl _)|some W=>exact K _ _ cs q _ h W I.toks (.refl _)
 |tup xs y b o c=>subst c;cases f:p.1with
  |str=>replace c:=f▸c;exact nomatch c|int=>replace c:=f▸c;exact nomatch c|_=>replace i:=f▸i;exact cy i
end
def Su(K:bt)(dv:al)(D:List al):Prop:=(dv=.none/\D=[])\/∃T o n,dv=.ref T/\K.lookup T=aa o/\o.data=.seq D.toArray n
structure Ih(K:bt)(w:aJ)(F:Fn)(o:dJ)(fd:FuncData)(D:List al):Prop where
 data:o.data=.func fd
 scope:fd.scope=F.scope
 co:F.scope.isCoroutine=ae
 gen:F.scope.isGenerator=ae
 kind:F.scope.kind=.function
 body:fd.body=.stmts F.body
 code:codeIn K fd.code fd.qualname=ac
 glob:fd.globals=mainGlobals
 bi:fd.builtins=builtinsNs
 qz:fd.closure=[]
 pos:fd.params.posonlyargs=[]
 args:fd.params.args.map (·.arg)=F.params
 W9:fd.params.kwonlyargs=[]
 va:fd.params.vararg=ak
 Xa:fd.params.kwarg=ak
 nd:F.params.Nodup
 dl:F.pO.length<=F.params.length
 pk:∀p∈F.params,F.scope.names.lookup p=aa .local\/F.scope.names.lookup p=aa .cell
 nn:(F.scope.names.map (·.1)).Nodup
 M2:F.scope.names.lookup ("__debug__":ao)=ak
 df:Su K fd.defaults D
 dt:∀g,eA w g F.pO D
def uk(K:bt)(w:aJ)(C:aq)(f:aq):Prop:=∀(A:bc)(s:ax)(xs:List al)(R:n4->ax->Prop),K.In s.heap->xs.length<=30->(∀(A':bc)x dx h' o,A'.handled=A.handled->A'.frames=A.frames->A'.depth<=A.depth+1->A'.units<=A.units+4->(∀b o,s.heap.get? b=aa o->h'.get? b=aa o)->s.heap.get? x=ak->s.heap.get? dx=ak->x≠dx->h'.get? x=aa o->nP C dx o->h'.get? dx=aa (dictOf [] 0)->codeAny (model pw w) A' (.call (.ref f) ⟨.ref x::xs,[]⟩) (InitBack x R) {s with heap:=h'})->codeAny (model pw w) A (.call (.ref C) ⟨xs,[]⟩) R s
def EK(K:bt)(w:aJ)(C:aq)(name:ao):Prop:=∀(A:bc)(s:ax)(x dx:aq)(ox:dJ)(es:List ba)(n:Nat)(v:al)(Q:Unit->ax->Prop)(E:al->ax->Prop),K.In s.heap->s.heap.get? x=aa ox->nP C dx ox->s.heap.get? dx=aa (dictOf es n)->(getL name es).isSome=ac->es.length<=901->(∀h' tk Hn n',(∀b o,b≠dx->s.heap.get? b=aa o->h'.get? b=aa o)->h'.get? dx=aa (dictOf Hn n')->(∃hh t,Hn=putL name hh (.str name t) v es)->Q () {s with heap:=h',toks:=tk})->wpAny (model pw w) A (setAttr (.ref x) name v) Q E s
def EI(P:PG)(K:bt)(w:aJ):Prop:=∀(C:aq)(g:Gh)(x:al)(A:bc)(s:ax)(Q:al->ax->Prop)(E:al->ax->Prop),cK P C=ac->(∀a o,g a=aa (.fz o)->s.heap.get? a=aa o)->K.In s.heap->TR w g (.exc C) x->(∀v tk,handedIn v=ac->Q v {s with toks:=tk})->wpAny (model pw w) A (getAttr x "what" ac) Q E s
def pe(K:bt)(w:aJ)(C:aq):Prop:=∀(A:bc)(s:ax)(xs:List al)(v u:al)(R:n4->ax->Prop),K.In s.heap->A.depth<990->(xs=[v,u]\/xs=[v]/\u=.none)->(∀h' x dx o t1 t2 h1 h2 n tk,(∀b o,s.heap.get? b=aa o->h'.get? b=aa o)->s.heap.get? x=ak->s.heap.get? dx=ak->x≠dx->h'.get? x=aa o->nP C dx o->h'.get? dx=aa (dictOf [⟨h1,.str "what" t1,v⟩,⟨h2,.str "at" t2,u⟩] n)->R (.ok (.ret (.ref x))) {s with heap:=h',toks:=tk})->codeAny (model pw w) A (.call (.ref C) ⟨xs,[]⟩) R s
structure bo(P:PG)(K:bt)(w:aJ):Prop where
 SZ:∃o es ep,K.lookup mainGlobals=aa o/\o.data=.dict es ep/\StrKeys es
 S0:∃o es ep,K.lookup builtinsNs=aa o/\o.data=.dict es ep/\StrKeys es/\∀x:ao,x≠"__name__"->nsFind es x=bootBuiltins x
 LV:∃o es ep,K.lookup cStatics=aa o/\o.data=.dict es ep/\StrKeys es/\nsFind es "sys.recursionlimit"=ak
 glob:∀(x:ao)(v:V),P.glob x=aa v->(x==("__debug__":ao))=ae/\((∃u,nsIn K mainGlobals x=aa (aa u)/\∀g,TR w g v u)\/(nsIn K mainGlobals x=aa ak/\x≠"__name__"/\∃u,bootBuiltins x=aa u/\∀g,TR w g v u))
 sys:∃o,K.lookup sysModules=aa o
 set:∀(C:aq)(x:ao),P.field C x=ac->EK K w C x
 Je:∀(C:aq)(x:ao)(f:aq),P.meth C x=aa f->cK P C=ae->findIn K (.ref C) "__getattribute__"=aa (aa (.builtin "object.__getattribute__"))/\findIn K (.ref C) "__getattr__"=aa ak/\findIn K (.ref C) x=aa (aa (.ref f))/\typeIn K (.ref f)=aa (.type "function")
 Jf:∀(C:aq)(x:ao)(f:aq),P.meth C x=aa f->specialIn K (.ref C) "__getattribute__"=aa (aa (.builtin "type.__getattribute__"))/\∃mc,readsIn K C mc=ac/\findCls K (.ref C) mc x=aa (.val (.ref f))
 CU:∀(C:aq)(x:ao)(f:aq),P.meth C x=aa f->(P.fn f).isSome=ac
 cls:∀(C:aq)(k:JX),P.cls C=aa k->(match jT k.kind with|ac=>pe K w C|ae=>uk K w C k.init)/\keepIn K (.ref C)=ac/\(d7.contains C=ac↔k.kind=.exc)
 exc:∀(C:aq),cK P C=ac->mroIn K C (.type "BaseException")=aa ac/\typeIn K (.ref C)=aa (.type "type")
 W2:∀(C T:aq),cK P C=ac->cK P T=ac->mroIn K C (.ref T)=aa (P.sub C T)
 tU:∀(f:aq)(F:Fn),P.fn f=aa F->keepIn K (.ref f)=ac
 fn:∀(f:aq)(F:Fn),P.fn f=aa F->∃o fd D,K.lookup f=aa o/\Ih K w F o fd D
 field:∀(C:aq)(x:ao),P.field C x=ac->cK P C=ae->findIn K (.ref C) "__getattribute__"=aa (aa (.builtin "object.__getattribute__"))/\hasDictIn K C=ac/\findIn K (.ref C) x=aa ak
 E4:EI P K w
structure fa(P:PG)(Sm:V->Cell->Prop):Prop where ok:∀x c,Sm x c->shape c=aa (s7 x)/\(match c with
 |.lst r _=>r=ac|.inst C fs=>C=P.cur/\cK P C=ae/\fG C=[]/\(∀f∈fs,pG f.2=ae)/\∀name k,P.meth C name=aa k->iv name fs=ak|_=>False)
structure Kn(P:PG)(Γ:Cx):Prop where
 ok:bo P Γ.K Γ.w
 cx:dh Γ
 N7:fa P Γ.Sm
abbrev Cx.ℓ(Γ:Cx)(ev:Vs):Loc:=⟨ev,Γ.sc,Γ.lf⟩
abbrev mN(r:Wv)(Γ:Cx):Prop:=∀(q:G)(ev:Vs)(e:aY)(cs:Cs)(Q:V->Cs->Prop)(X:XP),r.E (Γ.ℓ ev) e cs Q X->cE Γ q ev cs (eg Γ.w) (eval e Γ.env) Q X
abbrev NQ(r:Wv)(Γ:Cx):Prop:=∀(q:G)(ev:Vs)(e:aY)(cs:Cs)(Q:Bool->Cs->Prop)(X:XP),r.T (Γ.ℓ ev) e cs Q X->cE Γ q ev cs oy (isTrue e Γ.env (eval e Γ.env)) Q X
section
variable{P:PG}{Γ:Cx}{q:G}{ev:Vs}{cs:Cs}{s:ax}{Q:V->Cs->Prop}{X:XP}{r:Wv}
theorem lkS_eq{b:Type}(x:ao)(l:List (ao×b)):l.lookup x=iv x l:=by induction l with
 |nil=>rfl|cons p l a=>rw[aW,m6,a];show _=cd (ag x p.1) (aa p.2) (iv x l);cases ag x p.1<;>rfl
theorem Bu{k:Const}{j:Nat}{p:gA}(h:A9 k λv=>Q v cs):cE Γ q ev cs (eg Γ.w) (eval (.Constant k j p) Γ.env) Q X:=by induction k with
 |none=>exact .val h λA s c a z9 z9 K=>wpAny_Constant_none (K _ s.toks rfl)|bool b=>exact .val h λA s c a z9 z9 K=>wpAny_Constant_bool (K _ s.toks rfl)|int i=>exact .val h λA s c a z9 z9 K=>wpAny_Constant_int (K _ _ ⟨_,rfl⟩)|str x=>exact .val h λA s c a z9 z9 K=>wpAny_Constant_str (K _ _ ⟨_,rfl⟩)|_=>exact h.elim
theorem SI.glob(f:bo P Γ.K Γ.w)(I:SI Γ q ev cs s):∃c,s.heap.Ns mainGlobals c:=by refine kB f.SZ λo b a e d k=>mS _ o b a ⟨I.hs.K _ _ e,d,k,λz9=>rfl⟩
theorem xR(j:bo P Γ.K Γ.w)(a:dh Γ){x:ao}{p:gA}{v:V}{A:bc}{QQ:al->ax->Prop}{EE:al->ax->Prop}(I:SI Γ q ev cs s)(i:iv x Γ.sc.names=aa .globalImplicit)(e:P.glob x=aa v)(K:∀u,(∀g,TR Γ.w g v u)->QQ u s):wpAny (model pw Γ.w) A (eval (.Name x p) Γ.env) QQ EE s:=by
 have b:Γ.env.kindOf x=aa .globalImplicit:=by
  rw[<-lkS_eq]at i;rcases a.k x with z|⟨z,_⟩;·refine z.symm▸i
  ·rw[i]at z;exact nomatch z
 refine aQ (I.glob j) λB c=>?_;(refine bB (j.glob x v e) λl y=>?_;obtain⟨u,f,h⟩|⟨f,w,u,h,m⟩:=y);·exact n5 a.kind b (loadGlobal_global (by refine a.glob.symm▸c) (mg_of I.hs.K c f) (K u h)) l
 ·refine hY j.S0 λo t n e d k z=>n5 a.kind b (loadGlobal_builtin (by refine a.glob.symm▸c) (mg_none_of I.hs.K c f) (by refine a.bi.symm▸dB o t n ⟨I.hs.K _ _ e,d,k,λz9=>rfl⟩) ((z x w).trans h) (K u m)) l
theorem x4(y:bo P Γ.K Γ.w)(b:dh Γ){x:ao}{p:gA}(h:jn P (Γ.ℓ ev) x λv=>Q v cs):cE Γ q ev cs (eg Γ.w) (eval (.Name x p) Γ.env) Q X:=.by λs I A C B z K=>by unfold jn at h;induction d:iv x ev with
 |some v=>
  dsimp only at h;replace h:=d▸h;rw[<-lkS_eq]at d;refine aE I.ns λm t n=>?_;have i:∀{k},Γ.env.kindOf x=aa k->(x==("__debug__":ao))=ae:=λa=>beq_eq_false_iff_ne.mpr λe=>by rw[e,b.M2]at a;exact bn a
  rcases n x v d with⟨a,u,f,g⟩|⟨a,c,o,u,f,g,j,l⟩;·exact iz (dd b.kind a (by refine b.loc.symm▸t) f (K v u cs q s h g I (.refl _))) (i a)
  ·exact iz (wpAny_loadName_cell b.kind a f ⟨o,g,j⟩ (K v u cs q s h l I (.refl _))) (i a)|none=>
  dsimp only at h;replace h:=d▸h;dsimp only at h;refine xO (iv x Γ.sc.names) (λa=>?_) λk a=>?_;·rw[a]at h;exact h.elim
  ·rw[a]at h;induction k with
   |globalImplicit=>refine xW h λv e h=>xR y b I a e λu w=>K v u cs q s h (.iN (w _)) I (.refl _)|_=>exact h.elim
theorem fP{es:List aY}(h:noStar es=ac)(env:Env):starEach es env=es.map λe=>(ae,eval e env):=by induction es with
 |nil=>rfl|cons e es c=>unfold noStar at h;rw[cn,af]at h;induction e using be with
  |Starred a b=>(first|exact bn h.1|exact cy h.1|exact us h.1|exact mX h.1|exact absurd h.1 (by decide)|cases h.1)|_=>show(ae,eval _ env)::starEach es env=_;refine(c h.2).symm▸?_;rfl
theorem gL{es:List aY}(pos:gA)(env:Env):backTo pos (es.map λe=>(ae,eval e env))=es.map λe=>(ae,eval e env):=by induction es with
 |nil=>rfl|cons e es a=>rw[aK];show(ae,_)::backTo pos _=_;rw[a];rfl
theorem m1(i:mN r Γ)(es:List aY):∀{q:G}{cs:Cs}{Q:List V->Cs->Prop},kH r (Γ.ℓ ev) es cs Q X->cE Γ q ev cs (iR Γ.w) (spliced (es.map λe=>(ae,eval e Γ.env))) Q X:=by induction es with
 |nil=>exactλh=>.pure h rfl|cons e es k=>intro q cs Q h;show cE Γ q ev cs (iR Γ.w) (eval e Γ.env>>=λv=>(pure [v]:j5 (List al))>>=λb=>holding b (spliced (es.map λe=>(ae,eval e Γ.env)))>>=λa=>pure (b++a)) _ _;refine(i q ev e cs _ X h).bind λv x d m f j z9=>?_;show cE Γ m ev d (iR Γ.w) (holding [x] (spliced (es.map λe=>(ae,eval e Γ.env)))>>=λa=>pure ([x]++a)) _ _;refine(cE.holding (k f)).bind λt n o p g c l=>.pure g (bl.mk x n rfl (j.mono l) c)
theorem cE.tS{i β:Type}{rel:G->β->i->Prop}{t:j5 i}{g:List V}{xs:List al}{k:List V->Cs->Prop}{QQ:β->Cs->Prop}(w:iR Γ.w q g xs)(h:Mine.Internal.tS g cs k)(K:∀a cs' q',k a cs'->q.le q'->eA Γ.w q'.g a xs->cE Γ q' ev cs' rel t QQ X):cE Γ q ev cs rel t QQ X:=λA s m j n I v p o=>G8 g xs cs k q _ h I w λa cs' q' u l J t z9=>K a cs' q' u l (eA.of t) A s m j n J v (λb x c q s k r d e=>p b x c q s k r d (l.trans e)) λC e c q s k r d f=>o C e c q s k r d (l.trans f)
theorem Fq(k:mN r Γ){es:List aY}{pos:gA}(m:noStar es=ac)(h:kH r (Γ.ℓ ev) es cs (λa cs=>tS a cs λa cs=>gd (fits a.length) (nf (.lst ae a) cs Q)) X):cE Γ q ev cs (eg Γ.w) (eval (.List es pos) Γ.env) Q X:=by rw[arm_eval_List,fP m,gL];refine .dS ((m1 k es h).bind λa d x B g n z9=>.tS n g λt y C i l c=>?_);refine xG i λf j=>.by λs I A z w u K=>dU ?_ (by show d.toArray.size<=sizeLine;refine aT.symm▸c.len.symm▸el f);exact(I.grow (h':=s.heap.push (eo d 0)) (tk:=s.toks) λb o e=>ay _ e).jQ (r:=ae) (n:=0) (I.fresh (c9 _)) (aO _ rfl) c λp l J v=>K _ _ _ p _ j v J l
theorem BB(p:mN r Γ){es:List aY}{k:Nat}{pos:gA}(t:noStar es=ac)(h:kH r (Γ.ℓ ev) es cs (λa cs=>tS a cs λa cs=>gd (fits a.length) (Q (.tup a) cs)) X):cE Γ q ev cs (eg Γ.w) (eval (.Tuple es k pos) Γ.env) Q X:=by rw[arm_eval_Tuple,fP t,gL];refine .dS ((m1 p es h).bind λa d y B j u z9=>.tS u j λv i C m l g=>?_);refine xG m λf n=>.by λs I A z x w K=>dU ?_ (by show d.toArray.size<=sizeLine;refine aT.symm▸g.len.symm▸el f);have c:=I.fresh (c9 s.heap);exact K _ _ i _ _ n (rM.mk s.heap.objs.size d 0 rfl bv (eA.mono (kT c).f _ _ g)) ((I.grow (h':=s.heap.push (qH d 0)) (tk:=s.toks) λb o e=>ay _ e).Ac (t:=.fz _) c (aO _ rfl)) (kT c)
theorem mx{b:Bool}{R:Bool->Cs->Prop}(h:R b cs):cE Γ q ev cs oy (truthy (.bool b)) R X:=.val h λA s c a z9 z9 K=>wpAny_truthy_bool (K _ s.toks rfl)
theorem zP(i:∃o,Γ.K.lookup sysModules=aa o)(w:mN r Γ){pos:gA}(d:List CmpOp):∀{es:List aY}{a:V}{x:al}{q:G}{cs:Cs}{R:Bool->Cs->Prop},VR Γ.w q a x->jN r (Γ.ℓ ev) a d es cs R X->cE Γ q ev cs sA (compareChain pos x d (evalEach es Γ.env)) R X:=by induction d with
 |nil=>exactλz9 h=>h.elim|cons D d H=>intro es a x q cs R B h;induction es using ai with
  |nil=>exact mR h|cons e es=>induction d using ai with
   |nil=>induction es using ai with
    |nil=>show cE Γ q ev cs sA (holding [x] (eval e Γ.env)>>=λg=>standAt pos>>=λz9=>operate [x,g] (compareOp D x g)) R X;refine(cE.holding (w q ev e cs _ X h)).bind λb y k m p n l=>.dS (.operate (ot i (B.mono l) n ?_));exact p|cons v es=>show cE Γ q ev cs sA (holding [x] (eval e Γ.env)>>=λg=>standAt pos>>=λz9=>holding [x,g] (compareOp D x g)>>=λc=>release [x,g] [c]>>=λz9=>holding [c,g] (truthy c)>>=λE=>if E then compareChain pos g [] (evalEach (v::es) Γ.env)else pure c) R X;refine(cE.holding (w q ev e cs _ X h)).bind λb y k m p n l=>.dS ((cE.holding (ot (RR:=λz9 z9=>False) i (B.mono l) n p)).bind λz9 z9 z9 z9 f=>f.elim)
   |cons j d=>
    have step:∀t:List (j5 al),(∀(b:V)(y:al)(m:G)(k:Cs),VR Γ.w m b y->jN r (Γ.ℓ ev) b (j::d) es k R X->cE Γ m ev k sA (compareChain pos y (j::d) t) R X)->cE Γ q ev cs sA (holding [x] (eval e Γ.env)>>=λg=>standAt pos>>=λz9=>holding [x,g] (compareOp D x g)>>=λc=>release [x,g] [c]>>=λz9=>holding [c,g] (truthy c)>>=λE=>if E then compareChain pos g (j::d) t else pure c) R X:=by intro t L;refine(cE.holding (w q ev e cs _ X h)).bind λb y k m p n l=>.dS ((cE.holding (ot (RR:=λq cs=>br q (jN r (Γ.ℓ ev) b (j::d) es cs R X) (R ae cs)) i (B.mono l) n p)).bind λc z I S F C M=>?_);subst C;refine .release ((cE.holding (mx (R:=λu cs=>u=c/\cs=I) ⟨rfl,rfl⟩)).bind λu z J O K C N=>?_);subst C;obtain⟨rfl,rfl⟩:=K;induction u with
     |false=>exact .pure F rfl|true=>exact L b y O J ((n.mono M).mono N) F
    induction es using ai with
    |nil=>exact step [] λb y m k A h=>H A h|cons v es=>exact step (evalEach (v::es) Γ.env) λb y m k A h=>H A h
theorem zO(i:∃o,Γ.K.lookup sysModules=aa o)(B:mN r Γ){pos:gA}(d:List CmpOp):∀{es:List aY}{a:V}{x:al}{q:G}{cs:Cs}{R:Bool->Cs->Prop},VR Γ.w q a x->jN r (Γ.ℓ ev) a d es cs R X->cE Γ q ev cs oy (testChain pos x d (evalEach es Γ.env)) R X:=by induction d with
 |nil=>exactλz9 h=>h.elim|cons E d I=>intro es a x q cs R D h;induction es using ai with
  |nil=>exact mR h|cons e es=>induction d using ai with
   |nil=>induction es using ai with
    |nil=>show cE Γ q ev cs oy (holding [x] (eval e Γ.env)>>=λg=>standAt pos>>=λz9=>operate [x,g] (compareOp E x g)>>=λc=>holding [c] (truthy c)) R X;refine(cE.holding (B q ev e cs _ X h)).bind λb y k m p n l=>.dS ((cE.operate (ot (RR:=R) i (D.mono l) n p)).bind λc z H O v u J=>?_);subst u;exact .holding (mx v)|cons A es=>show cE Γ q ev cs oy (holding [x] (eval e Γ.env)>>=λg=>standAt pos>>=λz9=>holding [x,g] (compareOp E x g)>>=λc=>release [x,g] [c]>>=λz9=>holding [c,g] (truthy c)>>=λF=>if F then testChain pos g [] (evalEach (A::es) Γ.env)else pure ae) R X;refine(cE.holding (B q ev e cs _ X h)).bind λb y k m p n l=>.dS ((cE.holding (ot (RR:=λz9 z9=>False) i (D.mono l) n p)).bind λz9 z9 z9 z9 f=>f.elim)
   |cons j d=>
    have step:∀t:List (j5 al),(∀(b:V)(y:al)(m:G)(k:Cs),VR Γ.w m b y->jN r (Γ.ℓ ev) b (j::d) es k R X->cE Γ m ev k oy (testChain pos y (j::d) t) R X)->cE Γ q ev cs oy (holding [x] (eval e Γ.env)>>=λg=>standAt pos>>=λz9=>holding [x,g] (compareOp E x g)>>=λc=>release [x,g] [c]>>=λz9=>holding [c,g] (truthy c)>>=λF=>if F then testChain pos g (j::d) t else pure ae) R X:=by intro t M;refine(cE.holding (B q ev e cs _ X h)).bind λb y k m p n l=>.dS ((cE.holding (ot (RR:=λq cs=>br q (jN r (Γ.ℓ ev) b (j::d) es cs R X) (R ae cs)) i (D.mono l) n p)).bind λc z H O v u J=>?_);subst u;refine .release ((cE.holding (mx (R:=λw cs=>w=c/\cs=H) ⟨rfl,rfl⟩)).bind λw z K S L u N=>?_);subst u;obtain⟨rfl,rfl⟩:=L;induction w with
     |false=>exact .pure v rfl|true=>exact M b y S K ((n.mono J).mono N) v
    induction es using ai with
    |nil=>exact step [] λb y m k C h=>I C h|cons A es=>exact step (evalEach (A::es) Γ.env) λb y m k C h=>I C h
theorem Bz(f:mN r Γ){op:BoolOp}{pos:gA}(es:List aY):∀{e:aY}{q:G}{cs:Cs}{Q:V->Cs->Prop},oo r (Γ.ℓ ev) op e es cs Q X->cE Γ q ev cs (eg Γ.w) (boolOp pos op (evalEach (e::es) Γ.env)) Q X:=by induction es with
 |nil=>exactλh=>f _ _ _ _ _ _ h|cons c es g=>
  intro e q cs Q h;show cE Γ q ev cs (eg Γ.w) (eval e Γ.env>>=λv=>standAt pos>>=λz9=>holding [v] (truthy v)>>=λt=>match(generalizing:=false)op,t with
   |.And,ae|.Or,ac=>pure v|_,_=>boolOp pos op (evalEach (c::es) Γ.env)) _ _;refine(f q ev e cs _ X h).bind λv x k n i d z9=>.dS ((cE.holding (uF (R:=λb cs=>match(generalizing:=false)op with
   |.And=>br b (oo r (Γ.ℓ ev) op c es cs Q X) (Q v cs)|.Or=>br b (Q v cs) (oo r (Γ.ℓ ev) op c es cs Q X)) d i)).bind λt p m o a j l=>?_);subst j;induction t<;>induction op;·exact .pure a (d.mono l)
  ·exact g a
  ·exact g a
  ·exact .pure a (d.mono l)
theorem By(c:NQ r Γ){op:BoolOp}(es:List aY):∀{q:G}{cs:Cs}{R:Bool->Cs->Prop},sX r (Γ.ℓ ev) op es cs R X->cE Γ q ev cs oy (allTrue op es Γ.env) R X:=by induction es with
 |nil=>intro q cs R h;dsimp only[arm_allTrue_nil];induction op<;>exact .pure h rfl|cons e es b=>
  intro q cs R h;dsimp only[arm_allTrue_cons];refine(c q ev e cs _ X h).bind λt i f g a d z9=>?_;subst d;induction t<;>induction op;·exact .pure a rfl
  ·exact b a
  ·exact b a
  ·exact .pure a rfl
theorem uE(c:mN r Γ){e:aY}{pos:gA}{R:Bool->Cs->Prop}(h:r.E (Γ.ℓ ev) e cs (λv cs=>om (view cs v) λb=>R b cs) X):cE Γ q ev cs oy (eval e Γ.env>>=λv=>standAt pos>>=λz9=>holding [v] (truthy v)) R X:=(c q ev e cs _ X h).bind λv x f g a d z9=>.dS (.holding (uF d a))
theorem Bm(g:∃o,Γ.K.lookup sysModules=aa o)(j:mN r Γ)(f:NQ r Γ):∀(q:G)(ev:Vs)(e:aY)(cs:Cs)(R:Bool->Cs->Prop)(X:XP),A0 r (Γ.ℓ ev) e cs R X->cE Γ q ev cs oy (isTrue e Γ.env (eval e Γ.env)) R X:=λq ev e cs R X h=>by induction e using be with
 |UnaryOp v x p=>induction v with
  |Not=>dsimp only[arm_isTrue_UnaryOp];refine(f q ev x cs _ X h).bind λt B i k d n z9=>?_;subst n;exact .pure d rfl|_=>exact uE j h
 |BoolOp v y p=>exact By f y h|IfExp t a b p=>
  dsimp only[arm_isTrue_IfExp];refine(f q ev t cs _ X h).bind λc z i k d n z9=>?_;subst n;induction c;·exact f k ev b i R X d
  ·exact f k ev a i R X d|Compare l u A p=>refine xG h λm h=>?_;rw[arm_isTrue_Compare,markedEach_of_false _ _ _ (by simpa using m)];exact(j q ev l cs _ X h).bind λa x i k d w z9=>zO g j u w d|_=>exact uE j h
theorem Aw{name f:ao}{t:Tok}{e:ba}{es:List ba}(h:e.key=.str f t):getL name (e::es)=if f=name then aa (aa e.val)else getL name es:=by
  unfold getL;refine kt.symm▸h.symm▸?_;by_cases a:f=name;·subst a;refine(show(Value.str f t).isStr f=ac from beq_self_eq_true f).symm▸?_;simp
  · refine(show(Value.str f t).isStr name=ae from by show(f==name)=ae;simpa using a).symm▸(if_neg a).symm▸?_;have b:e.refKey=ae:=by unfold DictEntry.refKey;exact h.symm▸rfl
    simp[b]
theorem gW{w:aJ}{name:ao}{fs:Vs}:∀{es:List ba},qe w q fs es->∃o,getL name es=aa o/\xC (VR w q) (iv name fs) o:=by induction fs with
 |nil=>intro es h;subst h;exact⟨ak,rfl,.none⟩|cons f fs g=>intro es h;cases h with|mk e r b h t=>subst b;obtain⟨⟨i,c⟩,d⟩:=h;refine(Aw c).symm▸?_;show∃o,_/\xC (VR w q) (cd (ag name f.1) (aa f.2) (iv name fs)) o;induction a:ag name f.1with
  |true=>rw[if_pos (aI.mp a).symm];exact⟨_,rfl,.some d⟩|false=>rw[if_neg λe=>by rw[aI.mpr e.symm]at a;exact mX a];exact g t
theorem jP{o:aY}(h:jp o=ac)(n:ao)(env:Env)(w:j5 al):attributeBase o n env w=w:=by induction o using be with
 |Call f a k p=>induction f using be with
  |Name id q=>induction a using ai with
   |nil=>induction k using ai with
    |nil=>exact cy h|cons=>rfl
   |cons=>rfl
  |_=>rfl
 |_=>rfl
theorem Bb{v:V}{name:ao}{R:V->Prop}(h:qF P v name R):(∃C fs u,v=.inst C fs/\P.field C name=ac/\cK P C=ae/\iv name fs=aa u/\R u)\/∃C,v=.exc C/\name="what"/\cK P C=ac/\R .any:=by induction v using V.casesOn with
 |inst C fs=>refine xK λb a=>xG h λc h=>?_;rw[af,aL]at c;refine xW h λu e h=>a (.inl (dB C fs u ⟨rfl,c.1,c.2,e,h⟩))|exc C=>refine xG h λc h=>?_;rw[af]at c;exact .inr ⟨C,rfl,aI.mp c.1,c.2,h⟩|_=>exact h.elim
theorem Fp(i:bo P Γ.K Γ.w){v:V}{x:al}{name:ao}(g:VR Γ.w q v x)(h:qF P (view cs v) name λv=>Q v cs):cE Γ q ev cs (eg Γ.w) (getAttr x name ac) Q X:=.by λs I A B l j K=>by
 have z:=sy I g;clear g B;rcases Bb h with⟨C,S,u,e,t,w,F,h⟩|⟨C,e,rfl,D,h⟩;·replace z:=e▸z;(refine aE z λp d R=>?_;obtain⟨o,m,n,H,c,E,J⟩:=R;subst d);refine fi (i.field C name t w) λM N O=>aE (gW (name:=name) J) λT y b=>?_;replace b:=F▸b;(refine aE (tx b) λW d f=>?_;(clear b;subst d));have k:InstAt s.heap p.1 o C (aa (dictOf m n)):=⟨H,c.cls,c.no,by refine c.dict.symm▸E⟩;exact get_value I.hs.K k M (findObj_own N O rfl (by dsimp only[lookIn_dict];exact y)) f.handed (K _ _ cs q _ h f I.toks (.refl _))
 ·replace z:=e▸z;exact i.E4 C q.g x A s l j D (λa o=>I.iV) I.hs.K z λv U L=>K _ v cs q _ h (.iN L) I.toks (.refl _)
theorem s6(k:bo P Γ.K Γ.w)(a:mN r Γ){o:aY}{name:ao}{pos:gA}(g:jp o=ac)(h:r.E (Γ.ℓ ev) o cs (λv cs=>qF P (view cs v) name λv=>Q v cs) X):cE Γ q ev cs (eg Γ.w) (eval (.Attribute o name pos) Γ.env) Q X:=by rw[arm_eval_Attribute,jP g];refine(a q ev o cs _ X h).bind λv x p w d i z9=>.dS ((cE.holding (Fp k i d)).bind λb y c l e j z9=>?_);exactλA s n m t I u f a=>ah (wpAny_letTemporaryGo (aA (f b y c l s e j I (.refl _))))
theorem s5(d:mN r Γ)(o:Option aY){R:Option Int->Cs->Prop}(h:E6 r (Γ.ℓ ev) o cs R X):cE Γ q ev cs (λz9 o v=>IsPart v o) (valueOrNone (evalOpt o Γ.env)) R X:=by induction o with
 |none=>exact .pure h .none|some e=>show cE Γ q ev cs _ (eval e Γ.env) R X;refine(show eval e Γ.env=(eval e Γ.env>>=λv=>pure v)from(bind_pure _).symm).symm▸(d q ev e cs _ X h).bind λv x f g b a z9=>xW b λi e c=>?_;rw[asInt_eq e]at a;obtain⟨t,rfl⟩:=a;exact .pure c (.int i t)
theorem sliceE_eq{e:aY}{p:Option aY×Option aY×Option aY}(h:ti e=aa p):∃pos,e=.Slice p.1 p.2.1 p.2.2 pos:=by induction e using be<;>(first|exact bn h|exact cy h|(injection h with h;subst h));exact⟨_,rfl⟩
inductive Zl(q:G)(o:Option Int×Option Int×Option Int)(v:al):Prop|mk(a:aq)(vl vu vk:al)(e:v=.ref a)(h:q.g a=aa (.fz (wt vl vu vk)))(h1:IsPart vl o.1)(h2:IsPart vu o.2.1)(h3:IsPart vk o.2.2)
theorem Ku(J:bo P Γ.K Γ.w)(f:mN r Γ){o i:aY}{pos:gA}(h:Oz r (Γ.ℓ ev) o i cs Q X):cE Γ q ev cs (eg Γ.w) (eval (.Subscript o i pos) Γ.env) Q X:=by
  dsimp only[eval_Subscript];refine(f q ev o cs _ X h).bind λv x D L c n z9=>xO (ti i) (λg=>?_) λp g=>?_;·replace c:=g▸c;exact(cE.holding (f L ev i D _ X c)).bind λk y w C d j l=>.dS (Fo J.sys (n.mono l) j d)
  · rw[g]at c;(refine aQ (sliceE_eq g) λY M=>?_;(clear h g;subst M));refine cE.bind (rel:=λq o v=>Zl q o v) (Q1:=λo cs=>v9 (view cs v) o.1 o.2.1 o.2.2 cs Q) (.holding ?_) λo y w C d j l=>.dS ?_;·dsimp only[arm_eval_Slice];refine(s5 f p.1 c).bind λa x w C d n T=>(cE.holding (s5 f p.2.1 d)).bind λb y R Z u j U=>(cE.holding (s5 f p.2.2 u)).bind λk z E q4 F H W=>.by λs I A S O N K=>dU ?_;have B:=I.fresh (c9 s.heap);exact K (a,b,k) _ E _ _ F ⟨s.heap.objs.size,x,y,z,rfl,bv,n,j,H⟩ ((I.grow (h':=s.heap.push (wt x y z)) (tk:=s.toks) λb o e=>ay _ e).Ac (t:=.fz _) B (aO _ rfl)) (kT B)
    ·obtain⟨a,vl,vu,vk,e,m,c,t,u⟩:=j;subst e;exact Bp (n.mono l) c t u m d
abbrev Pr(w:aJ):G->List (V×V)->List (al×al)->Prop:=λq=>bG λp v=>VR w q p.1 v.1/\VR w q p.2 v.2
theorem Br(d:mN r Γ){pos:gA}(ks:List (Option aY)):∀{es:List aY}{q:G}{cs:Cs}{R:List (V×V)->Cs->Prop},wa r (Γ.ℓ ev) ks es cs R X->cE Γ q ev cs (Pr Γ.w) (evalPairs (pairTrees ks es Γ.env pos)) R X:=by induction ks with
 |nil=>intro es q cs R h;refine xG h λn h=>?_;obtain rfl:es=[]:=aX.mp n;exact .pure h rfl|cons o ks w=>intro es q cs R h;induction o with
  |none=>exact mR h|some k=>induction es using ai with
   |nil=>exact mR h|cons e es=>show cE Γ q ev cs (Pr Γ.w) (eval k Γ.env>>=λa=>holding [a] (eval e Γ.env>>=λx=>standAt pos>>=λz9=>pure x)>>=λg=>holding [a,g] (evalPairs (pairTrees ks es Γ.env pos))>>=λl=>pure ((a,g)::l)) R X;refine(d q ev k cs _ X h).bind λa x i A m u z9=>(cE.holding ((d A ev e i _ X m).bind (rel':=eg Γ.w) λv y j B b c z9=>.dS (.pure b c))).bind λv y j B b c z=>(cE.holding (w b)).bind λl C D E p t f=>?_;exact .pure p (bl.mk (x,y) C rfl ⟨(u.mono z).mono f,c.mono f⟩ t)
theorem bG.right{c β d i:Type}{R:c->β->Prop}{S:d->i->Prop}{f:c->d}{g:β->i}(h:∀a b,R a b->S (f a) (g b)){l:List c}:∀{m:List β},bG R l m->bG S (l.map f) (m.map g):=by induction l with
 |nil=>intro m e;subst e;rfl|cons a l j=>intro m e;obtain⟨y,k,e,r,t⟩:=e;subst e;exact bl.mk _ _ rfl (h _ _ r) (j t)
theorem strsOf_eq{l:List (V×V)}:∀{a:List ao},strsOf l=aa a->l.map (·.1)=a.map .str:=by induction l with
 |nil=>intro a e;(injection e with e;subst e);rfl|cons p l c=>
  intro a e;dsimp only[strsOf]at e;refine xO (dX p.1) (λb=>?_) λs b=>?_;·replace e:=b▸e;exact bn e
  ·rw[b]at e;(refine aE (aM.mp (show(strsOf l).map _=aa a from e)) λq h d=>?_;(clear e;subst d));(refine aK.symm▸?_;rw[aK,asStr_eq b,c h])
theorem numsOf_eq{l:List (V×V)}:∀{a:List Int},numsOf l=aa a->l.map (·.1)=a.map .int:=by induction l with
 |nil=>intro a e;(injection e with e;subst e);rfl|cons p l c=>
  intro a e;dsimp only[numsOf]at e;refine xO (fu p.1) (λb=>?_) λs b=>?_;·replace e:=b▸e;exact bn e
  ·rw[b]at e;(refine aE (aM.mp (show(numsOf l).map _=aa a from e)) λq h d=>?_;(clear e;subst d));(refine aK.symm▸?_;rw[aK,asInt_eq b,c h])
theorem HF{K:Type}[DecidableEq K]{w:aJ}{knd:KeyKind pw w K}{mk:K->V}(f:∀k x,VR w q (mk k) x->knd.is k x=ac){b:List K}:∀{a:List (al×al)},iR w q (b.map mk) (a.map (·.1))->Carries knd a (b.zip (a.map (·.2))):=by induction b with
 |nil=>intro a h;induction a using ai with
  |nil=>trivial|cons=>cases h
 |cons s b g=>intro a h;induction a using ai with
  |nil=>obtain⟨_,_,e⟩:=h;cases e|cons v a=>obtain⟨y,i,e,c,d⟩:=h;cases e;exact⟨f _ _ c,rfl,g d⟩
theorem SI.newDict{Z:Prop}(I:SI Γ q ev cs s)(k:∀q',q.le q'->SI Γ q' ev (cs++[.dict []]) {s with heap:=s.heap.push {cls:=.type "dict",data:=.dict #[]}}->q'.ca[cs.length]?=aa (s.heap.objs.size,0)->Z):Z:=by
  have J:=I.grow (h':=s.heap.push {cls:=.type "dict",data:=.dict #[]}) (tk:=s.toks) λb o e=>ay _ e;have d:=I.fresh (c9 s.heap);have f:jJ q.g (upd q.g s.heap.objs.size (.cell q.ca.length ae)):=qG λt e=>by rw[d.g]at e;exact bn e
  have j:(s.heap.push {cls:=.type "dict",data:=.dict #[]}).get? s.heap.objs.size=aa {cls:=.type "dict",data:=.dict #[]}:=aO _ rfl;refine k ⟨upd q.g s.heap.objs.size (.cell q.ca.length ae),q.ca++[(s.heap.objs.size,0)]⟩ ⟨f,λi p e=>by refine(cR (aP.mp e).1).symm▸e⟩ (J.put (λa t e=>(cX λh=>by rw[h,d.g]at e;exact bn e).trans e) (λa t e=>?_) ⟨bv,?_⟩) (by refine I.len.symm▸tf _)
  · by_cases g:a=s.heap.objs.size;·subst g;rw[bv]at e;(injection e with e;subst e);exact .inr ⟨⟨_,rfl⟩,⟨_,j⟩,d.K⟩
    ·rw[cX g]at e;exact .inl e
  · refine aE (kx.mp (Heap.DictOf.new (knd:=strKind pw Γ.w) {})) λo c l=>?_;have :o={cls:=.type "dict",data:=.dict #[]}:=by rw[aO _ rfl]at c;(injection c with c;subst c);rfl
    clear c;subst this;exact .kind _ [] j rfl (.str [] rfl l)
theorem Fs(hE:mN r Γ){ks:List (Option aY)}{es:List aY}{pos:gA}(h:Ix r (Γ.ℓ ev) ks es cs Q X):cE Γ q ev cs (eg Γ.w) (eval (.Dict ks es pos) Γ.env) Q X:=by refine xG h λc h=>?_;rw[af,af]at c;have hl:=a9 c.1.2;have u:=aj c.2;intro A s QQ EE hA I ht hQ hX;induction ks using ai with
 |nil=>obtain rfl:es=[]:=List.length_eq_zero_iff.mp hl.symm;exact wpAny_Dict_empty (I.newDict λq' l J hp=>hQ _ _ _ q' _ h (uj.mk _ hp rfl) J l)|cons k ks=>
  refine wpAny_Dict_any c.1.1 hl (List.cons_ne_nil _ _) u (I.newDict λq' S J hp=>?_);refine Br (ev:=ev) (X:=X) (es:=es) (cs:=cs++[Cell.dict []]) (R:=λl L=>wp (nF (.ptr cs.length)) λi=>wp L[i]? λc=>wp (ua c) λS=>gd (S.isEmpty&&rl l&&fits l.length) (Q (.ptr cs.length) (L.set i (Cell.dict l)))) hE (pos:=pos) (k::ks) h A _ _ _ hA J ht (λl U L F E Y hr a T=>?_) λC e L F E Y hF a T=>hX C e L F E Y hF a (S.trans T);refine xW Y λi e h2=>?_;(injection e with e;subst e);refine xK λZ1 GL=>xW h2 λcl hc h3=>xW h3 λm0 W h4=>xG h4 λM h5=>?_;rw[af,af]at M;have e2:m0=[]:=aX.mp M.1.1;replace W:=e2▸W;have n:=T.c _ _ hp;have H:=a.cr _ _ _ hc n;replace H:=(dictOfC_eq W)▸H;refine fi H.2.empty λD1 D2 z4=>?_;have YA:=hr.len;have N:∀v tk,gx Γ.w v F l s.heap.objs.size->ki s.heap.objs.size E.heap v->QQ (.ref s.heap.objs.size) {E with heap:=v,toks:=tk}:=λv tk Z y=>by
   have R:∃o,v.get? s.heap.objs.size=aa o:=by induction Z with
    |kind o f R=>exact⟨o,R⟩|p8 xs z=>refine d0 z λo z3 z5 z z8=>⟨o,z⟩
   exact hQ _ _ _ F _ h5 (uj.mk _ n rfl) (a.cell n H.1 (λb o hb e=>by refine(y.2 b hb).symm▸e) R (c':=.dict l) ⟨H.1,Z⟩) (S.trans T)
  have fl:=dc M.2;have go:∀{K:Type}[DecidableEq K]{knd:KeyKind pw Γ.w K}{mk:K->V}(g:∀k x,VR Γ.w F (mk k) x->knd.is k x=ac)(p:∀(o:dJ)(ks:List K)(f:List al),o.IsDictOf knd (ks.zip f)->rS Γ.w o (ks.map mk) f)(j:List K),l.map (·.1)=j.map mk->j.Nodup->E.heap.DictOf knd s.heap.objs.size []->wpAny (model pw Γ.w) A (storeAll s.heap.objs.size U) (λz9=>QQ (.ref s.heap.objs.size)) EE E:=by
   intro K _ knd mk g p j e1 hn D;have w:=bG.right (S:=VR Γ.w F) (f:=(·.1)) (g:=(·.1)) (λz9 z9 h=>h.1) hr;replace w:=e1▸w;have O:j.length=U.length:=by have :=congrArg dZ e1;rw[az,az]at this;lia
   have YJ:(j.zip (U.map (·.2))).map (·.1)=j:=kZ (by rw[az,O]);unfold storeAll;refine wpAny_storeAll (knd:=knd) U _ [] E _ (HF g w) D (by simp[O];unfold sizeLine;lia) λv hm y=>?_;rw[merged_nil_of_nodup _ (by refine YJ.symm▸hn)]at hm;refine aE (kx.mp hm) λo R Z=>N v _ (.kind o (U.map (·.2)) R (bG.right (λz9 z9 h=>h.2) hr) (by refine e1.symm▸p o j _ Z)) y
  have g:=M.1.2;unfold rl at g;clear hE hA I ht hQ hX c h hl u S J hp Y hr a T h2 hc h3 W h4 M h5 e2 n H z4 YA N fl;refine GL ?_;induction B:strsOf l with
  |some j=>rw[B]at g;exact go (knd:=strKind pw Γ.w) (mk:=.str) (λk x z=>by(refine aQ z λt z2=>?_;subst z2);exact strKind_is _ _ _ _) (λo ks f d=>.str ks rfl d) j (strsOf_eq B) (of_decide_eq_true g) D1|none=>
   replace g:=B▸g;refine xO (numsOf l) (λm=>?_) λj m=>?_;·dsimp only at g;replace g:=m▸g;exact cy g
   ·dsimp only at g;replace g:=m▸g;exact go (knd:=intKind pw Γ.w) (mk:=.int) (λk x z=>by(refine aQ z λt z2=>?_;(clear z;subst z2));exact intKind_is _ _ _ _) (λo ks f d=>.int ks rfl d) j (numsOf_eq m) (of_decide_eq_true g) D2
end
def idx(i:Nat):List Nat->Option Nat
 |[]=>ak|j::l=>cd (a7 i j) (aa 0) ((idx i l).map (·+1))
theorem Dp{i:Nat}{l:List Nat}:∀{j:Nat},idx i l=aa j->l[j]?=aa i:=by induction l with
 |nil=>intro j h;exact bn h|cons k l b=>
  intro j h;dsimp only[idx]at h;refine xB (a7 i k) (λe=>?_) λe=>?_;·replace h:=e▸h;(refine aE (aM.mp (show(idx i l).map (·+1)=aa j from h)) λm a c=>?_;subst c);exact b a
  ·replace h:=e▸h;(injection h with h;subst h);refine(a9 e).symm▸rfl
theorem xg{i:Nat}{l:List Nat}(hd:distinct l=ac):∀{j:Nat},l[j]?=aa i->idx i l=aa j:=by induction l with
 |nil=>intro j h;exact bn h|cons k l a=>intro j h;dsimp only[distinct]at hd;rw[af,aL]at hd;dsimp only[idx];induction j using bN with
  |zero=>cases h;refine(show a7 i i=ac from pi i).symm▸?_;rfl|succ j=>
   replace h:l[j]?=aa i:=h;have :a7 i k=ae:=by induction e:a7 i k with
    |false=>rfl|true=>cases a9 e;rw[fb.mpr ⟨i,lN (l:=l) h,pi i⟩]at hd;exact mX hd.1
   refine this.symm▸(a hd.2 h).symm▸?_;rfl
section
variable(h:bz)(m:ao->Option al)(ls:List Nat)(L:aq)
def vj(a:aq)(t:Tag):Option i3:=match t with
 |.fz _=>ak|.lo _ _=>ak|.kp k=>aa k|.loc=>if a=L then aa (.ns m)else(h.get? a).map .ob|.qz _=>(h.get? a).map .ob|.cell i _=>(match idx i ls with
  |aa _=>ak|ak=>(h.get? a).map .ob)
def GU(a:aq)(t:Tag):Option Tag:=match vj h m ls L a t with
 |aa k=>aa (.kp k)|ak=>(match t with
  |.cell i b=>(idx i ls).map λj=>.cell j b|t=>cd (rW t) (aa t) ak)
def Dn(g:Gh):Gh:=λa=>(g a).bind (GU h m ls L a)
def xe(g:Gh):aq->Option i3:=λa=>(g a).bind (vj h m ls L a)
end
def kl(g g':Gh):Gh:=λa=>match g' a with
 |aa t=>cd (rW t) (aa t) (g a)|ak=>ak
def fN(Sm:V->Cell->Prop)(w:aJ)(h:bz)(g:Gh)(ca:List CA)(cs:Cs):Prop:=cs.length=ca.length/\∀(i:Nat)(c:Cell)(p:CA),cs[i]?=aa c->ca[i]?=aa p->io Sm w h ⟨g,[]⟩ i p c
inductive fR(w:aJ)(g:Gh):List Arg->List al->Cs->List CA->Prop|nil:fR w g [] [] [] []|v{v x args xs cs ps}:TR w g v x->fR w g args xs cs ps->fR w g (.v v::args) (x::xs) cs ps|c{k p args xs cs ps}:fR w g args xs cs ps->fR w g (.c k::args) (.ref p.1::xs) (k::cs) (p::ps)
def Sq(fr:List Env)(kept:aq->Option i3):Prop:=∀e∈fr,e.scope.kind≠.module/\∃a m,e.frame=aa a/\kept a=aa (.ns m)
def dP(K:bt)(w:aJ)(Sm:V->Cell->Prop)(sp:Spec)(dep:Nat):Prop:=∀(rest:Array n7×Drawn×cQ)(kept:aq->Option i3)(frames:List Env)(hd:Option al)(lf:Bool)(f:aq)(args:List Arg)(xs:List al)(cells:Cs)(ca:List CA)(g:Gh)(A:bc)(s:ax)(Q:Cs->b0->Prop)(X:aq->Prop)(R:n4->ax->Prop),sp lf f args Q X->A.frames=aa frames->A.handled=hd->A.depth+4*dep<990->A.units+16*dep+200<9900->(lf=ac\/hd=ak)->Ig hd g->Sq frames kept->fR w g args xs cells ca->fN Sm w s.heap g ca cells->HS K rest kept g s->0<s.toks->(∀outs v g' s' x,Q outs (.v v)->HS K rest kept g' s'->jJ g g'->fN Sm w s'.heap g' ca outs->TR w g' v x->R (.ok (.ret x)) s')->(∀outs b l g' s' D xs n,Q outs (.fresh b l)->HS K rest kept g' s'->jJ g g'->fN Sm w s'.heap g' ca outs->Off K g' D->s'.heap.get? D=aa (eo xs n)->eA w g' l xs->R (.ok (.ret (.ref D))) s')->(∀C g' s' e,X C->HS K rest kept g' s'->jJ g g'->jl K g' C s'.heap e->R (.error e) s')->codeAny (model pw w) A (.call (.ref f) ⟨xs,[]⟩) R s
section
variable{P:PG}{Γ:Cx}{q:G}{ev:Vs}{cs:Cs}{s:ax}{Q:V->Cs->Prop}{X:XP}{r:Wv}
section
variable{h:bz}{m:ao->Option al}{ls:List Nat}{L:aq}{g:Gh}{a:aq}{t:Tag}
theorem Jk(f:rW t=ac):vj h m ls L a t=ak:=by induction t<;>first|rfl|exact cy f
theorem yT(e:g a=aa t)(f:rW t=ac):Dn h m ls L g a=aa t:=by unfold Dn;refine e.symm▸?_;show GU h m ls L a t=aa t;unfold GU;refine(Jk f).symm▸?_;clear e;induction t<;>first|rfl|exact cy f
theorem QV{k:i3}(e:g a=aa t)(f:vj h m ls L a t=aa k):Dn h m ls L g a=aa (.kp k):=by unfold Dn;refine e.symm▸?_;show GU h m ls L a t=_;unfold GU;exact f.symm▸rfl
theorem Dm{i j:Nat}{b:Bool}(e:g a=aa (.cell i b))(c:idx i ls=aa j):Dn h m ls L g a=aa (.cell j b):=by
 unfold Dn;refine e.symm▸?_;show GU h m ls L a (.cell i b)=_;have :vj h m ls L a (.cell i b)=ak:=by unfold vj;dsimp only;exact c.symm▸rfl
 dsimp only[GU];refine this.symm▸?_;dsimp only;refine c.symm▸rfl
inductive Zn(h:bz)(m:ao->Option al)(ls:List Nat)(L a:aq)(t u:Tag):Prop|f(f:rW t=ac)(e:u=t)|k(k:i3)(hk:vj h m ls L a t=aa k)(e:u=.kp k)|c(i j:Nat)(b:Bool)(e:t=.cell i b)(hi:idx i ls=aa j)(e':u=.cell j b)
theorem Dl{u:Tag}(e:GU h m ls L a t=aa u):Zn h m ls L a t u:=by
 unfold GU at e;refine xO (vj h m ls L a t) (λc=>?_) λk c=>?_;·rw[c]at e;induction t with
  |cell i b=>(refine aE (aM.mp (show(idx i ls).map _=aa u from e)) λj d f=>?_;subst f);exact .c i j b rfl d rfl|fz=>(injection e with e;subst e);exact .f rfl rfl|lo=>(injection e with e;subst e);exact .f rfl rfl|kp=>exact bn e|loc=>exact bn e|qz=>exact bn e
 ·rw[c]at e;(injection e with e;subst e);exact .k k c rfl
theorem An{k:i3}(p:h.Ns L m)(x:Meets h a t)(e:vj h m ls L a t=aa k):Meets h a (.kp k):=by
 have f:∀{o:Option dJ},h.get? a=o->o.map i3.ob=aa k->Meets h a (.kp k):=λn l=>by(refine aE (aM.mp l) λo u v=>?_;(clear l;subst u v));exact n
 unfold vj at e;induction t with
 |fz=>exact bn e|lo=>exact bn e|kp=>(injection e with e;subst e);exact x|loc=>
  dsimp only at e;by_cases c:a=L;·rw[if_pos c]at e;(injection e with e;subst e);(clear x;subst c);exact p
  ·rw[if_neg c]at e;exact f rfl e|qz=>exact f rfl e|cell i b=>
  dsimp only at e;refine xO (idx i ls) (λd=>?_) λj d=>?_;·rw[d]at e;exact f rfl e
  ·rw[d]at e;exact bn e
end
theorem wO{g g':Gh}:jJ g' (kl g g'):=λa t e f=>by unfold kl;refine e.symm▸?_;dsimp only;refine f.symm▸rfl
theorem SI.UO{m:ao->Option al}{ls:List Nat}(I:SI Γ q ev cs s)(n:s.heap.Ns Γ.L m):HS Γ.K Γ.rest (xe s.heap m ls Γ.L q.g) (Dn s.heap m ls Γ.L q.g) s:=⟨I.hs.rest,I.hs.K,λa t e=>by refine aE (cG.mp (show(q.g a).bind _=aa t from e)) λu d e=>bB (I.hs.tag a u d) λc h=>⟨?_,h⟩;induction Dl e with
 |f f e=>refine e.symm▸c|k k l e=>refine e.symm▸An n c l|c i j b e o g=>refine g.symm▸?_;replace c:=e▸c;exact c,λa k e=>by refine aE (cG.mp (show(q.g a).bind _=aa k from e)) λu d e=>QV d e⟩
theorem SI.back{m:ao->Option al}{ls:List Nat}{g':Gh}{F:ax}{cs':Cs}(I:SI Γ q ev cs s)(W:s.heap.Ns Γ.L m)(H:HS Γ.K Γ.rest (xe s.heap m ls Γ.L q.g) g' F)(S:jJ (Dn s.heap m ls Γ.L q.g) g')(y:cs'.length=cs.length)(C:∀i c p,cs'[i]?=aa c->q.ca[i]?=aa p->(idx i ls=ak/\cs[i]?=aa c)\/io Γ.Sm Γ.w F.heap ⟨kl q.g g',q.ca⟩ i p c):SI Γ ⟨kl q.g g',q.ca⟩ ev cs' F/\q.le ⟨kl q.g g',q.ca⟩/\jJ g' (kl q.g g'):=by
  have A:∀{a t},q.g a=aa t->rW t=ac->g' a=aa t:=λe f=>S _ _ (yT e f) f;have N:jJ g' (kl q.g g'):=wO;have kp:∀{a t k},q.g a=aa t->vj s.heap m ls Γ.L a t=aa k->g' a=aa (.kp k):=λe f=>H.kp _ _ (by unfold xe;refine e.symm▸f);have E:∀{a t k},q.g a=aa t->vj s.heap m ls Γ.L a t=aa k->kl q.g g' a=aa t:=λ{a t k}e f=>by show(match g' a with|aa t=>cd (rW t) (aa t) (q.g a)|ak=>ak)=_;refine(kp e f).symm▸e
  have D:q.le ⟨kl q.g g',q.ca⟩:=⟨λa t e f=>N _ _ (A e f) f,λz9 z9 h=>h⟩;have ob:∀{a t o},q.g a=aa t->vj s.heap m ls Γ.L a t=aa (.ob o)->F.heap.get? a=aa o:=λe f=>(H.tag _ _ (kp e f)).1;have qz:∀{c:aq}{x:ao}{o:dJ},q.g c=aa (.qz x)->s.heap.get? c=aa o->vj s.heap m ls Γ.L c (.qz x)=aa (.ob o):=λ{c x o}_ g=>by show(s.heap.get? c).map i3.ob=_;refine g.symm▸rfl
  have K:vj s.heap m ls Γ.L Γ.L .loc=aa (.ns m):=if_pos rfl;refine aE I.ns λM n T=>?_;cases oH n W;refine⟨⟨⟨H.rest,H.K,λa t e=>?_,λa k e=>E (I.hs.kp a k e) rfl⟩,E I.loc K,⟨m,(H.tag _ _ (kp I.loc K)).1,λx v e=>(T x v e).to D λc o C g=>ob (I.cl _ C).1 (qz (I.cl _ C).1 g)⟩,λp Y=>?_,y.trans I.len,λi c p O J=>?_,λh e=>let⟨a,l,z⟩:=I.hc h e;(cM a l (z.mono D.f))⟩,D,N⟩;·have e:(match g' a with|aa t=>cd (rW t) (aa t) (q.g a)|ak=>ak)=aa t:=e;induction j:g' a with
    |none=>replace e:=j▸e;exact bn e|some u=>
      replace e:=j▸e;refine bB (H.tag a u j) λd B=>⟨?_,B⟩;dsimp only at e;refine xB (rW u) (λw=>?_) λw=>?_;·replace e:=w▸e;have e:q.g a=aa t:=e;induction t with
        |kp k=>have :=kp e rfl;replace this:=j▸this;(injection this with this;subst this);exact d|fz=>have :=A e rfl;replace this:=j▸this;(injection this with this;subst this);exact mX w|lo=>have :=A e rfl;replace this:=j▸this;(injection this with this;(clear j;subst this));exact mX w|loc=>exact d.has|qz=>exact d.has|cell=>exact d.has
      ·replace e:=w▸e;(injection e with e;(clear j w;subst e));exact d
  ·refine bB (I.cl p Y) λd Z=>c8 Z λo u B R=>⟨E d (qz d B),o,u,ob d (qz d B),R⟩
  · rcases C i c p O J with⟨U,e⟩|z
    · have L:∀{a:aq}{b:Bool}{o:dJ},q.g a=aa (.cell i b)->s.heap.get? a=aa o->vj s.heap m ls Γ.L a (.cell i b)=aa (.ob o):=λ{a b o}_ g=>by unfold vj;dsimp only;refine U.symm▸g.symm▸rfl
      exact(I.cr i c p e J).to D (λa b e=>by refine aQ ((I.hs.tag a _ e).1.has) λo g=>E e (L e g)) (λb o e=>⟨I.iV e,(H.tag _ _ (A e rfl)).1⟩) λa b o e g=>ob e (L e g)
    ·exact z
theorem Gc{g g':Gh}{a:aq}{t u:Tag}(e:g' a=aa u)(f:rW u=ae)(b:g a=aa t):kl g g' a=aa t:=by show(match g' a with|aa t=>cd (rW t) (aa t) (g a)|ak=>ak)=_;refine e.symm▸?_;dsimp only;refine f.symm▸b
theorem jl.out{K:bt}{g g':Gh}{C:aq}{h:bz}{e:al}(c:jJ g' (kl g g'))(F:jl K g' C h e):jl K (kl g g') C h e:=by have b:∀{a},Off K g' a->Off K (kl g g') a:=λ{a}o=>⟨by show(match g' a with|aa t=>cd (rW t) (aa t) (g a)|ak=>ak)=_;exact o.g.symm▸rfl,o.K⟩;induction F with|mk a o D e f=>refine kB f.exc λd i n j k m=>c8 f.cx λu l p v=>⟨a,o,D,e,f.at_,(dB d i n ⟨j,c _ _ k rfl,m⟩),f.data,f.sz,b f.off,?_,u,l,p,v.mono c⟩;induction f.tb with
 |no e=>exact .no e|tb T z B e y x w A o=>exact .tb T z B e y x w A (b o)
theorem q8(is:List Nat):∀(ks cs:Cs),(putAll is ks cs).length=cs.length:=by induction is with
 |nil=>intro ks cs;rfl|cons i is a=>intro ks cs;induction ks using ai with
  |nil=>rfl|cons k ks=>show(putAll is ks (cs.set i k)).length=_;rw[a,ip]
theorem Ad{i:Nat}{c:Cell}(is:List Nat):∀{ks cs:Cs},distinct is=ac->is.length=ks.length->(putAll is ks cs)[i]?=aa c->(idx i is=ak/\cs[i]?=aa c)\/∃j,idx i is=aa j/\ks[j]?=aa c:=by induction is with
  |nil=>intro ks cs _ _ h;exact .inl ⟨rfl,h⟩|cons k is l=>intro ks cs f m h;induction ks using ai with
    |nil=>exact nomatch m|cons o ks=>
      have g:=f;dsimp only[distinct]at f;rw[af]at f;have l:=l f.2 (g9 m) (show(putAll is ks (cs.set k o))[i]?=aa c from h);by_cases b:i=k
      · (clear m h f;subst b);have n:idx i (i::is)=aa 0:=xg g (j:=0) rfl;rcases l with⟨d,a⟩|⟨j,d,a⟩
        · rcases qX a with⟨_,rfl⟩|⟨z,_⟩;·exact .inr ⟨0,n,rfl⟩
          ·exact absurd rfl z
        ·have :=xg g (show(i::is)[j+1]?=aa i from(Dp d:is[j]?=aa i));replace this:=n▸this;exact nomatch this
      · have t:a7 i k=ae:=by induction e:a7 i k with
          |false=>rfl|true=>exact absurd (a9 e) b
        have p:idx i (k::is)=(idx i is).map (·+1):=by show cd (a7 i k) _ _=_;refine t.symm▸rfl
        rcases l with⟨d,a⟩|⟨j,d,a⟩
        · rcases qX a with⟨z,_⟩|⟨_,a⟩;·exact absurd z b
          ·exact .inl ⟨by refine p.symm▸d.symm▸rfl,a⟩
        ·exact .inr ⟨j+1,by refine p.symm▸d.symm▸rfl,a⟩
theorem qV{ks:Cs}:∀{os:Cs},fq ks os=ac->ks.length=os.length:=by induction ks with
 |nil=>intro os h;exact(aX.mp (show os.isEmpty=ac from h)).symm▸rfl|cons k ks a=>intro os h;induction os using ai with
  |nil=>exact cy h|cons o os=>have h:(ir k o&&fq ks os)=ac:=h;rw[af]at h;exact congrArg Nat.succ (a h.2)
theorem su{ks:Cs}:∀{os:Cs}{j:Nat}{k o:Cell},fq ks os=ac->ks[j]?=aa k->os[j]?=aa o->ir k o=ac:=by induction ks with
 |nil=>intro os j k o _ h;exact bn h|cons k ks c=>intro os j e o h a b;induction os using ai with
  |nil=>exact cy h|cons d os=>have h:(ir k d&&fq ks os)=ac:=h;rw[af]at h;induction j using bN with
   |zero=>(injection a with a;subst a);(injection b with b;subst b);exact h.1|succ j=>exact c h.2 a b
theorem lJ{Sm:V->Cell->Prop}(g:fa P Sm){w:aJ}{h:bz}{i:Nat}{p:CA}{c:Cell}{b:Bool}(x:io Sm w h q i p c)(a:shape c=aa b):q.g p.1=aa (.cell i ae)/\(b=ac->q.g p.2=aa (.cell i ac)):=by induction c with
 |lst r l=>(injection a with a;subst a);exact⟨x.1,λe=>cy e⟩|inst C f=>(injection a with a;subst a);exact⟨x.1,λz9=>x.2.1⟩|dict l=>exact bn a|dead v=>exact bn a|ch v=>refine aE x λc d x=>?_;have z:=(g.ok v c d).1;rw[show shape (.ch v)=aa (s7 v)from rfl]at a;(injection a with a;subst a);clear d;induction c with
  |lst r l=>induction j:s7 v with
   |true=>rw[j]at z;exact nomatch z|false=>exact⟨x.1,λe=>cy e⟩
  |inst C f=>exact⟨x.1,λz9=>x.2.1⟩|dict l=>exact bn z|dead v=>exact bn z|ch v=>exact x.elim
end
def mh:Cell->Bool
 |.lst r _=>r|.inst _ fs=>!fs.any λf=>pG f.2|.ch _=>ac|_=>ae
inductive lc(cs:Cs)(ca:List CA):List Nat->Cs->List CA->Prop|nil:lc cs ca [] [] []|cons{i k p is ks ps}:cs[i]?=aa k->ca[i]?=aa p->mh k=ac->lc cs ca is ks ps->lc cs ca (i::is) (k::ks) (p::ps)
section
variable{P:PG}{Γ:Cx}{q:G}{ev:Vs}{cs:Cs}{s:ax}{Q:V->Cs->Prop}{X:XP}{r:Wv}
theorem lc.at{a:List CA}{is:List Nat}{ks:Cs}{ps:List CA}(h:lc cs a is ks ps):∀{j i:Nat},is[j]?=aa i->∃k p,ks[j]?=aa k/\ps[j]?=aa p/\cs[i]?=aa k/\a[i]?=aa p/\mh k=ac:=by induction h with
 |nil=>intro j i e;exact bn e|cons b c d _ f=>intro j i e;induction j using bN with
  |zero=>(injection e with e;subst e);exact cM _ _ ⟨rfl,rfl,b,c,d⟩|succ j=>exact f e
theorem lc.len{b:List CA}{is:List Nat}{ks:Cs}{ps:List CA}(h:lc cs b is ks ps):is.length=ks.length/\ks.length=ps.length:=by induction h with
 |nil=>exact⟨rfl,rfl⟩|cons _ _ _ _ a=>exact⟨congrArg Nat.succ a.1,congrArg Nat.succ a.2⟩
theorem Iy{w:aJ}{g':Gh}(a:jJ q.g g'){v:V}{x:al}(b:pG v=ae)(h:VR w q v x):TR w g' v x:=by induction v using V.casesOn with
 |ptr=>exact mX b|_=>exact TR.mono a _ _ h
theorem wc{w:aJ}{q':G}(c:jJ q.g q'.g){fs:Vs}:∀{es:List ba},(fs.any λf=>pG f.2)=ae->qe w q fs es->qe w q' fs es:=by induction fs with
 |nil=>intro es _ h;exact h|cons f fs d=>intro es a h;rw[fK,Bool.or_eq_false_iff]at a;obtain⟨e,r,b,h,t⟩:=h;exact bl.mk e r b ⟨h.1,.iN (Iy c a.1 h.2)⟩ (d a.2 t)
theorem g5.re{w:aJ}{h:bz}{q':G}{i j:Nat}{p:CA}{c:Cell}(d:jJ q.g q'.g)(g:∀l,c≠.dict l)(k:∀C fs es,c=.inst C fs->qe w q fs es->qe w q' fs es)(e:q.g p.1=aa (.cell i ae)->q'.g p.1=aa (.cell j ae))(y:∀C fs,c=.inst C fs->q.g p.2=aa (.cell i ac)->q'.g p.2=aa (.cell j ac))(x:g5 w h q i p c):g5 w h q' j p c:=by induction c with
 |lst r l=>(refine bB x λt b=>?_;obtain⟨z,n,a,r⟩:=b);exact⟨e t,z,n,a,eA.mono d _ _ r⟩|inst C fs=>(refine fi x λt u b=>?_;obtain⟨o,es,n,a,m,f,r⟩:=b);exact⟨e t,y C fs rfl u,o,es,n,a,m,f,k C fs es rfl r⟩|dict l=>exact absurd rfl (g l)|dead v=>exact TR.mono d _ _ x|ch x=>exact x
theorem wZ(o:fa P Γ.Sm){w:aJ}{h:bz}{q':G}{i j:Nat}{p:CA}{c:Cell}(d:jJ q.g q'.g)(k:mh c=ac)(t:∀{a b},q.g a=aa (.cell i b)->q'.g a=aa (.cell j b))(x:io Γ.Sm w h q i p c):io Γ.Sm w h q' j p c:=by induction c with
 |lst r l=>exact g5.re (w:=w) (p:=p) (c:=.lst r l) d (λz9 e=>nomatch e) (λz9 z9 z9 e=>nomatch e) t (λz9 z9 e=>nomatch e) x|inst C m=>exact g5.re (w:=w) (p:=p) (c:=.inst C m) d (λz9 e=>nomatch e) (λz9 z9 z9 e h=>by cases e;exact wc d (by simpa[mh]using k) h) t (λz9 z9 z9=>t) x|dict l=>exact cy k|dead v=>exact cy k|ch v=>refine aE x λc g x=>?_;have z:=(o.ok v c g).2;refine⟨c,g,x.re d (λl e=>by(clear g x;subst e);exact z) (λC m A e h=>?_) t λz9 z9 z9=>t⟩;clear g x;subst e;exact wc d (by rw[Bool.eq_false_iff];intro y;refine aE (fb.mp y) λf u n=>?_;rw[z.2.2.2.1 f u]at n;exact cy n) h
structure EO(Γ:Cx)(ev:Vs)(s:ax)(q q':G)(cs cs':Cs)(gs:List rR)(xs:List al)(ps:List CA):Prop where
 le:q.le q'
 ca:q'.ca=q.ca
 si:SI Γ q' ev cs' s
 keep:∀(i:Nat)(c:Cell),cs[i]?=aa c->mh c=ac->cs'[i]?=aa c
 tags:∀a t,q.g a=aa t->q'.g a=aa t\/((∃i b,t=.cell i b)/\∃o,q'.g a=aa (.fz o))
 args:fR Γ.w q'.g (gs.map JT) xs (kY gs) ps
 vh:lc cs' q'.ca (dg gs) (kY gs) ps
theorem fR.mono{w:aJ}{g g':Gh}(h:jJ g g'){args xs ks ps}(x:fR w g args xs ks ps):fR w g' args xs ks ps:=by induction x with
 |nil=>exact .nil|v t _ a=>exact .v (TR.mono h _ _ t) a|c _ a=>exact .c a
inductive zA(Γ:Cx)(q q':G)(cs':Cs)(x:al):rR->Prop|tree{v:V}(t:TR Γ.w q'.g v x):zA Γ q q' cs' x (.tree v)|lend{i:Nat}{c:Cell}{p:CA}(e:x=.ref p.1)(h1:cs'[i]?=aa c)(h2:q'.ca[i]?=aa p)(h3:mh c=ac):zA Γ q q' cs' x (.lend i c)
theorem zt{i:Nat}{p:CA}{v:V}{o:dJ}(I:SI Γ q ev cs s)(f:q.ca[i]?=aa p)(g:q.g p.1=aa (.cell i ae))(w:s.heap.get? p.1=aa o)(x:TR Γ.w (upd q.g p.1 (.fz o)) v (.ref p.1))(u:∃c,cs[i]?=aa c/\mh c=ae):q.le ⟨upd q.g p.1 (.fz o),q.ca⟩/\SI Γ ⟨upd q.g p.1 (.fz o),q.ca⟩ ev (cs.set i (.dead v)) s/\(∀(j:Nat)(c:Cell),cs[j]?=aa c->mh c=ac->(cs.set i (.dead v))[j]?=aa c)/\∀a t,q.g a=aa t->upd q.g p.1 (.fz o) a=aa t\/((∃i b,t=.cell i b)/\∃y,upd q.g p.1 (.fz o) a=aa (.fz y)):=by
  have B:=I.tJ f;have J:=B.Ai f g (t:=.fz o) rfl w;have k:=J.quiet (i:=i) (p:=p) f x;rw[List.set_set]at k;refine⟨i5 g,k,λj c e l=>?_,λa t e=>?_⟩
  · rw[List.getElem?_set_ne λh=>?_];·exact e
    ·subst h;refine aE u λz d n=>?_;rw[e]at d;(injection d with d;subst d);rw[l]at n;exact mX n
  · by_cases m:a=p.1;·subst m;rw[g]at e;(injection e with e;subst e);exact .inr ⟨(cM _ _ rfl),_,bv⟩
    ·exact .inl ((cX m).trans e)
theorem G5{v:V}{x:al}{k:rR->Cs->Prop}{Z:Prop}(h:xX v cs k)(I:SI Γ q ev cs s)(H:VR Γ.w q v x)(K:∀g cs' q',k g cs'->q.le q'->q'.ca=q.ca->SI Γ q' ev cs' s->(∀(i:Nat)(c:Cell),cs[i]?=aa c->mh c=ac->cs'[i]?=aa c)->(∀a t,q.g a=aa t->q'.g a=aa t\/((∃i b,t=.cell i b)/\∃o,q'.g a=aa (.fz o)))->zA Γ q q' cs' x g->Z):Z:=by induction v using V.casesOn with
 |ptr i=>cases H with|mk p m e=>refine xW h λc j h=>?_;have z:=I.cr i c p j m;have same:∀{g},k g cs->zA Γ q q cs x g->Z:=λL r=>K _ cs q L (.refl _) rfl I (λz9 z9 e z9=>e) (λz9 z9 e=>.inl e) r;induction c with
  |dead v=>exact same h (.tree (by refine e.symm▸z))|ch v=>exact same h (.lend e j m rfl)|lst r l=>induction r with
   |true=>exact same h (.lend e j m rfl)|false=>(refine bB z λt T=>?_;obtain⟨J,n,F,r⟩:=T);have u:TR Γ.w (upd q.g p.1 (.fz (eo J n))) (.lst l) (.ref p.1):=rM.mk p.1 J n rfl bv (eA.mono (i5 t).f _ _ r);refine N3 (zt I m t F u ⟨_,j,rfl⟩) λw A B D=>K _ _ _ h w rfl A B D (.tree (by refine e.symm▸u))
  |inst C U=>refine xG h λn h=>same h (.lend e j m n)|dict l=>
   refine xG h λn h=>?_;rw[af,aL]at n;refine z.2.simple n.2 λo d F M O=>?_;have R:∀{l:List (V×V)}{d:List al},(l.any λf=>pG f.2)=ae->iR Γ.w q (l.map (·.2)) d->xA Γ.w (upd q.g p.1 (.fz o)) l d:=by intro l;induction l with
    |nil=>intro d _ h;exact h|cons f l N=>intro d E h;rw[fK,Bool.or_eq_false_iff]at E;obtain⟨y,S,e,h,t⟩:=h;exact bl.mk y S e (Iy (i5 z.1).f E.1 h) (N E.2 t)
   have u:TR Γ.w (upd q.g p.1 (.fz o)) (.dict l) (.ref p.1):=vW.mk p.1 o d rfl bv (R n.1 M) O;refine N3 (zt I m z.1 F u ⟨_,j,rfl⟩) λw A B D=>K _ _ _ h w rfl A B D (.tree (by refine e.symm▸u))
 |_=>exact K _ cs q h (.refl _) rfl I (λz9 z9 e z9=>e) (λz9 z9 e=>.inl e) (.tree H)
theorem DJ(args:List V):∀{xs:List al}{cs:Cs}{q:G}{k:List rR->Cs->Prop}{Z:Prop},A8 args cs k->SI Γ q ev cs s->iR Γ.w q args xs->(∀gs cs' q' ps,k gs cs'->EO Γ ev s q q' cs cs' gs xs ps->Z)->Z:=by induction args with
 |nil=>intro xs cs q k Z h I d K;subst d;exact K [] cs q [] h ⟨.refl _,rfl,I,λz9 z9 e z9=>e,λz9 z9 e=>.inl e,.nil,.nil⟩|cons v args H=>intro xs cs q k Z h I d K;cases d with|mk x xs e d n=>
  subst e;refine G5 (show xX v cs λy cs=>pN xX args cs λM cs=>k (y::M) cs from h) I d λg N O E p w D B L J=>H E D (iR.mono p n) λgs u f ps z R=>?_;have C:∀a t,q.g a=aa t->f.g a=aa t\/((∃i b,t=.cell i b)/\∃o,f.g a=aa (.fz o)):=λa t e=>by
   rcases L a t e with h|⟨h,o,F⟩;·exact R.tags a t h
   ·exact .inr ⟨h,o,R.le.f _ _ F rfl⟩
  induction J with
  |tree t=>exact K _ u f ps z ⟨p.trans R.le,R.ca.trans w,R.si,λi c e l=>R.keep i c (B i c e l) l,C,.v (TR.mono R.le.f _ _ t) R.args,R.vh⟩|lend e j m A=>clear d;subst e;exact K _ u f (_::ps) z ⟨p.trans R.le,R.ca.trans w,R.si,λi c e l=>R.keep i c (B i c e l) l,C,.c R.args,.cons (R.keep _ _ j A) (R.le.c _ _ m) A R.vh⟩
theorem G9{w:aJ}{g g':Gh}{v:V}{x:al}(a:flat v=ac)(h:TR w g v x):TR w g' v x:=by induction v using V.casesOn<;>first|exact h|exact cy a
theorem GK(is:List Nat):∀{cs:Cs}{i:Nat}{c:Cell},(jR is cs)[i]?=aa c->(idx i is=ak/\cs[i]?=aa c)\/c=.dead .any:=by induction is with
  |nil=>intro cs i c h;exact .inl ⟨rfl,h⟩|cons k is f=>
    intro cs i c h;rcases f (show(jR is (cs.set k (.dead .any)))[i]?=aa c from h)with⟨d,a⟩|h
    · rcases qX a with⟨_,e⟩|⟨b,a⟩;·exact .inr e
      ·refine .inl ⟨?_,a⟩;show cd (a7 i k) _ _=_;refine(show a7 i k=ae from by induction e:a7 i k with
          |false=>rfl|true=>exact absurd (a9 e) b).symm▸d.symm▸?_;rfl
    ·exact .inr h
theorem C7(is:List Nat):∀(cs:Cs),(jR is cs).length=cs.length:=by induction is with
 |nil=>intro cs;rfl|cons i is a=>intro cs;show(jR is (cs.set i _)).length=_;rw[a,ip]
theorem yw{S:ax}{t g':Gh}{E:Cs}{gs:List rR}{xs:List al}{ps:List CA}{m:Cs}{i:Nat}{c:Cell}{p:CA}(A:fa P Γ.Sm)(D:EO Γ ev s q ⟨t,q.ca⟩ cs E gs xs ps)(J:distinct (dg gs)=ac)(u:fq (kY gs) m=ac)(C:fN Γ.Sm Γ.w S.heap g' ps m)(g:(⟨g',[]⟩:G).le ⟨kl t g',q.ca⟩)(O:(putAll (dg gs) m E)[i]?=aa c)(R:q.ca[i]?=aa p):(idx i (dg gs)=ak/\E[i]?=aa c)\/io Γ.Sm Γ.w S.heap ⟨kl t g',q.ca⟩ i p c:=by
  rcases Ad _ J (D.vh.len.1.symm▸(qV u).symm▸rfl) O with h|⟨j,Y,K⟩;·exact .inl h
  ·right;refine se (D.vh.at (Dp Y)) λk Z T U W o a5=>?_;have o:q.ca[i]?=aa Z:=o;rw[R]at o;(injection o with o;subst o);have x:=C.2 j c p K U;have d:=su u T K;have n:=D.si.cr i k p W R;have w:∀{a b N},g' a=aa (.cell j b)->t a=aa (.cell i N)->kl t g' a=aa (.cell i N):=λe F=>Gc e rfl F;clear O K;induction c with
    |dead v=>exact TR.mono g.f _ _ x|dict l=>unfold ir at d;induction f:shape k with
      |none=>dsimp only at d;replace d:=f▸d;exact cy d|some b=>dsimp only at d;rw[f]at d;exact cy d
    |lst r l=>unfold ir at d;induction f:shape k with
      |none=>dsimp only at d;replace d:=f▸d;exact cy d|some b=>refine bB (lJ A n f) λy z2=>g5.re (w:=Γ.w) (p:=p) (c:=.lst r l) g.f (λz9 e=>nomatch e) (λz9 z9 z9 e=>nomatch e) (λe=>w e y) (λz9 z9 e=>nomatch e) x
    |inst M H=>
      unfold ir at d;refine xO (shape k) (λf=>?_) λb f=>?_;·dsimp only at d;replace d:=f▸d;exact cy d
      · dsimp only at d;rw[f]at d;have I:b=ac:=by have :(b==ac)=ac:=d;simpa using this
        refine bB (lJ A n f) λy L=>g5.re (w:=Γ.w) (p:=p) (c:=.inst M H) g.f (λz9 e=>nomatch e) (λz9 z9 z9 e h=>by(injection e with e;subst e);exact qe.mono g h) (λe=>w e y) (λz9 z9 z9 e=>w e (L I)) x|ch v=>
      unfold ir at d;refine xO (shape k) (λf=>?_) λb f=>?_;·dsimp only at d;replace d:=f▸d;exact cy d
      · dsimp only at d;replace d:=f▸d;have I:b=s7 v:=by have :(b==s7 v)=ac:=d;simpa using this
        refine bB (lJ A n f) λy L=>aE x λc B x=>?_;have z:=A.ok v c B;refine⟨c,B,x.re g.f (λl e=>by(clear B x;subst e);exact z.2) (λC H es e h=>h.mono g) (λe=>w e y) λM H e F=>w F (L ?_)⟩;refine I.symm▸?_;(clear B x;subst e);exact(eL z.1).symm
abbrev JY(Γ:Cx)(sp:Spec)(dep:Nat):Prop:=dP Γ.K Γ.w Γ.Sm sp dep
theorem pS(cx:dh Γ)(hS:fa P Γ.Sm){sp:Spec}{dep:Nat}(hc:JY Γ sp dep){f:aq}{args:List V}{xs:List al}(hx:iR Γ.w q args xs){A:bc}{R:n4->ax->Prop}(hf:A.frames=aa Γ.frames)(hh:A.handled=Γ.hd)(hd:A.depth+4*dep<990)(hu:A.units+16*dep+200<9900)(I:SI Γ q ev cs s)(ht:0<s.toks)(h:ll sp Γ.lf f args cs Q X)(hQ:∀v x cs' q' w,Q v cs'->VR Γ.w q' v x->SI Γ q' ev cs' w->q.le q'->R (.ok (.ret x)) w)(hX:∀C e cs' q' w,X C cs'->jl Γ.K q'.g C w.heap e->SI Γ q' ev cs' w->q.le q'->R (.error e) w):codeAny (model pw Γ.w) A (.call (.ref f) ⟨xs,[]⟩) R s:=by
  refine DJ args h I hx λM c1 q1 ps h1 d=>xK λZ1 GL=>xG h1 λU h2=>aE I.ns λm hm z4=>?_;obtain⟨g1,Zf⟩:=q1;refine GL ?_;obtain rfl:Zf=q.ca:=d.ca;have L:=d.vh;have HI:=d.si.UO (ls:=dg M) hm;have B:jJ g1 (Dn s.heap m (dg M) Γ.L g1):=λa t e f=>yT e f;have T:∀{j:Nat}{c:Cell}{p:CA},(kY M)[j]?=aa c->ps[j]?=aa p->∃i,idx i (dg M)=aa j/\c1[i]?=aa c/\q.ca[i]?=aa p/\mh c=ac:=λ{j c p}y g=>by
    have hj:j<(dg M).length:=by refine L.len.1.symm▸(aP.mp y).1
    refine se (L.at (bg hj)) λk p' a1 a2 a3 a4 a5=>?_;rw[y]at a1;(injection a1 with a1;subst a1);replace a2:=g▸a2;(injection a2 with a2;subst a2);exact⟨_,xg U (bg hj),a3,a4,a5⟩
  refine hc Γ.rest _ Γ.frames Γ.hd Γ.lf f _ xs (kY M) ps (Dn s.heap m (dg M) Γ.L g1) A s _ _ R h2 hf hh hd hu cx.lf (λh e=>let⟨a,l,z⟩:=d.si.hc h e;(cM a l (z.mono B))) (λe he=>?_) (d.args.mono B) ⟨L.len.2,λj c p y g=>?_⟩ HI ht (λK v E w x h3 H S C t=>?_) (λK b l E w D Wp n h3 H S C hO hD hl=>?_) λC E w e h3 H S F=>?_
  · refine bB (cx.fr e he) λk1 z1=>aE z1 λa k2 k3=>⟨k1,a,?_⟩;rcases k3 with rfl|⟨m',k3⟩;·exact⟨m,k2,by unfold xe;refine d.si.loc.symm▸if_pos rfl⟩
    ·exact⟨m',k2,by unfold xe;refine(d.si.hs.kp _ _ k3).symm▸rfl⟩
  ·refine xP (T y g) λi hi a3 a4 a5=>wZ hS B a5 (λe=>Dm e hi) (d.si.cr i c p a3 a4)
  · refine xG h3 λZ O=>?_;dsimp only at O;refine rE O (λN O=>?_) λN O=>?_
    · rw[af,aX]at N;have Y:=N.1;rw[Y]at H S;let g2:Gh:=λa=>match xe s.heap m [] Γ.L q.g a with
        |aa k=>aa (.kp k)|ak=>E a;have Xe:∀{a k},xe s.heap m [] Γ.L q.g a=aa k->Meets w.heap a (.kp k)/\Γ.K.lookup a=ak:=λ{a k}e=>by
        refine aE (cG.mp (show(q.g a).bind _=aa k from e)) λu hu g=>?_;clear cx hc hx hf hh hd ht h1 h2 z4 HI B T Y;rcases d.tags a u hu with z|⟨⟨i,b,rfl⟩,o,z⟩;·exact H.tag _ _ (H.kp a k (by unfold xe;refine z.symm▸g))
        ·have w1:=H.tag _ _ (S _ _ (yT z rfl) rfl);have w2:s.heap.get? a=aa o:=d.si.iV z;have g:(s.heap.get? a).map i3.ob=aa k:=g;rw[w2]at g;(injection g with g;subst g);exact w1
      have gk:∀{a k},xe s.heap m [] Γ.L q.g a=aa k->g2 a=aa (.kp k):=λ{a k}e=>by show(match xe s.heap m [] Γ.L q.g a with|aa k=>aa (Tag.kp k)|ak=>E a)=_;exact e.symm▸rfl
      have gn:∀{a},xe s.heap m [] Γ.L q.g a=ak->g2 a=E a:=λ{a}e=>by show(match xe s.heap m [] Γ.L q.g a with|aa k=>aa (Tag.kp k)|ak=>E a)=_;exact e.symm▸rfl
      have H2:HS Γ.K Γ.rest (xe s.heap m [] Γ.L q.g) g2 w:=⟨H.rest,H.K,λa t e=>by
        refine xO (xe s.heap m [] Γ.L q.g a) (λhk=>?_) λk hk=>?_;·rw[gn hk]at e;exact H.tag a t e
        ·rw[gk hk]at e;(injection e with e;subst e);exact Xe hk,λa k e=>gk e⟩;have YW:jJ (Dn s.heap m [] Γ.L q.g) g2:=λa t e f=>by refine aE (cG.mp (show(q.g a).bind _=aa t from e)) λu hu e=>?_;clear cx hc hx hf hh hd ht h1 h2 z4 HI B T Y Xe gk;induction Dl e with
        |f f' e=>clear f';subst e;refine(gn (by unfold xe;rw[hu];exact Jk (h:=s.heap) (m:=m) (ls:=[]) (L:=Γ.L) (a:=a) f)).symm▸S _ _ (yT (d.le.f _ _ hu f) f) f|k k hk e=>replace f:=e▸f;exact cy f|c i j b e hi=>exact bn hi
      refine fi (I.back (cs':=cs) hm H2 YW rfl λi c p y g=>.inl ⟨rfl,y⟩) λJ l1 l2=>hQ v x cs _ w O (.iN (G9 N.2 t)) J l1
    ·have W:(⟨E,[]⟩:G).le ⟨kl g1 E,q.ca⟩:=⟨wO,λi p e=>by exact bn e⟩;refine fi (d.si.back (cs':=putAll (dg M) K c1) hm H S (q8 _ _ _) λi c p y g=>yw (q:=q) hS d U Z C W y g) λJ l1 l2=>hQ v x _ _ w O (.iN (TR.mono l2 _ _ t)) J (d.le.trans l1)
  ·refine xG h3 λZ O=>?_;have W:(⟨E,[]⟩:G).le ⟨kl g1 E,q.ca⟩:=⟨wO,λi p e=>by exact bn e⟩;refine fi (d.si.back (cs':=putAll (dg M) K c1) hm H S (q8 _ _ _) λi c p y g=>yw (q:=q) hS d U Z C W y g) λJ l1 l2=>J.jQ (r:=b) (l:=l) (n:=n) ⟨by show(match E D with|aa t=>cd (rW t) (aa t) (g1 D)|ak=>ak)=_;exact hO.g.symm▸rfl,hO.K⟩ hD (eA.mono l2 _ _ hl) λq' l3 J' v=>hQ _ _ _ q' w O v J' ((d.le.trans l1).trans l3)
  ·refine fi (d.si.back (cs':=jR (dg M) c1) hm H S (C7 _ _) λi c p y g=>(GK _ y).imp_right λh=>by(clear y;subst h);rfl) λJ l1 l2=>hX C e _ _ w h3 (F.out l2) J (d.le.trans l1)
end
structure Kw(P:PG)(Γ:Cx)(sp:Spec)(dep:Nat):Prop where
 kn:Kn P Γ
 DD:Γ.dep=dep+1
 call:JY Γ sp dep
section
variable{P:PG}{Γ:Cx}{q:G}{ev:Vs}{cs:Cs}{s:ax}{Q:V->Cs->Prop}{X:XP}{r:Wv}{sp:Spec}{dep:Nat}
theorem ou(k:Kw P Γ sp dep){f:aq}{args:List V}{xs:List al}(i:iR Γ.w q args xs)(h:ll sp Γ.lf f args cs Q X):cE Γ q ev cs (eg Γ.w) (call (.ref f) xs) Q X:=λA s l j a I g b c=>by have d:=a.depth;have u:=a.units;have e:=k.DD;exact iy (pS k.kn.cx k.kn.N7 k.call i a.frames a.hd (bD ‹_› ‹_›) (bU ‹_› ‹_›) I g h b c)
theorem SI.CK(I:SI Γ q ev cs s){C x c:aq}{h':bz}{tk:Nat}{o:dJ}{fs:Vs}{es:List ba}{n:Nat}{Z:Prop}(E:∀b o,s.heap.get? b=aa o->h'.get? b=aa o)(l:s.heap.get? x=ak)(m:s.heap.get? c=ak)(h:x≠c)(u:h'.get? x=aa o)(v:nP C c o)(w:h'.get? c=aa (dictOf es n))(r:qe Γ.w q fs es)(K:∀q',q.le q'->SI Γ q' ev (cs++[.inst C fs]) {s with heap:=h',toks:=tk}->VR Γ.w q' (.ptr cs.length) (.ref x)->Z):Z:=by
  have B:=I.fresh l;have D:=I.fresh m;let f:Gh:=upd (upd q.g c (.cell q.ca.length ac)) x (.cell q.ca.length ae);have d:f c=aa (.cell q.ca.length ac):=(cX h.symm).trans bv;have k:∀a t,q.g a=aa t->f a=aa t:=λa t e=>(cX λz=>by replace e:=B.g▸z▸e;exact bn e).trans ((cX λz=>by replace e:=D.g▸z▸e;exact bn e).trans e);have g:q.le ⟨f,q.ca++[(x,c)]⟩:=⟨λa t e z9=>k a t e,λi p e=>by refine(cR (aP.mp e).1).symm▸e⟩;refine K ⟨f,q.ca++[(x,c)]⟩ g ((I.grow (h':=h') (tk:=tk) E).put (p:=(x,c)) (c:=.inst C fs) k (λa t e=>?_) ⟨bv,d,o,es,n,u,v,w,r.mono g⟩) (uj.mk (x,c) (by refine I.len.symm▸tf _) rfl);by_cases y:a=x;·(clear l h g;subst y);(injection(bv.symm.trans e)with j;subst j);exact .inr ⟨⟨_,rfl⟩,⟨_,u⟩,B.K⟩
  · by_cases A:a=c;·(clear m h v g;subst A);(injection(d.symm.trans e)with j;subst j);exact .inr ⟨⟨_,rfl⟩,⟨_,w⟩,D.K⟩
    ·exact .inl ((cX A).symm.trans ((cX y).symm.trans e))
theorem Hj{args:List V}{xs:List al}{p:V×V}(c:iR Γ.w q args xs)(e:Rn args=aa p):∃v u,(xs=[v,u]\/xs=[v]/\u=.none)/\VR Γ.w q p.1 v/\VR Γ.w q p.2 u:=by induction args using ai with
 |nil=>exact bn e|cons a args=>cases c with|mk v i f d c=>subst f;induction args using ai with
  |nil=>(injection e with e;subst e);subst c;exact cM v .none ⟨.inr ⟨rfl,rfl⟩,d,rfl⟩|cons b args=>cases c with|mk u i g h c=>subst g;induction args using ai with
   |nil=>(injection e with e;subst e);subst c;exact cM v u ⟨.inl rfl,d,h⟩|cons=>exact bn e
theorem Fm(k:Kw P Γ sp dep){C:aq}{c:JX}(hk:P.cls C=aa c){args:List V}{xs:List al}(O:iR Γ.w q args xs)(h:A4 sp Γ.lf C c args cs Q X):cE Γ q ev cs (eg Γ.w) (call (.ref C) xs) Q X:=λA s QQ EE D I ht M hX=>by
 have F:=(k.kn.ok.cls C c hk).1;have d:=D.depth;have u:=D.units;have e:=k.DD;unfold A4 at h;refine xB (jT c.kind) (λg=>?_) λg=>?_;·
  rw[g]at h F;refine xG h λhl h=>iy (F A s xs _ I.hs.K (by refine O.len.symm▸aj hl) λA' x dx h' o Z Y ad au S i a L h4 h5 h6=>I.CK (tk:=s.toks) (fs:=[]) S i a L h4 h5 h6 rfl λq0 E U b=>?_);refine pS (f:=c.init) (args:=.ptr cs.length::args) (Q:=W1 c.kind (.ptr cs.length) Q) (X:=X) k.kn.cx k.kn.N7 k.call (bl.mk _ _ rfl b (iR.mono E O)) (Y.trans D.frames) (Z.trans D.hd) (Zh ‹_› ‹_› ‹_›) (Zg ‹_› ‹_› ‹_›) U ht h (λv y B H K i R w m=>?_) λT e B H K i hF w m=>hX T e B H K i hF w (E.trans m);refine xG i λn a=>?_;have N:v=.none:=by induction v using V.casesOn<;>first|rfl|exact cy n
  subst N;subst R;refine⟨rfl,?_⟩;have j:=b.mono m;induction f:c.kind with
  |keep=>replace a:=f▸a;exact M _ _ B H K a j w (E.trans m)|exc=>replace a:=f▸a;exact a.elim|plain=>replace a:=f▸a;exact f9 _ _ B _ H _ a w j λv' c2 q2 L l2 W t z9=>M _ _ c2 q2 K L (.iN t) W ((E.trans m).trans l2)
 ·rw[g]at h F;refine xW h λp ew h=>fY (Hj O ew) λv y hs N R=>iy (F A s xs v y _ I.hs.K (by lia) hs λh' x dx o t1 t2 i a n tk S n1 n2 n3 g1 g2 g3=>I.CK (fs:=[("what",p.1),("at",p.2)]) S n1 n2 n3 g1 g2 g3 (bl.mk _ _ rfl ⟨⟨_,rfl⟩,N⟩ (bl.mk _ _ rfl ⟨⟨_,rfl⟩,R⟩ rfl)) λq' l J z=>M _ _ _ q' _ h z J l)
theorem Bv(k:Kw P Γ sp dep){d:V}{f:al}{args:List V}{xs:List al}(i:VR Γ.w q d f)(g:iR Γ.w q args xs)(h:sW P sp Γ.lf d args cs Q X):cE Γ q ev cs (eg Γ.w) (call f xs) Q X:=by induction d using V.casesOn with
 |ref a=>
  subst i;unfold sW at h;refine xO (P.fn a) (λe=>?_) λF e=>?_;·dsimp only at h;replace h:=e▸h;refine xW h λc j h=>Fm k j g h
  ·dsimp only at h;rw[e]at h;exact ou k g h|bi b=>subst i;exact OS k.kn.ok.sys k.kn.cx.lf g h|_=>exact h.elim
def eR(Γ:Cx)(f:al):Prop:=∀(A:bc)(s:ax)(pos:gA)(first:List al)(args:List (Bool×j5 al))(Q:al->ax->Prop)(E:al->ax->Prop),args.any (·.1)=ae->wpAny (model pw Γ.w) A (evalArgs f ac args []) (λa s9=>Γ.K.In s9.heap/\wpAny (model pw Γ.w) A (call f (first++a.pos) a.kw) Q E s9) E s->wpAny (model pw Γ.w) A (callWith pos f first args []) Q E s
theorem ub{f:aq}(d:keepIn Γ.K (.ref f)=ac):eR Γ (.ref f):=λA s e a b Q E c h=>callWith_of (by simp[c]) (keeps_K d) h
theorem dq{id:String}:eR Γ (.builtin id):=λA s d a b Q E c h=>kb c (c7 h (λz9 z9 z=>z.2) λz9 z9 z=>z)
theorem zj{T:String}:eR Γ (.type T):=λA s d a b Q E c h=>mT c (c7 h (λz9 z9 z=>z.2) λz9 z9 z=>z)
theorem pz{f:al}{a:List al}{args:List aY}{pos m:gA}{D:List V->Cs->Prop}(w:eR Γ f)(J:noStar args=ac)(H:cE Γ q ev cs (iR Γ.w) (spliced (args.map λe=>(ae,eval e Γ.env))) D X)(h:∀v xs u n,D v u->iR Γ.w n v xs->q.le n->cE Γ n ev u (eg Γ.w) (call f (a++xs)) Q X):cE Γ q ev cs (eg Γ.w) (callWith pos f a (backTo m (starEach args Γ.env)) []) Q X:=by
 rw[fP J,gL];intro A s t i E I K N F;refine w A s pos a _ t i (by induction args with|nil=>rfl|cons e L T=>simp) ?_;have g:wpAny (model pw Γ.w) A (spliced (args.map λe=>(ae,eval e Γ.env))) (λxs d=>Γ.K.In d.heap/\wpAny (model pw Γ.w) A (call f (a++xs)) t i d) i s:=c7 (wpAny_toks (H A s (λxs d=>0<d.toks->Γ.K.In d.heap/\wpAny (model pw Γ.w) A (call f (a++xs)) t i d) i E I K (λv xs u n R M O B y S=>⟨B.hs.K,h v xs u n M O y A R t i E B S (λb x c q s k r I l=>N b x c q s k r I (y.trans l)) λC e c q s k f I l=>F C e c q s k f I (y.trans l)⟩) F)) (λz9 z9 z=>z.2 (bd K z.1)) λz9 z9 z=>z;clear J H;induction args using ai with
 |nil=>exactλo p j=>evalArgs_nil3 (g o p j) o p j|cons e L=>exact nX g
theorem r8(e:bo P Γ.K Γ.w){a:V}{x:al}(d:VR Γ.w q a x)(h:callable P a=ac):eR Γ x:=by induction a using V.casesOn with
 |ref f=>
  subst d;have h:((P.fn f).isSome||(P.cls f).isSome)=ac:=h;rw[aZ]at h;rcases h with h|h;·refine aQ (bu.mp h) λF c=>ub (e.tU _ _ c)
  ·refine aQ (bu.mp h) λF c=>ub (e.cls _ _ c).2.1|bi b=>subst d;induction b with
  |len=>exact dq|abs=>exact dq|any=>exact dq|zip=>exact cy h|_=>exact zj
 |_=>exact cy h
theorem Bw{f:aY}{args:List aY}{pos:gA}{j:V->Cs->Prop}(g:vO f=ak)(u:noStar args=ac)(t:cE Γ q ev cs (eg Γ.w) (eval f Γ.env) j X)(h:∀a x c b,j a c->VR Γ.w b a x->q.le b->∃d:List V->Cs->Prop,eR Γ x/\cE Γ b ev c (iR Γ.w) (spliced (args.map λe=>(ae,eval e Γ.env))) d X/\∀l xs k i,d l k->iR Γ.w i l xs->b.le i->cE Γ i ev k (eg Γ.w) (call x xs) Q X):cE Γ q ev cs (eg Γ.w) (eval (.Call f args [] pos) Γ.env) Q X:=by rw[show eval (.Call f args [] pos) Γ.env=(eval f Γ.env>>=λa=>callWith pos a [] (backTo pos (starEach args Γ.env)) [])from by induction f using be<;>first|rfl|exact us g];refine t.bind λa x c b p v w=>cz (h a x c b p v w) λd m n o=>pz m u n o
theorem Bx(k:Kw P Γ sp dep)(g:mN r Γ){f:aY}{args:List aY}{pos:gA}(d:vO f=ak)(b:gY args=ac)(h:r.E (Γ.ℓ ev) f cs (λa cs=>gd (callable P a) (kH r (Γ.ℓ ev) args cs (λj cs=>sW P sp Γ.lf a j cs Q X) X)) X):cE Γ q ev cs (eg Γ.w) (eval (.Call f args [] pos) Γ.env) Q X:=by
 have o:noStar args=ac:=by unfold gY at b;rw[af]at b;exact b.1
 refine Bw d o (g q ev f cs _ X h) λa x t w l i v=>?_;obtain⟨c,m⟩:=k7 l;exact⟨_,r8 k.kn.ok i c,m1 g args m,λj z u y n e p=>Bv k (i.mono p) e n⟩
def Tt(x:al):MK->al->List al->Prop
 |.fn f,g,first=>g=.ref f/\first=[x]|.bare f,g,first=>g=.ref f/\first=[]|.str s m,g,first=>(∃t,x=.str s t)/\g=.builtin (Pg m)/\first=[x]|.lst m,g,first=>g=.builtin (Qh m)/\first=[x]|.Tn,g,first=>g=.builtin "dict.get"/\first=[x]
theorem smOf_eq{n:ao}{m:SM}(h:KN n=aa m):(n="split"/\m=.split)\/(n="lower"/\m=.lower)\/(n="lstrip"/\m=.lstrip):=by unfold KN at h;induction a:ag n "split"with
 |true=>replace h:=a▸h;(injection h with h;subst h);exact .inl ⟨aI.mp a,rfl⟩|false=>induction b:ag n "lower"with
  |true=>replace h:=b▸a▸h;(injection h with h;subst h);exact .inr (.inl ⟨aI.mp b,rfl⟩)|false=>
   refine xB (ag n "lstrip") (λc=>?_) λc=>?_;·replace h:=c▸b▸a▸h;exact bn h
   ·replace h:=c▸b▸a▸h;(injection h with h;subst h);exact .inr (.inr ⟨aI.mp c,rfl⟩)
theorem lmOf_eq{n:ao}{m:LM}(h:Mg n=aa m):(n="append"/\m=.append)\/(n="reverse"/\m=.reverse)\/(n="remove"/\m=.remove)\/(n="index"/\m=.index):=by unfold Mg at h;induction a:ag n "append"with
 |true=>replace h:=a▸h;(injection h with h;subst h);exact .inl ⟨aI.mp a,rfl⟩|false=>induction b:ag n "reverse"with
  |true=>replace h:=b▸a▸h;(injection h with h;subst h);exact .inr (.inl ⟨aI.mp b,rfl⟩)|false=>induction c:ag n "remove"with
   |true=>replace h:=c▸b▸a▸h;(injection h with h;subst h);exact .inr (.inr (.inl ⟨aI.mp c,rfl⟩))|false=>
    refine xB (ag n "index") (λd=>?_) λd=>?_;·replace h:=d▸c▸b▸a▸h;exact bn h
    ·replace h:=d▸c▸b▸a▸h;(injection h with h;subst h);exact .inr (.inr (.inr ⟨aI.mp d,rfl⟩))
section meth
variable{x:al}{name:ao}{A:bc}{EE:al->ax->Prop}{pl:j5 Bool}{QQ:al×List al->ax->Prop}{R:MK->Prop}
theorem yG(e:bo P Γ.K Γ.w)(I:SI Γ q ev cs s){C:aq}{f:aq}{fs:Vs}{p:CA}{o:dJ}{es:List ba}{n:Nat}(h:P.meth C name=aa f)(k:cK P C=ae)(t:s.heap.get? p.1=aa o)(c:nP C p.2 o)(hd:s.heap.get? p.2=aa (dictOf es n))(d:∃q:G,qe Γ.w q fs es)(m:iv name fs=ak)(K:∀g a tk,Tt (.ref p.1) (.fn f) g a->eR Γ g->QQ (g,a) {s with toks:=tk}):wpAny (model pw Γ.w) A (getMethod (.ref p.1) name pl) QQ EE s:=by refine N3 (e.Je C name f h k) λu v w y=>?_;have i:InstAt s.heap p.1 o C (aa (dictOf es n)):=⟨t,c.cls,c.no,by refine c.dict.symm▸hd⟩;refine aQ (bu.mp (e.CU _ _ _ h)) λF l=>method_fn I.hs.K i u v w y ?_ (K _ _ s.toks ⟨rfl,rfl⟩ (ub (e.tU _ _ l)));show(lookIn name (dictOf es n)).map _=_;refine aQ d λB d=>aE (gW (name:=name) d) λz j b=>?_;replace b:=m▸b;cases b;rw[lookIn_dict,j];rfl
theorem CS(E:bo P Γ.K Γ.w)(I:SI Γ q ev cs s){u:V}(z:qf Γ q s u x)(h:sV P u name R)(K:∀m g i tk,R m->Tt x m g i->eR Γ g->QQ (g,i) {s with toks:=tk}):wpAny (model pw Γ.w) A (getMethod x name pl) QQ EE s:=by induction u using V.casesOn with
 |str c=>
  refine xW h λm e h=>?_;(refine aQ z λt j=>?_;subst j);rcases smOf_eq e with⟨rfl,rfl⟩|⟨rfl,rfl⟩|⟨rfl,rfl⟩;·exact GM.split (K _ _ _ s.toks h ⟨⟨t,rfl⟩,rfl,rfl⟩ dq)
  ·exact GM.lower (K _ _ _ s.toks h ⟨⟨t,rfl⟩,rfl,rfl⟩ dq)
  ·exact GM.lstrip (K _ _ _ s.toks h ⟨⟨t,rfl⟩,rfl,rfl⟩ dq)|inst C fs=>refine xG h λc h=>?_;rw[af,aL,dA]at c;refine xW h λf y h=>?_;(refine aE z λp j L=>?_;obtain⟨o,O,n,B,U,v,W⟩:=L;subst j);exact yG E I y c.2 B U v ⟨q,W⟩ c.1 λg i tk=>K _ g i tk h|lst l=>
  refine xW h λm e h=>?_;(refine aE z λa j L=>?_;obtain⟨xs,n,B,hl⟩:=L;subst j);have k:s.TypeIs (.ref a) "list":=⟨_,B,rfl⟩;have v:∀b,bZ a=.ref b->∃o,s.heap.get? b=aa o/\o.dict=ak:=λb z=>by(injection z with z;subst z);exact⟨_,B,rfl⟩
  rcases lmOf_eq e with⟨rfl,rfl⟩|⟨rfl,rfl⟩|⟨rfl,rfl⟩|⟨rfl,rfl⟩;·exact g7 k F.plainAttrs_list F.slot_list_append F.type_list_append v (K _ _ _ s.toks h ⟨rfl,rfl⟩ dq)
  ·exact g7 k F.plainAttrs_list F.slot_list_reverse F.type_list_reverse v (K _ _ _ s.toks h ⟨rfl,rfl⟩ dq)
  ·exact g7 k F.plainAttrs_list F.slot_list_remove F.type_list_remove v (K _ _ _ s.toks h ⟨rfl,rfl⟩ dq)
  ·exact g7 k F.plainAttrs_list F.slot_list_index F.type_list_index v (K _ _ _ s.toks h ⟨rfl,rfl⟩ dq)|dict l=>
  refine xG h λe h=>(aI.mp e).symm▸?_;(refine cz z λa j D L=>?_;subst j);have k:s.TypeIs (.ref a) "dict"/\∀b,bZ a=.ref b->∃o,s.heap.get? b=aa o/\o.dict=ak:=by induction D with
   |kind o N w h2 S=>induction S with
    |str Z e d=>exact⟨(gV w d).typeIs,(gV w d).mapOf.noDict⟩|int Z e d=>exact⟨(gV w d).typeIs,(gV w d).mapOf.noDict⟩
   |p8 xs z=>refine kB z λM O ep H J V9=>⟨⟨M,H,J.1⟩,λb z=>by(injection z with z;subst z);exact⟨M,H,J.2.1⟩⟩
  exact g7 k.1 F.plainAttrs_dict F.slot_dict_get F.type_dict_get k.2 (K _ _ _ s.toks h ⟨rfl,rfl⟩ dq)|ref C=>refine xW h λf y h=>?_;subst z;refine bB (E.Jf C name f y) λH j=>aE j λmc J Y=>aQ (bu.mp (E.CU _ _ _ y)) λF T=>method_cls I.hs.K H (cls_value I.hs.K J Y rfl (K _ _ _ _ h ⟨rfl,rfl⟩ (ub (E.tU _ _ T))))|_=>exact h.elim
theorem E1(j:bo P Γ.K Γ.w)(E:fa P Γ.Sm)(I:SI Γ q ev cs s){k:V}(d:VR Γ.w q k x)(h:uz P cs k name R)(K:∀m g a tk,R m->Tt x m g a->eR Γ g->QQ (g,a) {s with toks:=tk}):wpAny (model pw Γ.w) A (getMethod x name pl) QQ EE s:=by induction k using V.casesOn with
 |ptr i=>
  refine xW h λc l h=>?_;have b:sV P (seen (aa c)) name R->wpAny (model pw Γ.w) A (getMethod x name pl) QQ EE s:=λh=>by have z:=sy I d;rw[show view cs (.ptr i)=seen (aa c)from by show seen cs[i]?=_;exact l.symm▸rfl]at z;exact CS j I z h K
  induction c with
  |ch v=>refine xG h λt h=>xW h λf u h=>?_;cases d with|mk p L e=>subst e;refine aE (I.cr i _ p l L) λc w z=>bB (E.ok v c w) λy B=>?_;rw[t]at y;clear w;induction c with
   |inst C W=>(refine N2 B λD N O Y S=>?_;(clear O;subst D));(refine fi z λD Z T=>?_;obtain⟨o,U,n,J,H,F,M⟩:=T);exact yG j I u N J H F ⟨q,M⟩ (S name f u) λg a tk=>K _ g a tk h|lst=>exact nomatch y|_=>exact B.elim
  |lst=>exact b h|inst=>exact b h|dict=>exact b h|dead=>exact b h
 |_=>exact CS j I (sy I d) h K
end meth
end
section
variable{P:PG}{Γ:Cx}{q:G}{ev:Vs}{cs:Cs}{s:ax}{Q:V->Cs->Prop}{X:XP}{r:Wv}{sp:Spec}{dep:Nat}
theorem Hm(b:bo P Γ.K Γ.w){C:aq}(h:cK P C=ac):d7.contains C=ac:=by
 unfold cK at h;refine xO (P.cls C) (λa=>?_) λk a=>?_;·replace h:=a▸h;exact cy h
 ·replace h:=a▸h;refine(b.cls C k a).2.2.mpr ?_;induction q:k.kind with
  |exc=>rfl|plain=>dsimp only at h;replace h:=q▸h;exact cy h|keep=>dsimp only at h;replace h:=q▸h;exact cy h
theorem Fi(k:Kw P Γ sp dep){e:V}{x g:al}{a:List al}{m:MK}{n:List V}{xs:List al}(b:Tt x m g a)(i:VR Γ.w q e x)(d:iR Γ.w q n xs)(h:sj sp Γ.lf e m n cs Q X):cE Γ q ev cs (eg Γ.w) (call g (a++xs)) Q X:=by induction m with
 |fn f=>obtain⟨rfl,rfl⟩:=b;exact ou (args:=e::n) k (bl.mk x xs rfl i d) h|bare f=>obtain⟨rfl,rfl⟩:=b;exact ou k d h|str c m=>obtain⟨⟨t,rfl⟩,rfl,rfl⟩:=b;exact Fh d h|lst m=>obtain⟨rfl,rfl⟩:=b;refine xW h λl o h=>Bs i (asLst_eq o) d h|Tn=>obtain⟨rfl,rfl⟩:=b;unfold sj at h;cases j:view cs e with
  |dict l=>dsimp only at h;replace h:=j▸h;exact Kr k.kn.ok.sys i j d h|_=>dsimp only at h;replace h:=j▸h;exact h.elim
theorem kU{args:List aY}(a:gY args=ac)(env:Env)(pos:gA):methodCallForm (args.length+([]:List Keyword).length) (backTo pos (starEach args env)) (backToKw pos (keywordEach [] env))=ac:=by
 unfold gY at a;rw[af]at a;have f:args.length+1<=30:=aj a.2;rw[fP a.1,gL];unfold methodCallForm;have c:((args.map λe=>(ae,eval e env)).all (!·.1))=ac:=by rw[am];intro p b;(refine aE (aG.mp b) λe g d=>?_;(clear b;subst d));rfl
 refine c.symm▸?_;simp[keywordEach,backToKw];assumption
theorem zM(k:Kw P Γ sp dep)(n:mN r Γ){o:aY}{name:ao}{d pos:gA}{args:List aY}(E:jp o=ac)(c:gY args=ac)(H:(d.endLine==pos.line)=ac)(h:r.E (Γ.ℓ ev) o cs (λl cs=>uz P cs l name λm=>kH r (Γ.ℓ ev) args cs (λu cs=>sj sp Γ.lf l m u cs Q X) X) X):cE Γ q ev cs (eg Γ.w) (eval (.Call (.Attribute o name d) args [] pos) Γ.env) Q X:=by
 have J:noStar args=ac:=by dsimp only[gY]at c;rw[af]at c;exact c.1
 rw[arm_eval_Call,jP E];refine(n q ev o cs _ X h).bind λl x M R v t O=>.dS ?_;dsimp only[methodCall];rw[kU c];rw[show methodCallPos ac o Γ.env d pos=pure pos from by dsimp only[methodCallPos];refine H.symm▸rfl];intro A s QQ EE B I K C D;refine ah (bW ?_);dsimp only[calleeOf];refine(if_pos rfl).symm▸c7 (wpAny_toks (E1 (EE:=EE) (QQ:=λp b=>0<b.toks->wpAny (model pw Γ.w) A ((pure pos:j5 gA)>>=λa=>callWith a p.1 p.2 (backTo pos (starEach args Γ.env)) (backToKw pos (keywordEach [] Γ.env))) QQ EE b) k.kn.ok k.kn.N7 I t v λm g e T w F f i=>?_)) (λz9 z9 z=>z.2 (bd K z.1)) λz9 z9 z=>z;refine ah (aA ?_);exact pz f J (m1 n args w) (λu U N S y j L=>Fi k F (t.mono L) j y) A _ QQ EE B I.toks i C D
theorem nameOf_eq{e:aY}{x:ao}(h:nameOf e=aa x):∃p,e=.Name x p:=by induction e using be<;>(first|exact bn h|exact cy h|(injection h with h;subst h));exact⟨_,rfl⟩
theorem constS_eq{e:aY}{x:ao}(h:Ec e=aa x):∃k p,e=.Constant (.str x) k p:=by induction e using be with
 |Constant c k p=>induction c<;>(first|exact bn h|exact cy h|(injection h with h;subst h));exact cM _ _ rfl|_=>exact bn h
theorem callOf_eq{e:aY}{p:aY×List aY×List Keyword}(h:o8 e=aa p):∃pos,e=.Call p.1 p.2.1 p.2.2 pos:=by induction e using be<;>(first|exact bn h|exact cy h|(injection h with h;subst h));exact⟨_,rfl⟩
theorem callN_eq{e:aY}{p:ao×ao}(h:Eg e=aa p):∃p1 p2 n,e=.Call (.Name p.1 p1) [.Name p.2 p2] [] n:=by unfold Eg at h;induction g:o8 e with
 |none=>replace h:=g▸h;exact bn h|some c=>obtain⟨f,a,k⟩:=c;(refine aQ (callOf_eq g) λj l=>?_;subst l);replace h:=g▸h;dsimp only at h;induction d:nameOf f with
  |none=>replace h:=d▸h;exact bn h|some o=>replace h:=d▸h;dsimp only at h;clear g;induction i:one? a with
   |none=>replace h:=i▸h;exact bn h|some x=>
    replace h:=i▸h;dsimp only at h;refine xO (nameOf x) (λb=>?_) λt b=>?_;·replace h:=b▸h;exact bn h
    ·replace h:=b▸h;(refine bB (vE h) λm l=>?_;(clear h;subst l));obtain⟨p1,d⟩:=nameOf_eq d;obtain⟨p2,b⟩:=nameOf_eq b;exact dB p1 p2 j (d.symm▸(one_eq i).symm▸b.symm▸(aX.mp m).symm▸rfl)
theorem wb{a:Loc}{x:ao}{R b:V->Prop}(f:∀v,R v->b v):jn P a x R->jn P a x b:=by unfold jn;induction iv x a.env with
 |some v=>exact f v|none=>induction iv x a.sc.names with
  |none=>exact id|some k=>induction k with
   |globalImplicit=>dsimp only;induction P.glob x with
    |none=>exact id|some v=>exact f v
   |_=>exact id
theorem sT(g:bo P Γ.K Γ.w)(e:dh Γ){x:ao}{p:gA}{R:V->Prop}{A:bc}{QQ:al->ax->Prop}{EE:al->ax->Prop}(d:jh Γ A)(I:SI Γ q ev cs s)(b:0<s.toks)(h:jn P (Γ.ℓ ev) x R)(K:∀v y q' a,R v->VR Γ.w q' v y->SI Γ q' ev cs a->q.le q'->s.toks<=a.toks->QQ y a):wpAny (model pw Γ.w) A (eval (.Name x p) Γ.env) QQ EE s:=c7 (wpAny_toks (x4 (q:=q) (ev:=ev) (cs:=cs) (X:=λz9 z9=>False) (Q:=λv c=>R v/\c=cs) (p:=p) g e (wb (λv h=>⟨h,rfl⟩) h) A s (λy a=>s.toks<=a.toks->QQ y a) EE d I b (λv y c q' a h i J l b=>by(clear g e d I;obtain⟨h,rfl⟩:=h);exact K v y q' a h i J l b) (λz9 z9 z9 z9 z9 f=>f.elim))) (λz9 z9 z=>z.2 z.1) λz9 z9 z=>z
theorem tH{a:Loc}{x:ao}{R:V->Prop}(h:jn P a x R):∃v,R v/\jn P a x (·=v):=by revert h;dsimp only[jn];induction iv x a.env with
 |some v=>exactλh=>⟨v,h,rfl⟩|none=>induction iv x a.sc.names with
  |none=>exactλh=>h.elim|some k=>induction k with
   |globalImplicit=>dsimp only;induction P.glob x with
    |none=>exactλh=>h.elim|some v=>exactλh=>⟨v,h,rfl⟩
   |_=>exactλh=>h.elim
theorem Fj(k:Kw P Γ sp dep){o:aY}{w pos:gA}{args:List aY}(hp:(w.endLine==pos.line)=ac)(h:Iu P (Γ.ℓ ev) o args cs Q):cE Γ q ev cs (eg Γ.w) (eval (.Call (.Attribute o "replace" w) args [] pos) Γ.env) Q X:=by refine xK λZ1 m=>xW h λx Z h=>xW h λab e2 h=>xW h λa C h=>xW h λfy D h=>m ?_;(refine aQ (nameOf_eq Z) λp1 T=>?_;(clear Z;(clear m;subst T)));refine(two_eq e2).symm▸xK λZ2 J=>ej (constS_eq C) λkk p2 C=>pv (callN_eq D) λR S p D=>J ?_;refine C.symm▸D.symm▸xK λZ3 K=>?_;obtain⟨f,y⟩:=fy;refine aE (tH h) λov h l1=>aE (tH h) λE h l2=>aE (tH h) λyv h l3=>xW h λz ez h=>K ?_;induction E using V.casesOn with
 |bi b=>induction b with
  |str=>refine xK λZ4 L=>xW h λi ei h9=>xG h9 λc hq=>?_;clear h h9;simp only[af,aL]at c;refine bB c λn B=>bB n λT Y=>bB T λc1 c2=>?_;have Y:=aj Y;have B:=aj B;refine L ?_;rw[arm_eval_Call,jP rfl];intro A s QQ U F I ht hQ hX;refine ah (sT k.kn.ok k.kn.cx F I ht l1 λv xv q1 u h1 l W M t1=>ah (gh ?_));clear l1;subst h1;have d:=sy W l;replace d:=(asStr_eq ez)▸d;(refine aQ d λt n=>?_;(clear l d;subst n));dsimp only[methodCall];rw[kU rfl];refine(show methodCallPos ac (.Name x p1) Γ.env w pos=pure pos from by dsimp only[methodCallPos];refine hp.symm▸rfl).symm▸?_;refine ah (bW ?_);dsimp only[calleeOf];rw[if_pos rfl];refine GM.replace ?_;refine ah (aA ?_);dsimp only[fP (es:=[.Constant (.str a) kk p2,.Call (.Name f R) [.Name y S] [] p]) rfl,gL];show wpAny (model pw Γ.w) A (callWith pos (.builtin "str.replace") [.str z t] [(ae,eval (.Constant (.str a) kk p2) Γ.env),(ae,eval (.Call (.Name f R) [.Name y S] [] p) Γ.env)] []) QQ U u;refine kb rfl ?_;refine nX (spliced_cons (wpAny_Constant_str (spliced_cons ?_)));show wpAny (model pw Γ.w) A (eval (.Name f R) Γ.env>>=λE=>callWith p E [] (backTo p (starEach [.Name y S] Γ.env)) []) _ U _;refine ah ?_;refine sT k.kn.ok k.kn.cx F (W.toks (tk:=u.toks+1)) (Nat.succ_pos _) l2 λv fx q2 s2 h2 H I2 N t2=>?_;subst h2;subst H;refine mT rfl (nX (spliced_cons ?_));refine sT k.kn.ok k.kn.cx F I2 (bd (Nat.succ_pos _) t2) l3 λv yx q3 s3 h3 g I3 O t3=>?_;clear l3;subst h3;replace g:=(asInt_eq ei)▸g;(refine aQ g λty n=>?_;(clear g;subst n));refine spliced_nil ?_;refine PySem.P.str_of_int (qT c1) ?_;refine spliced_nil ?_;have j:=bd ht t1;have t4:u.toks<s3.toks:=bd (bd (bS _) t2) t3;refine SC.replace (u:=u.toks) (v:=s3.toks) (bX j) (bX (Nat.lt_trans j t4)) (bP t4) (beq_eq_false_iff_ne.mpr λe=>cy (c2.symm.trans (aI.mpr (show a=te i from e)))) ?_ λt' k'=>hQ (.str (Txt.replace z a (te i))) _ cs q3 _ hq ⟨_,rfl⟩ I3.toks (M.trans (N.trans O));have :(z.length+1)*(te i).length<=1001*600:=Nat.mul_le_mul (by omega) B;show z.length+(z.length+1)*(te i).length<=16777216;omega|_=>exact h.elim
 |_=>exact h.elim
theorem attrE_eq{f:aY}{p:aY×ao×gA}(h:vO f=aa p):f=.Attribute p.1 p.2.1 p.2.2:=by induction f using be<;>(first|exact bn h|exact cy h|(injection h with h;subst h));rfl
theorem Ft(k:Kw P Γ sp dep)(g:mN r Γ){f:aY}{args:List aY}{a:List Keyword}{pos:gA}(h:gd a.isEmpty (Ba P sp r (Γ.ℓ ev) f args pos cs Q X)):cE Γ q ev cs (eg Γ.w) (eval (.Call f args a pos) Γ.env) Q X:=by refine xG h λl h=>(aX.mp l).symm▸?_;dsimp only[Ba]at h;induction d:vO f with
 |some p=>
  rw[d]at h;obtain⟨o,b,m⟩:=p;refine(attrE_eq d).symm▸xG h λi h=>xB (ag b "replace") (λe=>?_) λe=>?_;·replace h:=e▸h;refine xG h λc h=>?_;rw[af]at c;exact zM k g c.1 c.2 i h
  ·replace h:=e▸h;cases aI.mp e;exact Fj k i h|none=>replace h:=d▸h;refine xG h λj h=>Bx k g d j h
end
section
variable{P:PG}{Γ:Cx}{q:G}{ev:Vs}{cs:Cs}{s:ax}
abbrev Og(Γ:Cx):List aq:=Γ.frames.filterMap (·.frame)
theorem SI.Va(I:SI Γ q ev cs s)(F:dh Γ){b:aq}(f:b∈Og Γ):b=Γ.L\/∃m,q.g b=aa (.kp (.ns m)):=by
 refine aE (List.mem_filterMap.mp f) λe g h=>bB (F.fr e g) λj i=>aE i λa d c=>?_;rw[h]at d;(injection d with d;subst d);rcases c with c|⟨m,c⟩;·exact .inl c
 ·exact .inr ⟨m,I.hs.kp _ _ c⟩
theorem SI.KD(I:SI Γ q ev cs s)(F:dh Γ){b:aq}(a:b∈Og Γ):q.g b=aa .loc\/∃m,q.g b=aa (.kp (.ns m)):=by
 rcases I.Va F a with h|h;·exact .inl (by refine h.symm▸I.loc)
 ·exact .inr h
theorem SI.soft{h':bz}{tk:Nat}(F:dh Γ)(I:SI Γ q ev cs s)(k:∀b o,¬Off Γ.K q.g b->b∉Og Γ->s.heap.get? b=aa o->h'.get? b=aa o)(ks:∀b o,¬Off Γ.K q.g b->s.heap.get? b=aa o->∃r,h'.get? b=aa {o with slots:=r}):SI Γ q ev cs {s with heap:=h',toks:=tk}:=by
 have n:∀{b t},q.g b=aa t->¬Off Γ.K q.g b:=λe f=>by rw[f.g]at e;exact bn e
 have h:∀{b t},q.g b=aa t->t≠.loc->(∀m,t≠.kp (.ns m))->∀o,s.heap.get? b=aa o->h'.get? b=aa o:=λ{b t}e R S o=>k b o (n e) λj=>by
  rcases I.KD F j with z|⟨m,z⟩;·rw[e]at z;(injection z with z;subst z);exact R rfl
  ·rw[e]at z;(injection z with z;subst z);exact S m rfl
 have w:∀{b t m},q.g b=aa t->s.heap.Ns b m->h'.Ns b m:=λ{b t m}e T=>hY T λo C B D E H J=>by refine aQ (ks b o (n e) D) λr g=>dB _ C B ⟨g,E,H,J⟩
 refine aE I.ns λm N K=>⟨⟨I.hs.rest,λa o e=>k a o (λf=>by rw[f.K]at e;exact bn e) (λj=>?_) (I.hs.K a o e),λa t e=>⟨?_,(I.hs.tag a t e).2⟩,I.hs.kp⟩,I.loc,⟨m,w I.loc N,λx v e=>(K x v e).to (.refl _) λc o L=>h (I.cl _ L).1 (λe=>nomatch e) (λz9 e=>nomatch e) o⟩,λp l=>⟨(I.cl p l).1,let⟨o,u,e,d⟩:=(I.cl p l).2;(cM o u ⟨h (I.cl p l).1 (λe=>nomatch e) (λz9 e=>nomatch e) _ e,d⟩)⟩,I.len,λi c p y A=>(I.cr i c p y A).to (.refl _) (λz9 z9 e=>e) (λb o e=>⟨I.iV e,h e (λe=>nomatch e) (λz9 e=>nomatch e) _ (I.iV e)⟩) (λa b o e=>h e (λe=>nomatch e) (λz9 e=>nomatch e) o),I.hc⟩;·have :q.g a=aa .loc\/∃m,q.g a=aa (.kp (.ns m)):=I.KD F j;rcases this with z|⟨m,z⟩<;>(rw[(I.hs.tag _ _ z).2]at e;exact bn e)
 ·have M:=(I.hs.tag a t e).1;induction t with
  |loc=>refine aQ M λo O=>?_;refine aQ (ks a o (n e) O) λr g=>⟨_,g⟩|kp Q=>induction Q with
   |ns m=>exact w e M|ob o=>exact h e (λe=>nomatch e) (λz9 e=>nomatch e) _ M
  |_=>exact M.keep (h e (λe=>nomatch e) (λz9 e=>nomatch e))
theorem nl(F:dh Γ)(I:SI Γ q ev cs s):∀l:List Env,(∀e∈l,e∈Γ.frames)->s.heap.FunFrames {} l
 |[],_=>trivial|e::l,h=>by
  refine bB (F.fr e (h e (.head _))) λc k=>aE k λa d b=>⟨c,⟨a,?_⟩,nl F I l λe g=>h e (.tail _ g)⟩;have :∃m,s.heap.Ns a m:=by
   rcases b with rfl|⟨m,b⟩;·refine aE I.ns λm i u=>⟨m,i⟩
   ·exact⟨m,(I.hs.tag _ _ (I.hs.kp _ _ b)).1⟩
  refine pt this λm o r p j f n=>⟨o,d,oU _,j,λt e=>by replace e:=f▸e;cases e⟩
theorem v6{A:bc}{Q:al->ax->Prop}{E:al->ax->Prop}(F:dh Γ)(o:jh Γ A)(I:SI Γ q ev cs s)(h:∀f h',Γ.env.frame=aa f->Heap.SlotsOnly (Og Γ) s.heap h'->Q (.ref f) {s with heap:=h'}):wpAny (model pw Γ.w) A (PySem.frameOf Γ.env) Q E s:=by
 refine c8 F.Re λm k c b=>?_;unfold PySem.frameOf;refine ah (wpAny_frameEnvs o.frames ?_);have i:(Γ.frames.dropWhile λx=>x.frame !=Γ.env.frame)=Γ.frames:=by(refine c.symm▸?_;dsimp only[List.dropWhile]);simp[b]
 refine i.symm▸?_;have r:=nl F I Γ.frames λe p=>p;obtain⟨f,j⟩:∃f,Γ.env.frame=aa f:=by refine bB (F.fr m (by refine c.symm▸.head _)) λl l=>aE l λa n t=>?_;exact⟨a,b.trans n⟩
 refine(show frameObject Γ.frames=(readyFrames Γ.frames>>=λz9=>pure (Γ.env.frame.map bZ))from by refine c.symm▸b.symm▸rfl).symm▸?_;refine ah (ah (wpAny_readyFrames_fun r λg d=>aA ?_));refine j.symm▸aA (h f g j d)
theorem dh.xh(F:dh Γ):∃f,Γ.env.frame=aa f:=by refine c8 F.Re λg d c b=>bB (F.fr g (by refine c.symm▸.head _)) λe e=>aE e λa h i=>?_;exact⟨a,b.trans h⟩
theorem SI.Gk(I:SI Γ q ev cs s)(F:dh Γ){a:aq}(b:Off Γ.K q.g a):a∉Og Γ:=λc=>by have :q.g a=aa .loc\/∃m,q.g a=aa (.kp (.ns m)):=I.KD F c;rcases this with z|⟨m,z⟩<;>(rw[b.g]at z;exact bn z)
def kg(e:al)(h:bz):Prop:=∃a o vs T,e=.ref a/\h.get? a=aa o/\o.data=.fields vs/\vs[1]?=aa (.ref T)
theorem fields_eq{o:dJ}{a:Array al}(h:o.data=.fields a)(f:Array al->Array al):g8 f o={o with data:=.fields (f a)}:=by obtain⟨c,d,data,b⟩:=o;dsimp only at h;subst h;rfl
theorem mw{h:bz}{a:aq}{o:dJ}{b:Array al}(c:h.get? a=aa o)(hd:o.data=.fields b)(f:Array al->Array al):(h.update a (g8 f)).get? a=aa {o with data:=.fields (f b)}:=by rw[dy _ c (by rw[fields_eq hd];rfl),fields_eq hd]
theorem uw{C:aq}{a T:aq}{o m:dJ}{f ts:Array al}{i:Nat}{x:al}{A:bc}{Q:Unit->ax->Prop}{E:al->ax->Prop}(I:SI Γ q ev cs s)(F:zB Γ.K q.g C s.heap a o f)(n:f[1]?=aa (.ref T))(g:T≠a)(j:s.heap.get? T=aa m)(k:m.data=.fields ts)(p:3<ts.size)(l:Off Γ.K q.g T)(t:i<ts.size)(h:∀h',SI Γ q ev cs {s with heap:=h'}->zB Γ.K q.g C h' a o f->Q () {s with heap:=h'}):wpAny (model pw Γ.w) A (setField (.ref T) i x) Q E s:=by
 refine jI j k t ?_;have c:∀b,b≠T->(s.heap.update T (g8 (·.setIfInBounds i x))).get? b=s.heap.get? b:=λb d=>cw _ _ (Ne.symm d);have r:=mw j k (·.setIfInBounds i x);refine h _ ?_ ?_;·exact I.off (tk:=s.toks) λb u d e=>by refine(c b λe=>d (by refine e.symm▸l)).symm▸e
 ·exact⟨by refine(c a g.symm).symm▸F.at_,F.exc,F.data,F.sz,F.off,.tb T _ _ n g r rfl (by simpa using p) l,F.cx⟩
theorem ux{C:aq}{a f:aq}{o:dJ}{T:Array al}{r:al}{j:Bool}{A:bc}{Q:Unit->ax->Prop}{E:al->ax->Prop}(X:dh Γ)(Z:jh Γ A)(I:SI Γ q ev cs s)(F:zB Γ.K q.g C s.heap a o T)(h:∀h',SI Γ q ev cs {s with heap:=h'}->jl Γ.K q.g C h' (.ref a)->kg (.ref a) h'->Q () {s with heap:=h'}):wpAny (model pw Γ.w) A (do let L<-PySem.frameOf Γ.env;let H<-entryPlaceOf f j;let b<-EntryCells.newEntry r L .none (rawInt f) .none H;setField (.ref a) 1 b) Q E s:=by
 refine ah (v6 X Z I λg c z9 D=>?_);refine ah (wpAny_entryPlaceOf λH O=>?_);delta EntryCells.newEntry newFields;refine ah (dU ?_ (O.sizeOk5 _ _ _ _ _));have M:a∉Og Γ:=I.Gk X F.off;have k:c.get? a=aa o:=(D.2.1 a M).trans F.at_;have x:c.objs.size≠a:=bX (bp k);have S:c.objs.size=s.heap.objs.size:=D.1;have L:Off Γ.K q.g c.objs.size:=I.fresh (by refine S.symm▸c9 _);generalize z:({cls:=.type "traceback",dict:=ak,data:=.fields ([r,.ref g,.none,rawInt f,.none]++(if H.isEmpty then List.replicate 6 eI else H)).toArray}:dJ)=p;have N:∃K,p.data=.fields K/\3<K.size:=by subst z;exact⟨_,rfl,by simp only[aT,aw,bH,kr];lia⟩
 have i:=ay (h:=c) p k;refine jI i F.data (by have :=F.sz;lia) ?_;have m:=mw i F.data (·.setIfInBounds 1 (bZ c.objs.size));have t:∀b w,b≠a->c.get? b=aa w->((c.push p).update a (g8 (·.setIfInBounds 1 (bZ c.objs.size)))).get? b=aa w:=λb w y e=>by rw[cw _ _ (Ne.symm y)];exact ay _ e
 have v:((c.push p).update a (g8 (·.setIfInBounds 1 (bZ c.objs.size)))).get? c.objs.size=aa p:=(cw _ _ (Ne.symm x)).trans (aO c (by(clear i;subst z);rfl));have J:=I.soft X (tk:=s.toks) (λb p y hf e=>t b p (λe=>y (by refine e.symm▸F.off)) ((D.2.1 b hf).trans e)) (λb p y e=>by refine aQ (D.2.2 b p e) λsl R=>⟨sl,t b _ (λe=>y (by refine e.symm▸F.off)) R⟩);refine kB F.exc λd Y n B V W=>aE N λK hd hz=>?_;have sz:=F.sz;have U:(T.setIfInBounds 1 (bZ c.objs.size))[1]?=aa (.ref c.objs.size):=by simp[show 1<T.size from by lia]
 refine h _ J ⟨a,_,_,rfl,m,(dB d Y n ⟨⟨B.cls,by have :=B.no;unfold notCls at this⊢;rfl,B.dict,B.slots⟩,V,W⟩),rfl,by simpa using sz,F.off,.tb c.objs.size _ K U x v hd hz L,let⟨u,l,q1,q2⟩:=F.cx;(cM u l ⟨(by rw[oj (by decide)];exact q1),q2⟩)⟩ (mS a _ _ c.objs.size ⟨rfl,m,rfl,U⟩)
theorem iq{C:aq}{e:al}{A:bc}{Q:Unit->ax->Prop}{E:al->ax->Prop}(X:dh Γ)(n:jh Γ A)(I:SI Γ q ev cs s)(F:jl Γ.K q.g C s.heap e)(h:∀h',SI Γ q ev cs {s with heap:=h'}->jl Γ.K q.g C h' e->kg e h'->Q () {s with heap:=h'}):wpAny (model pw Γ.w) A (noteFrame e Γ.env) Q E s:=by induction F with|mk a o t w b=>subst w;obtain⟨f,B⟩:=X.xh;dsimp only[noteFrame];simp only[B];induction b.tb with
 |no c=>refine ah (bF b.at_ b.data c ?_);rw[if_neg (by decide)];exact ux X n I b h|tb T H r c y l m k z=>
  refine ah (bF b.at_ b.data c ?_);rw[if_pos (show(bZ T !=eI)=ac from by simp)];have j:∃x,r[3]?=aa x:=⟨r[3],by simp[k]⟩;obtain⟨x,D⟩:=j;refine ah (bF l m D ?_);by_cases p:(x==rawInt f)=ac;·refine(if_pos p).symm▸aA (h s.heap I ⟨a,o,t,rfl,b⟩ (mS a o t T ⟨rfl,b.at_,b.data,c⟩))
  ·refine(if_neg p).symm▸ah (uw I b c y l m k z k λh' J u=>?_);exact ux (s:={s with heap:=h'}) X n J u λi v d g=>h i v d g
theorem eO{C:aq}{e:al}{n:Option aq}{A:bc}{Q:Unit->ax->Prop}{E:al->ax->Prop}(I:SI Γ q ev cs s)(F:jl Γ.K q.g C s.heap e)(v:kg e s.heap)(h:∀h',SI Γ q ev cs {s with heap:=h'}->jl Γ.K q.g C h' e->kg e h'->Q () {s with heap:=h'}):wpAny (model pw Γ.w) A (setFlight e n) Q E s:=by induction F with|mk a o l m b=>subst m;refine xL v λy z w x i c d j=>?_;(injection i with i;subst i);replace c:=b.at_▸c;(injection c with c;subst c);replace d:=b.data▸d;(injection d with d;subst d);induction b.tb with
 |no f=>replace j:=f▸j;exact nomatch j|tb T B D f p r t k u=>unfold setFlight;refine ah (bF b.at_ b.data f ?_);refine(if_pos (show(bZ T !=eI)=ac from by simp)).symm▸uw I b f p r t k u k λh' J g=>h h' J ⟨a,o,l,rfl,g⟩ (mS a o l T ⟨rfl,g.at_,g.data,f⟩)
theorem v5{C:aq}{e:al}{A:bc}{Q:Unit->ax->Prop}{E:al->ax->Prop}(X:dh Γ)(f:jh Γ A)(I:SI Γ q ev cs s)(F:jl Γ.K q.g C s.heap e)(h:∀h',SI Γ q ev cs {s with heap:=h'}->jl Γ.K q.g C h' e->Q () {s with heap:=h'}):wpAny (model pw Γ.w) A (leaving Γ.env e) Q E s:=by unfold leaving;refine ah (iq X f I F λh' J c g=>?_);exact eO (s:={s with heap:=h'}) J c g λb d a z9=>h b d a
end
section
variable{P:PG}{Γ:Cx}{q:G}{ev:Vs}{cs:Cs}{s:ax}{h':bz}{tk:Nat}{r:Wv}
theorem SI.XC{D:aq}{t:Tag}{ev':Vs}{m':ao->Option al}(I:SI Γ q ev cs s)(d:q.g D=aa t)(C:∀o,t≠.fz o)(B:∀i b,t≠.cell i b)(k:∀b o,b≠D->s.heap.get? b=aa o->h'.get? b=aa o)(z:Meets h' D t)(A:h'.Ns Γ.L m')(w:∀x v,ev'.lookup x=aa v->Bound Γ q m' h' x v)(y:∀p∈Γ.env.cells,∃o u,h'.get? p.2=aa o/\o.data=.cell u):SI Γ q ev' cs {s with heap:=h',toks:=tk}:=by
 have f:∀{a u},q.g a=aa u->u≠t->a≠D:=λe n h=>n (eL (e.symm.trans (h▸d)));refine⟨⟨I.hs.rest,λa o e=>k a o (λh=>by replace e:=((I.hs.tag _ _ d).2)▸h▸e;exact bn e) (I.hs.K a o e),λa u e=>⟨?_,(I.hs.tag a u e).2⟩,I.hs.kp⟩,I.loc,⟨m',A,w⟩,λp j=>⟨(I.cl p j).1,y p j⟩,I.len,λi c p l m=>(I.cr i c p l m).to (.refl _) (λz9 z9 e=>e) (λb o e=>⟨I.iV e,k _ _ (f e (C o).symm) (I.iV e)⟩) (λa b o e=>k a o (f e (B i b).symm)),I.hc⟩;by_cases g:a=D;·(clear f;subst g);replace e:=d▸e;(injection e with e;subst e);exact z
 ·exact(I.hs.tag a u e).1.keep λo=>k a o g
theorem kM(x y:ao)(v:V)(l:Vs):(kj x v l).lookup y=if y=x then aa v else l.lookup y:=by induction l with
  |nil=>
    show jj y [(x,v)]=_;dsimp only[aW];by_cases h:y=x;·subst h;rw[beq_self_eq_true,if_pos rfl]
    ·rw[show(y==x)=ae from by simpa using h,if_neg h]|cons p l c=>show jj y (cd (ag p.1 x) ((p.1,v)::l) (p::kj x v l))=_;induction a:ag p.1 x with
    |true=>
      have a:=aI.mp a;show jj y ((p.1,v)::l)=_;rw[aW,aW];by_cases h:y=x;·rw[if_pos h,show(y==p.1)=ac from by refine h.symm▸a.symm▸beq_self_eq_true x]
      ·rw[if_neg h,show(y==p.1)=ae from by refine a.symm▸?_;simpa using h]|false=>
      show jj y (p::kj x v l)=_;rw[aW,aW,c];by_cases h:y=p.1
      · rw[show(y==p.1)=ac from by refine h.symm▸beq_self_eq_true _];by_cases b:y=x;·rw[<-h,b,aI.mpr rfl]at a;exact mX a
        ·exact(if_neg b).symm
      ·rw[show(y==p.1)=ae from by simpa using h]
theorem uv(F:dh Γ){x:ao}{v:V}{u:al}{lf:Bool}{R:Vs->Prop}{A:bc}{Q:Unit->ax->Prop}{E:al->ax->Prop}(I:SI Γ q ev cs s)(hv:VR Γ.w q v u)(h:py ⟨ev,Γ.sc,lf⟩ x v R)(K:∀ev' s',R ev'->SI Γ q ev' cs s'->Q () s'):wpAny (model pw Γ.w) A (storeName Γ.env x u) Q E s:=by
  have H:(Γ.env.scope.kind==.class||(Γ.env.scope.kind==.module&&Γ.env.locals !=Γ.env.globals))=ae:=by refine F.kind.symm▸rfl
  refine xW h λk n h=>?_;rw[<-lkS_eq]at n;refine aE I.ns λm hm hb=>?_;induction k with
  |«local»=>
    have d:Γ.env.kindOf x=aa .local:=by
      rcases F.k x with z|⟨z,_⟩;·rw[z];exact n
      ·rw[n]at z;exact nomatch z
    refine wpAny_storeName_local d (by rw[F.loc];exact hm) (λh' f a=>?_) H;rw[F.loc]at f a;refine K _ _ h (I.store f (λb o j e=>(a.2 b j).trans e) λy w e=>?_);rw[kM]at e;by_cases l:y=x;·subst l;rw[if_pos rfl]at e;(injection e with e;subst e);exact .inl ⟨d,u,if_pos rfl,hv⟩
    · rw[if_neg l]at e;rcases hb y w e with⟨B,L,i,C⟩|⟨B,c,o,L,i,C,T,U⟩;·exact .inl ⟨B,L,(if_neg l).trans i,C⟩
      ·refine .inr ⟨B,c,o,L,i,(a.2 c λz=>?_).trans C,T,U⟩;have :=(I.cl _ (Bound.to.mem_of_lookup i)).1;replace this:=I.loc▸z▸this;exact nomatch this|cell=>
    have d:Γ.env.kindOf x=aa .cell:=by
      rcases F.k x with z|⟨z,_⟩;·rw[z];exact n
      ·rw[n]at z;exact nomatch z
    refine xO (Γ.env.cells.lookup x) (λD=>?_) λc D=>?_;·have :=F.ck x d;replace this:=D▸this;exact cy this
    · have g:=Bound.to.mem_of_lookup D;refine bB (I.cl _ g) λt M=>c8 M λo w O S=>wpAny_storeName_cell F.kind d D ⟨o,O,S⟩ λh' f a=>?_;have W:c≠Γ.L:=λz=>by replace t:=I.loc▸z▸t;exact nomatch t
      have X:∀p∈Γ.env.cells,p.2=c->p.1=x:=λp H e=>by have Z:=(I.cl p H).1;replace Z:=t▸e▸Z;cases Z;rfl
      refine aE f λo' Y q2=>K _ _ h (I.XC (tk:=s.toks) t (λz9 e=>nomatch e) (λz9 z9 e=>nomatch e) (λb o j e=>(a.2 b j).trans e) ⟨_,Y⟩ (hm.sameBut a (Ne.symm W)) (λy w e=>?_) λp H=>?_)
      · rw[kM]at e;by_cases l:y=x;·(clear n g t;subst l);rw[if_pos rfl]at e;(injection e with e;subst e);exact .inr ⟨d,c,o',u,D,Y,q2,hv⟩
        · rw[if_neg l]at e;rcases hb y w e with h|⟨B,N,o,L,i,C,T,U⟩;·exact .inl h
          ·exact .inr ⟨B,N,o,L,i,(a.2 N λz=>l (X (y,N) (Bound.to.mem_of_lookup i) z)).trans C,T,U⟩
      · by_cases J:p.2=c;·exact cM o' _ ⟨by refine J.symm▸Y,q2⟩
        ·refine bB (I.cl p H) λM M=>c8 M λo w O S=>cM o w ⟨(a.2 _ J).trans O,S⟩|_=>exact h.elim
def Binds(Γ:Cx)(x:ao)(f:al->j5 Unit):Prop:=∀(u:al)(A:bc)(Q:Unit->ax->Prop)(E:al->ax->Prop)(s:ax),wpAny (model pw Γ.w) A (storeName Γ.env x u) Q E s->wpAny (model pw Γ.w) A (f u) Q E s
theorem jY{x:ao}{p:gA}:Binds Γ x (assign (.Name x p) Γ.env):=λu A Q E s h=>wpAny_assign_Name h
theorem xu{x:ao}:Binds Γ x (bindName Γ.env x):=λu A Q E s h=>wpAny_bindName h
theorem vK{x:ao}:Binds Γ x (storeName Γ.env x):=λu A Q E s h=>h
theorem qi(F:dh Γ){x:ao}{v:V}{u:al}{lf:Bool}{f:al->j5 Unit}{Q:Unit->Vs->Cs->Prop}{Y:XS}(e:Binds Γ x f)(g:VR Γ.w q v u)(h:py ⟨ev,Γ.sc,lf⟩ x v λenv=>Q () env cs):ik Γ q ev cs wH (f u) Q Y:=λA s c b j I l d k=>e u A c b s (uv F I g h λa i h J=>d () () a cs q i h trivial J (.refl _))
theorem uJ(F:dh Γ)(es:List aY):∀{l:List V}{xs:List al}{fs:List (al->j5 Unit)}{q:G}{ev:Vs}{Q:Unit->Vs->Cs->Prop}{Y:XS},jO Γ.sc es l ev (λenv=>Q () env cs)->iR Γ.w q l xs->bG (λe f=>∀x,nameOf e=aa x->Binds Γ x f) es fs->ik Γ q ev cs wH (assignInOrder fs xs) Q Y:=by induction es with
 |nil=>intro l xs fs q ev Q Y h n a;subst a;refine xG h λp h=>ik.pure h trivial|cons e es z=>intro l xs fs q ev Q Y h n a;cases a with|mk f fs b a i=>subst b;induction l using ai with
  |nil=>exact h.elim|cons v l=>cases n with|mk y o b w j=>
   subst b;refine xW h λx u h=>?_;show ik Γ q ev cs wH (holding o (f y)>>=λz9=>assignInOrder fs o) Q Y;exact ik.bind (Q1:=λz9 d c=>c=cs/\jO Γ.sc es l d λenv=>Q () env cs) (.holding (qi F (a x u) w (show py ⟨ev,Γ.sc,ae⟩ x v (λenv=>cs=cs/\_)from by refine xW h λk m h=>?_;show wp _ _;refine m.symm▸?_;clear m;induction k with
    |«local»=>exact⟨rfl,h⟩|cell=>exact⟨rfl,h⟩|_=>exact h.elim))) λz9 z9 t B C g z9 A=>by(refine bB g λp g=>?_;(clear h;(clear h;subst p)));exact z g (iR.mono A j) i
theorem mY{g:eJ}(es:List aY):∀{l:List V}{ev:Vs}{R:Vs->Prop},jO g es l ev R->l.length=es.length/\∀e∈es,∃x p,e=.Name x p:=by induction es with
 |nil=>intro l ev R h;refine xG h λe o=>⟨?_,λz9 h=>nomatch h⟩;induction l using ai with
  |nil=>rfl|cons=>exact cy e
 |cons e es f=>intro l ev R h;induction l using ai with
  |nil=>exact h.elim|cons v l=>
   refine xW h λx m h=>xW h λk d h=>?_;have z:∃a,jO g es l a R:=by clear d;induction k with
    |«local»=>exact⟨_,h⟩|cell=>exact⟨_,h⟩|_=>exact h.elim
   refine aQ z λa z=>bB (f z) λc n=>⟨by exact bH.symm▸bH.symm▸c.symm▸rfl,λi b=>?_⟩;clear f d h z c;rcases aD.mp b with rfl|b;·refine aQ (nameOf_eq m) λp j=>cM x p j
   ·exact n i b
end
section
variable{w:aJ}{A:bc}{E:al->ax->Prop}
theorem E2{I:aq}{fp:List aq}{N:Nat}{PP:Nat->al->Prop}{St:Nat->bz->Prop}(W:Walks pw w A I fp [I] N PP St)(n:Nat):∀(i:Nat)(s:ax)(Q:List al->ax->Prop),St i s.heap->i+n<=N->(∀xs h' tk,xs.length=n->(∀(j:Nat)x,xs[j]?=aa x->PP (i+j) x)->St (i+n) h'->(∀b o,b≠I->s.heap.get? b=aa o->h'.get? b=aa o)->Q xs {s with heap:=h',toks:=tk})->wpAny (model pw w) A (draw (.ref I) n) Q E s:=by induction n with
 |zero=>exactλi s Q st z9 h=>aA (h [] s.heap s.toks rfl (λj x e=>by induction j using bN<;>exact bn e) st λz9 z9 z9 e=>e)|succ n y=>intro i s Q st p h;show wpAny _ _ (pyNext (.ref I)>>=_) Q E s;refine ah (W.item i s _ _ (by lia) st λv g d t a l=>?_);refine ah (bW (y (i+1) {s with heap:=g,toks:=d} _ a (nC p) λxs k f r u c m=>aA ?_));refine h (v::xs) k f (bH.symm▸r.symm▸rfl) (λj x e=>?_) (by refine(show i+(n+1)=i+1+n from by lia).symm▸c) λb o q e=>m b o q (l b o (λz=>q (aF.mp z)) e);induction j using bN with
  |zero=>(injection e with e;subst e);exact t|succ j=>have :=u j x e;refine(show i+(j+1)=i+1+j from by lia).symm▸this
theorem kC{a:aq}{items:List al}{s:ax}{Q:List al->ax->Prop}(hh:A.handled=ak)(c:s.heap.IsList a items.toArray\/s.heap.IsTuple a items.toArray)(h:∀h' tk,(∀b o,s.heap.get? b=aa o->h'.get? b=aa o)->Q items {s with heap:=h',toks:=tk}):wpAny (model pw w) A (unpackItems (.ref a) items.length ak) Q E s:=by
  have k:∀(I:aq)(o:dJ)(St:Nat->bz->Prop),I=s.heap.objs.size->a≠I->(∀p:bc,p.handled=ak->Walks pw w p I [I,a] [I] items.toArray.size (λi v=>items.toArray[i]?=aa v) St)->St 0 (s.heap.push o)->wpAny (model pw w) A (holding [.ref I] (draw (.ref I) items.length)>>=λg=>(do
        if g.length<items.length then rule "unpack.too-few";raiseError"ValueError"s!"not enough values to unpack (expected {items.length}, got {g.length})"
        if(<-holding g (pyNext (.ref I))).isSome then rule "unpack.too-many";raiseError"ValueError"s!"too many values to unpack (expected {items.length})"
        return g)) Q E {s with heap:=s.heap.push o}:=by
    intro I o St D J W st;refine ah (bW (E2 (W A hh) items.length 0 _ _ st (by simp) λg B u G y f m=>?_));have t:g=items:=by
      refine List.ext_getElem? λi=>?_;by_cases r:i<g.length;·have :=y i g[i] (bg r);rw[dk]at this;refine(bg r).symm▸this▸?_;simp
      ·(refine(List.getElem?_eq_none (ka r)).symm▸?_;rw[List.getElem?_eq_none (by lia)])
    clear G y;subst t;rw[if_neg (by lia)];rw[dk]at f;refine ah (bW ((W A hh).done _ _ _ (by simpa using f) λl j n=>?_));dsimp only[Option.isSome_none,cm,if_false];refine aA (h l j λb C e=>?_);have x:b≠I:=λz=>by rw[z,D]at e;rw[c9]at e;exact bn e
    exact n b C (λz=>x (aF.mp z)) (m b C x (ay _ e))
  dsimp only[unpackItems];refine ah ?_;dsimp only[notIterableAtAll];rcases c with c|c
  · refine ah (wpAny_specialOf c.typeIs slot_list_iter.lookup ?_);refine aA ?_;simp only[cm,if_false];have d:a≠s.heap.objs.size:=by refine aE c λo e H=>bP (bp e)
    refine ah (bW (wpAny_pyIter_list c ?_));exact k _ _ _ rfl d (λp q=>Walks.list q _ a d _) ⟨⟨_,aO _ rfl,rfl,rfl⟩,c.push _⟩
  · refine ah (wpAny_specialOf c.typeIs F.slot_tuple_iter.lookup ?_);refine aA ?_;simp only[cm,if_false];have d:a≠s.heap.objs.size:=by refine aE c λo e H=>bP (bp e)
    refine ah (bW (wpAny_pyIter_tuple c ?_));exact k _ _ _ rfl d (λp q=>Walks.tuple q _ a d _) ⟨⟨_,aO _ rfl,rfl,rfl⟩,c.push _⟩
end
section
variable{P:PG}{Γ:Cx}{q:G}{ev:Vs}{cs:Cs}{s:ax}{r:Wv}
inductive VS(Γ:Cx)(q:G)(s:ax)(l:List V)(x:al):Prop|mk(a:aq)(items:List al)(e:x=.ref a)(h:s.heap.IsList a items.toArray\/s.heap.IsTuple a items.toArray)(r:iR Γ.w q l items)
theorem yf{v:V}{x:al}{l:List V}(I:SI Γ q ev cs s)(d:VR Γ.w q v x)(h:B6 (view cs v)=aa l):VS Γ q s l x:=by have z:=sy I d;clear d;cases b:view cs v with
 |lst i=>rw[b]at h z;(injection h with h;subst h);obtain⟨a,rfl,c,n,g,f⟩:=z;exact⟨a,c,rfl,.inl (bV g),.wT f⟩|tup i=>rw[b]at h z;(injection h with h;subst h);obtain⟨a,c,n,e,m,r⟩:=z;exact⟨a,c,e,.inr ⟨_,I.iV m,rfl,n,rfl⟩,.wT r⟩|_=>replace h:=b▸h;exact bn h
theorem jG(env:Env):∀{es:List aY},(∀e∈es,∃x p,e=.Name x p)->assignEach es env=es.map λe=>(ae,assign e env)
 |[],_=>rfl|e::es,h=>by(refine ej (h e (.head _)) λx p b=>?_;subst b);show(ae,_)::assignEach es env=_;refine(jG env λe a=>h e (.tail _ a)).symm▸?_;rfl
theorem find_none(env:Env)(es:List aY):(es.map λe=>((ae,assign e env):Bool×(al->j5 Unit))).findIdx? (·.1)=ak:=by rw[List.findIdx?_eq_none_iff];intro p a;(refine aE (aG.mp a) λe c b=>?_;(clear a;subst b));rfl
theorem AK(Γ:Cx)(es:List aY):bG (λe f=>∀x,nameOf e=aa x->Binds Γ x f) es (es.map λe=>assign e Γ.env):=by induction es with
 |nil=>rfl|cons e es a=>exact bl.mk _ _ rfl (λx h=>by(refine aQ (nameOf_eq h) λp b=>?_;(clear h;subst b));exact jY) a
theorem zJ(F:dh Γ){es:List aY}{k:Nat}{pos:gA}{v:V}{x:al}{Q:Unit->Vs->Cs->Prop}{Y:XS}(o:VR Γ.w q v x)(h:gd (!Γ.lf) (wp (B6 (view cs v)) λl=>jO Γ.sc es l ev λenv=>Q () env cs)):ik Γ q ev cs wH (assign (.Tuple es k pos) Γ.env x) Q Y:=by
 intro A s m j n I H y B;refine xG h λi h=>xW h λl D h=>bB (mY es h) λg c=>?_;obtain⟨a,f,e,E,p⟩:=yf I o D;clear o;subst e;dsimp only[arm_assign_Tuple];refine ah (gh ?_);unfold unpack;(refine(jG Γ.env c).symm▸?_;rw[find_none,az,<-g,<-p.len]);have C:A.handled=ak:=by refine n.hd.symm▸F.lf.resolve_left λe=>by replace i:=e▸i;exact cy i
 refine ah (bW (c7 (wpAny_toks (kC (Q:=λu b=>0<b.toks->wpAny (model pw Γ.w) A (assignInOrder ((es.map λe=>((ae,assign e Γ.env):Bool×(al->j5 Unit))).map (·.2)) u) m j b) C E (λw t J=>?_))) (λu b z=>z.2 (bd H z.1)) λz9 z9 z=>z));exactλ(d:0<t)=>by refine iF.symm▸uJ F es h p (AK Γ es) A {s with heap:=w,toks:=t} m j n (I.grow J) d y B
end
section
variable{P:PG}{Γ:Cx}{q:G}{ev:Vs}{cs:Cs}{s:ax}{h':bz}{tk:Nat}{r:Wv}{Q:Unit->Cs->Prop}{X:XP}
theorem qe.kj{w:aJ}{name:ao}{v:V}{u:al}{hh:Int}{t:Tok}(g:VR w q v u){fs:Vs}:∀{es:List ba},qe w q fs es->qe w q (kj name v fs) (putL name hh (.str name t) u es):=by induction fs with
 |nil=>intro es h;subst h;exact bl.mk _ [] rfl ⟨⟨t,rfl⟩,g⟩ rfl|cons f fs k=>intro es h;cases h with|mk e r j b d=>subst j;obtain⟨⟨i,a⟩,b⟩:=b;show qe w q (cd (ag f.1 name) ((f.1,v)::fs) (f::Mine.Internal.kj name v fs)) _;dsimp only[putL];induction c:ag f.1 name with
  |true=>rw[if_pos (by rw[a];show(f.1==name)=ac;refine(aI.mp c).symm▸beq_self_eq_true _)];exact bl.mk _ r rfl ⟨⟨i,a⟩,g⟩ d|false=>rw[if_neg (by rw[a];intro e;have e:(f.1==name)=ac:=e;rw[aI.mpr (gz e)]at c;exact mX c)];exact bl.mk e _ rfl ⟨⟨i,a⟩,b⟩ (k d)
theorem Cu{k:List ao}{name:ao}{hh:Int}{t:Tok}{u:al}(m:qd name k=ac)(n:handedIn u=ac){a:List ba}:∀{es:List ba},JV k a es->(∃e∈es,e.key.isStr name=ac)->JV k a (putL name hh (.str name t) u es):=by induction a with
  |nil=>intro es h d;subst h;refine aE d λe d A=>?_;cases d|cons e r o=>
    intro es h d;refine qC h λg y v f p j=>?_;clear h;subst v;dsimp only[putL];by_cases b:g.key.isStr name=ac;·refine(if_pos b).symm▸cM _ y ⟨rfl,f,.inr ?_,j⟩;refine f▸?_;induction c:g.key with
      |str x z=>replace b:=c▸b;have :x=name:=gz b;subst this;exact⟨n,x,z,rfl,m⟩|_=>replace b:=c▸b;exact cy b
    · refine(if_neg b).symm▸cM g _ ⟨rfl,f,p,o j ?_⟩;refine aE d λw i l=>?_;clear m n o f p j d;rcases aD.mp i with rfl|i;·exact absurd l b
      ·exact⟨w,i,l⟩
theorem qe.some_get{w:aJ}{name:ao}{fs:Vs}{es:List ba}(h:qe w q fs es):(getL name es).isSome=ac:=by refine aE (gW (name:=name) h) λo e a=>e.symm▸rfl
set_option tactic.hygienic true in theorem DM{name:ao}{es:List ba}{u:al}(h:getL name es=aa (aa u)):∃e∈es,e.key.isStr name=ac:=by
 unfold getL at h;split at h;·rename_i e he;exact⟨e,ja he,List.find?_some (p:=λx:ba=>x.key.isStr name) he⟩
 · split at h<;>exact nomatch h
set_option tactic.hygienic true in theorem xk{es Hn:List ba}{n n':Nat}(h:dictOf es n=dictOf Hn n'):es=Hn:=by
 have h1:(dictOf es n).data=(dictOf Hn n').data:=by exact h.symm▸rfl
 simp only[dictOf,Data.dict.injEq]at h1;exact List.toArray_inj h1.1
theorem gx.has{w:aJ}{h:bz}{l:List (V×V)}{a:aq}(D:gx w h q l a):∃o,h.get? a=aa o:=by induction D with
 |kind o c b f i=>exact⟨o,b⟩|p8 j d g e f=>refine d0 d λo k m b n=>⟨o,b⟩
theorem SI.B5{C d:aq}{es f g:List ba}{n j E:Nat}{name:ao}{hh:Int}{t:Tok}{u:al}(I:SI Γ q ev cs s)(hd:q.g d=aa (ml C es n))(h:qd name (fG C)=ac)(k:∀b o,b≠d->s.heap.get? b=aa o->h'.get? b=aa o)(O:s.heap.get? d=aa (dictOf f j))(R:h'.get? d=aa (dictOf g E))(S:g=putL name hh (.str name t) u f)(T:∃e∈f,e.key.isStr name=ac)(hu:handedIn u=ac):SI Γ q ev cs {s with heap:=h',toks:=tk}:=by
 refine xK λZ1 A=>?_;have :∃D,ml C es n=.lo D es/\qd name D=ac:=by unfold ml;induction i:fG C using ai with
  |nil=>replace h:=i▸h;exact cy h|cons a r=>replace h:=i▸h;exact⟨_,rfl,h⟩
 refine aE this λD e Y=>?_;replace hd:=e▸hd;refine aE I.ns λm W U=>?_;have M:=(I.hs.tag _ _ hd).1;refine c8 M λy H B m2=>?_;replace B:=O▸B;refine A ?_;cases xk (eL B);have nL:Γ.L≠d:=λz=>by replace hd:=I.loc▸z.symm▸hd;exact nomatch hd
 have F:∀p∈Γ.env.cells,p.2≠d:=λp l z=>by have :=(I.cl p l).1;replace this:=hd▸z▸this;exact nomatch this
 refine I.XC hd (λz9 e=>nomatch e) (λz9 z9 e=>nomatch e) k (cM g E ⟨R,by rw[S];exact Cu Y hu m2 T⟩) (m':=m) ?_ (λx v e=>(U x v e).to (.refl _) λc o V=>k _ _ (F _ V)) λp l=>?_;·refine d0 W λo es N Z r=>dB o es N ⟨k _ _ nL Z,r⟩
 ·refine bB (I.cl p l) λJ J=>c8 J λo w K L=>cM o w ⟨k _ _ (F p l) K,L⟩
theorem wg(Z:bo P Γ.K Γ.w){z v:V}{x u:al}{name:ao}(T:VR Γ.w q z x)(W:VR Γ.w q v u)(h:setAt P name v z cs λcs=>Q () cs):cE Γ q ev cs wH (setAttr x name u) Q X:=.by λs I A hA L J K=>by induction z using V.casesOn with
 |ptr i=>
  refine xW h λc R h=>xW h λpf e1 h=>xG h λf h=>?_;rw[af]at f;rw[instOf_eq e1]at R;obtain⟨p,U,e⟩:=T;subst e;(refine fi (I.cr i _ p R U) λE F z1=>?_;obtain⟨o,M,n,N,O,h3,m⟩:=z1);have w:p.1≠p.2:=λe=>by rw[e,F]at E;exact nomatch E
  refine Z.set pf.1 name f.1 A s p.1 p.2 o M n u L J I.hs.K N O h3 m.some_get (by refine m.len.symm▸?_;have :=aj f.2;exact nT ‹_› rfl) λh' tk l Y j k H=>ej H λhh t y=>?_;subst y;exact K () () _ q _ h trivial (I.cell (tk:=tk) U F j ⟨_,k⟩ ⟨E,F,o,_,Y,j _ _ w N,O,k,m.kj W⟩) (.refl _)|inst C fs=>refine xW h λa hl h=>?_;induction a using V.casesOn with
  |any=>refine xG h λf h=>?_;rw[af,af]at f;obtain⟨a,d,o,M,n,e,hm,hi,S,hr,ha⟩:=T;subst e;refine c8 (sH (I.hs.tag _ _ S).1 ha hr) λb g q1 q2=>?_;have B:qe Γ.w q fs b:=qe.wU q2;refine aE (gW (name:=name) B) λX8 q4 D=>?_;replace D:=hl▸D;cases D with|some _=>refine Z.set C name f.1.2 A s a d o b g u L J I.hs.K (I.iV hm) hi q1 B.some_get (by refine B.len.symm▸?_;have :=aj f.2;exact nT ‹_› rfl) λh' tk l Y j k H=>ej H λhh t y=>?_;exact K () () cs q _ h trivial (I.B5 S f.1.1 j q1 k y (DM q4) W.handed) (.refl _)
  |_=>exact h.elim
 |_=>exact h.elim
theorem tj{A:bc}{l:aq}{xs:List al}{n:Nat}{k:Int}{t:Tok}{v:al}{Q:Unit->ax->Prop}{E:al->ax->Prop}(c:s.heap.get? l=aa (eo xs n))(e:0<=k)(a:k<2^63)(h:k<xs.length)(f:Q () {s with heap:=s.heap.update l (Obj.mapSeq (·.setIfInBounds k.toNat v))}):wpAny (model pw Γ.w) A (setItem (.ref l) (.int k t) v) Q E s:=by
 have b:=bV c;unfold setItem;try with_reducible refine bW ?_
 first|refine ah (aA ?_)|skip
 refine ah (wpAny_sequenceKey b.typeIs (by decide) ?_);refine ah (d8 (name:=iT "__setitem__") b.typeIs slot_list_setitem (ix slot_list_setitem b.typeIs entry_list_setitem ?_ (args_list_setitem _ _ _)));show wpAny _ _ (Builtin.List.listSubscript? (.int k t)>>=_) _ _ s;refine ah (wpAny_listSubscript_int (fitsIndex_of e a) ?_);clear a;obtain⟨j,rfl⟩:=Int.eq_ofNat_of_zero_le e;have g:j<xs.toArray.size:=by refine aT.symm▸nI h
 have d:xs.toArray[j]?=aa xs.toArray[j]:=Array.getElem?_eq_getElem g;show wpAny _ _ ((seqItemAt l j>>=λr=>pure (r.map (j,·)))>>=_) _ _ s;refine ah (ah (wpAny_seqItemAt c rfl (aA ?_)));refine d.symm▸?_;show wpAny _ _ (setSeqItemAt l j v>>=_) _ _ s;refine ah (wpAny_setSeqItemAt c rfl ?_);first
  |exact ah (aA (aA ⟨.none,rfl,aA f⟩))|exact aA ⟨.none,rfl,aA f⟩
theorem bG.set{b β:Type}{R:b->β->Prop}{l:List b}:∀{m:List β}{v:b}{u:β}(j:Nat),bG R l m->R v u->bG R (l.set j v) (m.set j u):=by induction l with
 |nil=>intro m v u j h _;subst h;exact rfl|cons a l g=>intro m v u j h d;cases h with|mk y i e f c=>subst e;induction j using bN with
  |zero=>exact bl.mk _ i rfl d c|succ j=>exact bl.mk y _ rfl f (g j c d)
theorem Hr{j:Nat}{p:CA}{l:List (V×V)}(I:SI Γ q ev cs s)(a:cs[j]?=aa (.dict l))(b:q.ca[j]?=aa p):q.g p.1=aa (.cell j ae)/\gx Γ.w s.heap q l p.1:=I.cr j _ p a b
theorem Am{k:V}{y:al}{c:Key}(I:SI Γ q ev cs s)(a:keyOf k=aa c)(b:VR Γ.w q k y):vR Γ.K Γ.w s.heap q k y:=by induction k using V.casesOn<;>first|exact b|exact bn a
theorem wf{W k v:V}{j:Nat}{x y u:al}(i:VR Γ.w q W x)(g:VR Γ.w q k y)(S:VR Γ.w q v u)(hj:nF W=aa j)(h:IL v k j cs λcs=>Q () cs):cE Γ q ev cs wH (setItem x y u) Q X:=.by λs I A hA QQ EE K=>by replace i:=(asPtr_eq hj)▸i;refine xW h λc N h=>?_;induction c with
 |lst L U=>refine xW h λn Y h=>?_;replace g:=(asInt_eq Y)▸g;(refine aQ g λt z1=>?_;subst z1);refine f9 v u cs _ q _ h I S λv' c1 q1 h1 T J tr z9=>ri J (i.mono T) h1 λp b l xs m w Z z f O B=>?_;subst Z;refine xG B λd B=>?_;rw[af]at d;have E:=of_decide_eq_true d.2;have Xf:=dc d.1;have R:=O.len;refine tj f E.1 (by omega) (by omega) ?_;refine K () () _ q1 _ B trivial (J.s4 (f:=(·.setIfInBounds n.toNat u)) w z f ?_) T;rw[Array.toList_setIfInBounds];exact eA.of (bG.set _ O.all tr)|dict l=>refine xW h λkk M h=>xG h λd h=>xW h λl' a h=>?_;cases i with|mk p w e=>
  subst e;refine bB (Hr I N w) λz D=>?_;have F:=D.face I M (Am I M g) λp t e=>by clear N D;subst e;unfold putK at a;induction C:kk.is p.1with
   |some b=>exact⟨b,rfl⟩|none=>dsimp only at a;replace a:=C▸a;exact bn a
  refine F.set hA S a d λh' tk H hs=>K () () _ q _ h trivial (I.cell (tk:=tk) w z (λb o C e=>(hs.2 b C).trans e) H.has ⟨z,H⟩) (.refl _)|_=>exact h.elim
theorem qI(S:bo P Γ.K Γ.w)(F:dh Γ)(f:mN r Γ){t:aY}{v:V}{u:al}{Q:Unit->Vs->Cs->Prop}{Y:XS}(d:VR Γ.w q v u)(h:lm P r (Γ.ℓ ev) t v cs (Q ()) Y):ik Γ q ev cs wH (assign t Γ.env u) Q Y:=by induction t using be with
 |Name x p=>exact qi F jY d h|Tuple W k b=>exact zJ F d h|Attribute o B b=>dsimp only[arm_assign_Attribute];refine cE.ms (.holding (f q ev o cs _ _ h)) λT x w C e l m=>.dS ?_;refine cE.ms (.holding (wg (Q:=λz9 c=>Q () ev c) S l (d.mono m) e)) λz9 z9 z D a z9 n=>λA s H E M I O g N=>wpAny_release (g () () ev z D s a trivial I (.refl _))|Subscript o i b=>refine xG h λz1 h=>?_;dsimp only[arm_assign_Subscript];refine cE.ms (.holding (f q ev o cs _ _ h)) λT x w C e l m=>cE.ms (.holding (f C ev i w _ _ e)) λk y z D a R n=>.dS ?_;refine xW a λj K a=>cE.ms (.holding (wf (Q:=λz9 c=>Q () ev c) (l.mono n) R ((d.mono m).mono n) K a)) λz9 z9 J U L z9 Z=>λA s H E M I O g N=>wpAny_release (g () () ev J U s L trivial I (.refl _))|_=>exact h.elim
end
def fS(w:aJ):G->Fl->Flow->Prop:=λq f x=>match f with
 |.next=>x=.next|.brk=>x=.brk|.cont=>x=.cont|.ret v=>∃u,x=.ret u/\VR w q v u
abbrev XD(r:Wv)(Γ:Cx):Prop:=∀(q:G)(ev:Vs)(st:dG)(cs:Cs)(Q:Fl->Vs->Cs->Prop)(X:XS),r.S (Γ.ℓ ev) st cs Q X->ik Γ q ev cs (fS Γ.w) (exec st Γ.env) Q X
abbrev sb(r:Wv)(Γ:Cx):Prop:=∀(q:G)(ev:Vs)(l:List dG)(cs:Cs)(Q:Fl->Vs->Cs->Prop)(X:XS),r.Ss (Γ.ℓ ev) l cs Q X->ik Γ q ev cs (fS Γ.w) (execs l Γ.env) Q X
section
variable{P:PG}{Γ:Cx}{q:G}{ev:Vs}{cs:Cs}{s:ax}{r:Wv}{Q:Fl->Vs->Cs->Prop}{X:XS}{α β:Type}
theorem fS.mono{w:aJ}{q q':G}(l:q.le q'){f:Fl}{x:Flow}(h:fS w q f x):fS w q' f x:=by induction f with
 |ret v=>refine aE h λu e a=>⟨u,e,a.mono l⟩|_=>exact h
theorem zK(j:XD r Γ)(e:sb r Γ){l:List dG}(h:xU r (Γ.ℓ ev) l cs Q X):ik Γ q ev cs (fS Γ.w) (execs l Γ.env) Q X:=by induction l using ai with
 |nil=>exact .pure h rfl
 |cons st a=>show ik Γ q ev cs (fS Γ.w) (exec st Γ.env>>=λf=>match f with
   |.next=>execs a Γ.env|f=>pure f) Q X;refine .bind (j q ev st cs _ _ h) λi x d g m c b o=>?_;induction i with
  |next=>subst b;exact e m d a g _ _ c|brk=>subst b;exact .pure c rfl|cont=>subst b;exact .pure c rfl|ret v=>(refine aE b λu n k=>?_;(clear b;subst n));exact .pure c ⟨u,rfl,k⟩
theorem qb(F:dh Γ):interactive Γ.env=ae:=by dsimp only[interactive];refine F.kind.symm▸rfl
theorem my{env:Env}{e:aY}{t:Option aY}{n:Nat}(h:rp e=ae):swapsWith e t n env=pure ae:=by induction e using be<;>first|rfl|exact mX h
theorem Bt(F:dh Γ)(b:mN r Γ){e:aY}{pos:gA}(h:gd (!rp e) (r.E (Γ.ℓ ev) e cs (λz9 cs=>Q .next ev cs) λC cs=>X C ev cs)):ik Γ q ev cs (fS Γ.w) (exec (.Expr e pos) Γ.env) Q X:=by refine xG h λd h=>?_;rw[exec_Expr Γ.env e pos (qb F) (my (by simpa using d))];refine .dS (cE.ms (b q ev e cs _ _ h) λv x i o a m n=>?_);exactλA s g f j I l c k=>wpAny_dropValue (c _ _ _ _ _ s a rfl I (.refl _))
theorem zL(b:mN r Γ){e:aY}{pos:gA}(h:r.E (Γ.ℓ ev) e cs (λv cs=>Q (.ret v) ev cs) λC cs=>X C ev cs):ik Γ q ev cs (fS Γ.w) (exec (.Return (aa e) pos) Γ.env) Q X:=by dsimp only[exec_Return_some];exact .dS (cE.ms (b q ev e cs _ _ h) λv x d g a c f=>.pure a ⟨x,rfl,c⟩)
theorem wh{pos:gA}(h:Q (.ret .none) ev cs):ik Γ q ev cs (fS Γ.w) (exec (.Return ak pos) Γ.env) Q X:=by dsimp only[exec_Return_none];exact .dS (.pure h ⟨.none,rfl,rfl⟩)
theorem Fk{pos:gA}(h:Q .next ev cs):ik Γ q ev cs (fS Γ.w) (exec (.Pass pos) Γ.env) Q X:=by dsimp only[exec_Pass];exact .dS (.pure h rfl)
theorem OR(g:NQ r Γ)(c:sb r Γ){t:aY}{a b:List dG}{pos:gA}(h:r.T (Γ.ℓ ev) t cs (λq cs=>br q (r.Ss (Γ.ℓ ev) a cs Q X) (r.Ss (Γ.ℓ ev) b cs Q X)) λC cs=>X C ev cs):ik Γ q ev cs (fS Γ.w) (exec (.If t a b pos) Γ.env) Q X:=by dsimp only[exec_If];refine .dS (cE.ms (g q ev t cs _ _ h) λb x d f e i j=>?_);subst i;induction b with
 |true=>exact c f ev a d _ _ e|false=>exact c f ev _ d _ _ e
theorem qD{C:aq}{e:al}{A:bc}{N:al->ax->Prop}(F:dh Γ)(a:jh Γ A)(I:SI Γ q ev cs s)(f:jl Γ.K q.g C s.heap e)(h:∀h',SI Γ q ev cs {s with heap:=h'}->jl Γ.K q.g C h' e->kg e h'->N e {s with heap:=h'}):notedBy (model pw Γ.w) A Γ.env N e s:=iq F a I f h
theorem kG{C:aq}{e:al}{A:bc}{N:al->ax->Prop}(I:SI Γ q ev cs s)(f:jl Γ.K q.g C s.heap e)(b:kg e s.heap)(h:∀h',SI Γ q ev cs {s with heap:=h'}->jl Γ.K q.g C h' e->kg e h'->N e {s with heap:=h'}):cameBackBy (model pw Γ.w) A Γ.env N e s:=by have c:=b;(refine xL b λa o k T j d g i=>?_;(clear b;subst j));dsimp only[cameBackBy];refine ah (bF d g i ?_);rw[if_neg (by simp)];exact eO I f c h
theorem ol{C:aq}{e:al}{A:bc}{N:al->ax->Prop}(F:dh Γ)(k:jh Γ A)(I:SI Γ q ev cs s)(f:jl Γ.K q.g C s.heap e)(h:∀h',SI Γ q ev cs {s with heap:=h'}->jl Γ.K q.g C h' e->N e {s with heap:=h'}):notedBy (model pw Γ.w) A Γ.env (cameBackBy (model pw Γ.w) A Γ.env N) e s:=qD F k I f λi a d c=>kG (s:={s with heap:=i}) a d c λj b g z9=>h j b g
theorem ik.use{rel:G->β->α->Prop}{t:j5 α}{Q:β->Vs->Cs->Prop}{A:bc}{QQ:α->ax->Prop}{EE:al->ax->Prop}(h:ik Γ q ev cs rel t Q X)(d:jh Γ A)(I:SI Γ q ev cs s)(c:0<s.toks)(g:∀b x ev' cs' q' a,Q b ev' cs'->rel q' b x->SI Γ q' ev' cs' a->q.le q'->0<a.toks->QQ x a)(f:∀C e ev' cs' q' a,X C ev' cs'->jl Γ.K q'.g C a.heap e->SI Γ q' ev' cs' a->q.le q'->EE e a):wpAny (model pw Γ.w) A t QQ EE s:=c7 (wpAny_toks (h A s (λx a=>0<a.toks->QQ x a) EE d I c g f)) (λz9 z9 z=>z.2 (bd c z.1)) λz9 z9 z=>z
theorem cE.zH{rel:G->β->α->Prop}{t:j5 α}{Q:β->Cs->Prop}{A:bc}{QQ:α->ax->Prop}{EE:al->ax->Prop}(h:cE Γ q ev cs rel t Q (λC cs=>X C ev cs))(g:jh Γ A)(I:SI Γ q ev cs s)(d:0<s.toks)(j:∀b x cs' q' a,Q b cs'->rel q' b x->SI Γ q' ev cs' a->q.le q'->0<a.toks->QQ x a)(i:∀C e ev' cs' q' a,X C ev' cs'->jl Γ.K q'.g C a.heap e->SI Γ q' ev' cs' a->q.le q'->EE e a):wpAny (model pw Γ.w) A t QQ EE s:=c7 (wpAny_toks (h A s (λx a=>0<a.toks->QQ x a) EE g I d j λC e c q s x f I l=>i C e ev c q s x f I l)) (λz9 z9 z=>z.2 (bd d z.1)) λz9 z9 z=>z
theorem Bl{sp:Spec}(F:dh Γ){k:Nat}{t:aY}{a b:List dG}{pos:gA}(hT:∀j,j<k->NQ (wv P sp j) Γ)(hS:∀j,j<k->sb (wv P sp j) Γ)(h:(wv P sp k).S (Γ.ℓ ev) (.While t a b pos) cs Q X):ik Γ q ev cs (fS Γ.w) (exec (.While t a b pos) Γ.env) Q X:=by
 intro A s QQ EE E I ht T Z;have hb:b=[]:=by induction k using bN with
  |zero=>exact h.elim|succ k=>exact aX.mp (k7 h).1
 subst hb;refine wpAny_While ?_;refine codeAny_whileLoop (λm W=>∃d i N,SI Γ N d i W/\0<W.toks/\q.le N/\m<=k/\(wv P sp m).S (Γ.ℓ d) (.While t a [] pos) i Q X) ?_ k (dB ev cs q ⟨I,ht,.refl _,a8 _,h⟩);rintro m W⟨d,i,N,J,U,K,L,H⟩;induction m using bN with
 |zero=>exact H.elim|succ j=>replace H:(wv P sp j).T (Γ.ℓ d) t i (λq cs=>br q ((wv P sp j).Ss (Γ.ℓ d) a cs (rj Q λR cs=>(wv P sp j).S (Γ.ℓ R) (.While t a [] pos) cs Q X) X) (Q .next d cs)) (λC cs=>X C d cs):=H;refine(hT j L N d t i _ _ H).zH E J U (λc x B O s1 D hx z y t1=>?_) λC e S B O s1 D f z y=>ol F E z f λn l f2=>Z C e S B O _ D f2 l (K.trans y);subst hx;induction c with
  |false=>refine(if_neg mW).symm▸mt (T .next _ d B O s1 D rfl z (K.trans y))|true=>refine(if_pos rfl).symm▸(hS j L O d a B _ _ D).use E z t1 (λfl f g o p Y n w l V t2=>?_) λC e g o p Y n f l V=>ol F E l f λh3 J3 f3=>Z C e g o p _ n f3 J3 ((K.trans y).trans V);have M:=(K.trans y).trans V;induction fl with
   |next=>subst w;exact⟨j,bS _,g,o,p,l,t2,M,dQ L,n⟩|cont=>subst w;exact⟨j,bS _,g,o,p,l,t2,M,dQ L,n⟩|brk=>subst w;exact T .next _ g o p Y n rfl l M|ret v=>(refine aE w λu z1 hv=>?_;(clear w;subst z1));exact T (.ret v) _ g o p Y n ⟨u,rfl,hv⟩ l M
end
abbrev lU(g:Gh):Option (aq×dJ)->Gh
 |ak=>g|aa p=>upd g p.1 (.fz p.2)
def EL(h h':bz)(wr:List aq)(new:Option (aq×dJ)):Prop:=∀p,new=aa p->h.get? p.1=ak/\h'.get? p.1=aa p.2/\p.1∉wr
structure Iter(w:aJ)(g:Gh)(l:List V)(I:aq)(wr:List aq)(St:Nat->bz->Prop)(T:aY):Prop where
 frame:∀i h h',St i h->(∀b∈wr,∀o,h.get? b=aa o->h'.get? b=aa o)->(∀a o,g a=aa (.fz o)->h.get? a=aa o->h'.get? a=aa o)->St i h'
 live:∀i h,St i h->∀b∈wr,∃o,h.get? b=aa o
 item:∀(A:bc)i(s:ax)v(Q:al->ax->Prop)(E:al->ax->Prop),A.handled=ak->l[i]?=aa v->St i s.heap->(∀x h' tk new,(∀b o,b∉wr->s.heap.get? b=aa o->h'.get? b=aa o)->St (i+1) h'->EL s.heap h' wr new->(jJ g (lU g new)->TR w (lU g new) v x)->Q x {s with heap:=h',toks:=tk})->wpAny (model pw w) A (pyNext (.ref I)) (λr s9=>∃x,r=aa x/\wpAny (model pw w) A (letOwnedTupleGo T (.ref I) x) (λz9 KF=>Q x KF) E s9) E s
 done:∀(A:bc)(s:ax)(Q:Option al->ax->Prop)(E:al->ax->Prop),A.handled=ak->St l.length s.heap->(∀h' tk,(∀b o,b∉wr->s.heap.get? b=aa o->h'.get? b=aa o)->Q ak {s with heap:=h',toks:=tk})->wpAny (model pw w) A (pyNext (.ref I)) Q E s
 self:∀(A:bc)i(s:ax)(Q:al->ax->Prop)(E:al->ax->Prop),A.handled=ak->St i s.heap->Q (.ref I) s->wpAny (model pw w) A (pyIter (.ref I)) Q E s
section
variable{w:aJ}{g:Gh}{s:ax}{A:bc}
theorem Iter.na{l:List V}{I:aq}{fp:List aq}{PP:Nat->al->Prop}{St:Nat->bz->Prop}{T:aY}(W:∀q:bc,q.handled=ak->Walks pw w q I fp [I] l.length PP St)(F:∀i v,PP i v->∃u,l[i]?=aa u/\TR w g u v)(n:∀b∈fp,b=I\/∃o,g b=aa (.fz o))(D:∀i h,St i h->∃o,h.get? I=aa o)(B:∀i h b o,St i h->b∈fp->b≠I->g b=aa (.fz o)->h.get? b=aa o)(y:∀(A:bc)i(p:ax)v(Q:Unit->ax->Prop)(E:al->ax->Prop),St i p.heap->Q () p->wpAny (model pw w) A (letOwnedTupleGo T (.ref I) v) Q E p):Iter w g l I [I] St T where
  frame:=λi h m st H J=>by
    have z:({handled:=ak}:bc).handled=ak:=rfl;refine(W _ z).frame i h m st λb j o e=>?_;by_cases a:b=I;·exact H b (by refine a.symm▸.head _) o e
    · rcases n b j with h|⟨K,t⟩;·exact absurd h a
      ·have :=B i h b K st j a t;rw[e]at this;(injection this with this;subst this);exact J _ _ t e
  live:=λi h st b j=>by cases aF.mp j;exact D i h st
  item:=λA i s v Q E d r st c=>by have C:i<l.length:=(aP.mp r).1;refine(W A d).item i s _ _ C st λx m M L f k=>⟨x,rfl,?_⟩;refine aE (F i x L) λu e G=>?_;rw[r]at e;(injection e with e;subst e);exact y A (i+1) _ x _ _ f (c x m M ak k f (λz9 h=>bn h) λz9=>G)
  done:=λA s Q E d st c=>(W A d).done s Q E st c
  self:=λA i s Q E d st c=>(W A d).self i s Q E st c
theorem rq{T:aY}{I:aq}{v:al}{o:dJ}{n:String}{f:Array al}{Q:Unit->ax->Prop}{E:al->ax->Prop}(d:s.heap.get? I=aa o)(b:o.cls=.type n)(hd:o.data=.fields f)(c:["enumerate","zip","dict_itemiterator","dict_reverseitemiterator","odict_iterator","itertools.zip_longest","itertools.pairwise"].contains n=ae)(h:Q () s):wpAny (model pw w) A (letOwnedTupleGo T (.ref I) v) Q E s:=by unfold letOwnedTupleGo;induction T using be with
 |Tuple e k p=>induction v with
  |ref a=>refine ah (wpAny_load d ?_);refine b.symm▸hd.symm▸?_;dsimp only;refine c.symm▸aA h|_=>exact aA h
 |List e p=>induction v with
  |ref a=>refine ah (wpAny_load d ?_);refine b.symm▸hd.symm▸?_;dsimp only;refine c.symm▸aA h|_=>exact aA h
 |_=>exact aA h
theorem eA.at{a:List V}:∀{xs:List al}{i:Nat}{x:al},eA w g a xs->xs[i]?=aa x->∃v,a[i]?=aa v/\TR w g v x:=by induction a with
 |nil=>intro xs i x h e;subst h;exact bn e|cons v a f=>intro xs i x h e;cases h with|mk y j b c d=>subst b;induction i using bN with
  |zero=>(injection e with e;subst e);exact⟨v,rfl,c⟩|succ i=>exact f d e
def pT(w:aJ)(g:Gh)(l:List V)(Q:al->ax->Prop)(s:ax):Prop:=∀o St,(∀T,Iter w g l s.heap.objs.size [s.heap.objs.size] St T)->St 0 (s.heap.push o)->Q (.ref s.heap.objs.size) {s with heap:=s.heap.push o}
theorem Ap{l:List V}{x:al}{Q:al->ax->Prop}{E:al->ax->Prop}(H:∀a o,g a=aa (.fz o)->s.heap.get? a=aa o)(I:TR w g (.lst l) x)(h:pT w g l Q s):wpAny (model pw w) A (pyIter x) Q E s:=by
  obtain⟨a,m,n,e,t,y⟩:=I;subst e;have f:=H _ _ t;have j:a≠s.heap.objs.size:=bP (bp f);refine wpAny_pyIter_list (bV f) (h _ (λi h=>h.IsListIter s.heap.objs.size a i/\h.get? a=aa (eo m n)) (λT=>?_) ⟨⟨_,aO _ rfl,rfl,rfl⟩,ay _ f⟩);refine Iter.na (fp:=[s.heap.objs.size,a]) (PP:=λi v=>m.toArray[i]?=aa v) (λK D=>?_) (λi v e=>?_) (λb d=>?_) (λi h st=>let⟨o,e,_⟩:=st.1;⟨o,e⟩) (λi h b o st d G r=>?_) λA i L v Q E st c=>?_;·have W:=Walks.list (prog:=pw) (w:=w) D s.heap.objs.size a j m.toArray;refine(show l.length=m.toArray.size from by exact aT.symm▸y.len.symm▸rfl).symm▸⟨W.sub,λi h q st k=>⟨(W.frame i h q ⟨st.1,bV st.2⟩ k).1,k a (by simp) _ st.2⟩,λi s Q E F st c=>W.item i s Q E F ⟨st.1,bV st.2⟩ λv q J p u k=>c v q J p ⟨u.1,k a _ (by simpa using j) st.2⟩ k,λs Q E st c=>W.done s Q E ⟨st.1,bV st.2⟩ c,λi s Q E st c=>W.self i s Q E ⟨st.1,bV st.2⟩ c⟩
  ·replace e:=kA▸e;exact y.at e
  · rcases aD.mp d with rfl|d;·exact .inl rfl
    ·cases aF.mp d;exact .inr ⟨_,t⟩
  · rcases aD.mp d with rfl|d;·exact absurd rfl G
    ·cases aF.mp d;replace r:=t▸r;cases r;exact st.2
  ·refine cz st.1 λo z B C=>rq z B C (by decide) c
theorem Da{l:List V}{x:al}{Q:al->ax->Prop}{E:al->ax->Prop}(F:∀a o,g a=aa (.fz o)->s.heap.get? a=aa o)(G:TR w g (.tup l) x)(h:pT w g l Q s):wpAny (model pw w) A (pyIter x) Q E s:=by
  obtain⟨a,j,n,e,u,z⟩:=G;subst e;have f:=F _ _ u;have m:a≠s.heap.objs.size:=bP (bp f);have q:∀{h:bz},h.get? a=aa (qH j n)->h.IsTuple a j.toArray:=λh=>⟨_,h,rfl,n,rfl⟩;refine wpAny_pyIter_tuple (q f) (h _ (λi h=>h.IsTupleIter s.heap.objs.size a i/\h.get? a=aa (qH j n)) (λT=>?_) ⟨⟨_,aO _ rfl,rfl,rfl⟩,ay _ f⟩);refine Iter.na (fp:=[s.heap.objs.size,a]) (PP:=λi v=>j.toArray[i]?=aa v) (λI B=>?_) (λi v e=>?_) (λb d=>?_) (λi h st=>let⟨o,e,_⟩:=st.1;⟨o,e⟩) (λi h b o st d D t=>?_) λA i J v Q E st c=>?_;·have W:=Walks.tuple (prog:=pw) (w:=w) B s.heap.objs.size a m j.toArray;refine(show l.length=j.toArray.size from by exact aT.symm▸z.len.symm▸rfl).symm▸⟨W.sub,λi h r st k=>⟨(W.frame i h r ⟨st.1,q st.2⟩ k).1,k a (by simp) _ st.2⟩,λi s Q E C st c=>W.item i s Q E C ⟨st.1,q st.2⟩ λv r H p y k=>c v r H p ⟨y.1,k a _ (by simpa using m) st.2⟩ k,λs Q E st c=>W.done s Q E ⟨st.1,q st.2⟩ c,λi s Q E st c=>W.self i s Q E ⟨st.1,q st.2⟩ c⟩
  ·replace e:=kA▸e;exact z.at e
  · rcases aD.mp d with rfl|d;·exact .inl rfl
    ·cases aF.mp d;exact .inr ⟨_,u⟩
  · rcases aD.mp d with rfl|d;·exact absurd rfl D
    ·cases aF.mp d;replace t:=u▸t;cases t;exact st.2
  ·exact letGo_tupleiter st.1 c
theorem Db{a:ao}{x:al}{Q:al->ax->Prop}{E:al->ax->Prop}(r:TR w g (.str a) x)(h:pT w g (chars a) Q s):wpAny (model pw w) A (pyIter x) Q E s:=by
  (refine aQ r λt m=>?_;(clear r;subst m));have d:∀(o:dJ)(n:String),o.cls=.type n->o.data=.fields #[.str a t,.int 0 0]->o={cls:=.type n,data:=.fields #[.str a t,.int 0 0]}->["enumerate","zip","dict_itemiterator","dict_reverseitemiterator","odict_iterator","itertools.zip_longest","itertools.pairwise"].contains n=ae->(∀c:bc,c.handled=ak->Walks pw w c s.heap.objs.size [s.heap.objs.size] [s.heap.objs.size] a.cps.size (SignAt a) (λi h=>h.IsStrIter s.heap.objs.size n a t i))->Q (.ref s.heap.objs.size) {s with heap:=s.heap.push o}:=by
    intro o n C D F l W;refine h o (λi h=>h.IsStrIter s.heap.objs.size n a t i) (λT=>?_) ⟨_,aO _ (by refine F.symm▸rfl),C,D⟩;refine Iter.na (fp:=[s.heap.objs.size]) (PP:=SignAt a) (λc f=>?_) (λi v e=>?_) (λb k=>?_) (λi h st=>let⟨o,e,_⟩:=st;⟨o,e⟩) (λi h b o st k l G=>absurd (aF.mp k) l) λA i H v Q E st B=>?_;·have :=W c f;rwa[show a.cps.size=(chars a).length from by simp[chars]]at this
    · (refine c8 e λp u j m=>?_;(clear e;subst m));refine⟨.str ⟨#[p]⟩,?_,u,rfl⟩;delta chars FF;refine jk.symm▸?_;have :a.cps.toList[i]?=aa p:=by refine Array.getElem?_toList.symm▸j
      refine this.symm▸rfl
    ·exact .inl (aF.mp k)
    ·refine cz st λo j y z=>rq j y z l B
  cases q:a.cps.all (·<128);·exact wpAny_pyIter_wide q (d _ _ rfl rfl rfl (by decide) λc f=>Walks.strWide f _ a t)
  ·exact wpAny_pyIter_ascii q (d _ _ rfl rfl rfl (by decide) λc f=>Walks.strAscii f _ a t)
theorem Dc{a b:Int}{x:al}{Q:al->ax->Prop}{E:al->ax->Prop}(D:∀a o,g a=aa (.fz o)->s.heap.get? a=aa o)(F:TR w g (.FY a b) x)(j:0<=a/\a<=1000000/\0<=b/\b<=1000000)(h:pT w g ((cU (b-a).toNat).map λi=>V.int (a+iX i)) Q s):wpAny (model pw w) A (pyIter x) Q E s:=by
  obtain⟨r,t,u,N,e,B⟩:=F;subst e;have l:=D _ _ B;have c:oi a b 1=((b-a).toNat:Int):=by
    unfold oi;rw[if_pos (by decide)];split;·rw[Int.ediv_one];lia
    ·lia
  have m:Builtin.Range.small a b 1=ac:=by obtain⟨K,p,q,y⟩:=j;unfold Builtin.Range.small;refine c.symm▸?_;simp only[Builtin.Range.rangeFitsLong,af,decide_eq_true_eq,aZ,gt_iff_lt,Int.zero_lt_one,if_true];refine⟨⟨⟨⟨⟨by exact Oe ‹_› rfl,by exact pU p rfl⟩,⟨by exact Oe ‹_› rfl,by exact pU y rfl⟩⟩,⟨by decide,by decide⟩⟩,⟨by lia,by lia⟩⟩,.inr ⟨by exact pL q rfl,by lia⟩⟩
  refine wpAny_pyIter_range l m ?_;refine c.symm▸h _ (λi h=>IsRangeIter h s.heap.objs.size (a+(i:Nat)*1) ((((b-a).toNat:Nat):Int)-(i:Nat)) 1) (λT=>?_) ?_
  · refine Iter.na (fp:=[s.heap.objs.size]) (PP:=λi v=>∃t,v=.int (a+i*1) t/\i<(b-a).toNat) (λJ z=>?_) (λi v e=>?_) (λb k=>?_) (λi h st=>⟨_,st⟩) (λi h b o st k C L=>absurd (aF.mp k) C) λA i M v Q E st f=>?_;·have W:=Walks.range (prog:=pw) (w:=w) z s.heap.objs.size a 1 (b-a).toNat;refine(show((cU (b-a).toNat).map λi=>V.int (a+iX i)).length=(b-a).toNat from by simp).symm▸⟨W.sub,W.frame,λi s Q E d st f=>W.item i s Q E d st λv n G H=>aQ H λt e=>f v n G ⟨t,e,d⟩,W.done,W.self⟩
    ·(obtain⟨t,I,d⟩:=e;subst I);refine⟨.int (a+iX i),?_,t,by rw[Int.mul_one];rfl⟩;rw[jk,List.getElem?_range d];rfl
    ·exact .inl (aF.mp k)
    ·exact rq st rfl rfl (by decide) f
  ·show _=_;rw[aO _ rfl];simp
theorem xQ{v:V}{x:al}{R:List V->Prop}{Q:al->ax->Prop}{E:al->ax->Prop}(e:∀a o,g a=aa (.fz o)->s.heap.get? a=aa o)(c:TR w g v x)(h:wItems v R)(K:∀l,R l->pT w g l Q s):wpAny (model pw w) A (pyIter x) Q E s:=by induction v using V.casesOn with
 |lst l=>exact Ap e c (K _ (k7 h).2)|tup l=>exact Da e c (K _ (k7 h).2)|str f=>exact Db c (K _ (k7 h).2)|FY a b=>refine xG h λd h=>Dc e c (of_decide_eq_true d) (K _ h)|_=>exact h.elim
end
noncomputable def Cx.keep(Γ:Cx)(h:bz)(wr:List aq):Cx:={Γ with kept:=λa=>if a∈wr then(h.get? a).map .ob else Γ.kept a}
noncomputable def mj(h:bz)(wr:List aq)(g:Gh):Gh:=λa=>if a∈wr then(h.get? a).map (λo=>.kp (.ob o))else g a
noncomputable def iP(wr:List aq)(g:Gh):Gh:=λa=>if a∈wr then ak else g a
theorem jl.to{K:bt}{g g':Gh}{C:aq}{h:bz}{e:al}(l:jJ g g')(k:∀a,g a=ak->g' a=ak)(F:jl K g C h e):jl K g' C h e:=by have b:∀{a},Off K g a->Off K g' a:=λx=>⟨k _ x.g,x.K⟩;induction F with|mk a o y e f=>
 refine⟨a,o,y,e,f.at_,?_,f.data,f.sz,b f.off,?_,?_⟩;·refine kB f.exc λd m n i j p=>dB d m n ⟨i,l _ _ j rfl,p⟩
 ·induction f.tb with
  |no e=>exact .no e|tb T s w e r k q v t=>exact .tb T s w e r k q v (b t)
 ·refine c8 f.cx λu c i j=>cM u c ⟨i,j.mono l⟩
section
variable{P:PG}{Γ:Cx}{q:G}{ev:Vs}{cs:Cs}{s:ax}{wr:List aq}{h:bz}
theorem jh.keep{A:bc}(x:jh Γ A):jh (Γ.keep h wr) A:=⟨x.frames,x.hd,x.depth,x.units⟩
theorem dh.keep(F:dh Γ)(j:∀b∈wr,Γ.kept b=ak):dh (Γ.keep h wr):=⟨F.glob,F.bi,F.kind,F.loc,F.k,F.ck,F.M2,F.Re,λe i=>by refine bB (F.fr e i) λd l=>aE l λa f g=>⟨d,a,f,g.imp_right λk=>aQ k λm c=>⟨m,?_⟩⟩;show(if a∈wr then _ else Γ.kept a)=_;refine(if_neg λz=>by rw[j a z]at c;exact bn c).symm▸c,F.lf⟩
theorem SI.tB(I:SI Γ q ev cs s)(c:∀b∈wr,Off Γ.K q.g b):∀b∈wr,Γ.kept b=ak:=λb a=>by induction e:Γ.kept b with
 |none=>rfl|some k=>have :=I.hs.kp b k e;rw[(c b a).g]at this;exact bn this
theorem rm{g:Gh}{a:aq}(b:a∉wr):mj h wr g a=g a:=if_neg b
theorem la{g:Gh}{a:aq}(b:a∉wr):iP wr g a=g a:=if_neg b
theorem SI.enter(I:SI Γ q ev cs s)(u:∀b∈wr,Off Γ.K q.g b)(n:∀b∈wr,∃o,s.heap.get? b=aa o):SI (Γ.keep s.heap wr) ⟨mj s.heap wr q.g,q.ca⟩ ev cs s/\q.le ⟨mj s.heap wr q.g,q.ca⟩:=by
  have g:∀{a t},q.g a=aa t->mj s.heap wr q.g a=aa t:=λe=>(rm λz=>by rw[(u _ z).g]at e;exact bn e).trans e;have j:q.le ⟨mj s.heap wr q.g,q.ca⟩:=⟨λa t e z9=>g e,λz9 z9 e=>e⟩;refine aE I.ns λm B A=>⟨⟨⟨I.hs.rest,I.hs.K,λa t e=>?_,λa k e=>?_⟩,g I.loc,⟨m,B,λx v e=>(A x v e).to j λz9 z9 z9 e=>e⟩,λp r=>⟨g (I.cl p r).1,(I.cl p r).2⟩,I.len,λi c p w y=>(I.cr i c p w y).to j (λa b e=>g e) (λb o e=>⟨I.iV e,I.iV e⟩) λz9 z9 z9 z9 e=>e,λh e=>let⟨a,l,z⟩:=I.hc h e;(cM a l (z.mono j.f))⟩,j⟩
  · by_cases d:a∈wr;·have e:(if a∈wr then(s.heap.get? a).map (λo=>Tag.kp (.ob o))else q.g a)=aa t:=e;rw[if_pos d]at e;refine aQ (n a d) λo f=>?_;rw[f]at e;(injection e with e;subst e);exact⟨f,(u a d).K⟩
    ·have e:mj s.heap wr q.g a=aa t:=e;rw[rm d]at e;exact I.hs.tag a t e
  · have e:(if a∈wr then(s.heap.get? a).map i3.ob else Γ.kept a)=aa k:=e;by_cases d:a∈wr;·rw[if_pos d]at e;refine aQ (n a d) λo f=>?_;rw[f]at e;(injection e with e;subst e);show(if a∈wr then(s.heap.get? a).map (λo=>Tag.kp (.ob o))else q.g a)=_;rw[if_pos d,f];rfl
    ·rw[if_neg d]at e;exact g (I.hs.kp a k e)
structure ul(Γ:Cx)(q:G)(ev:Vs)(cs:Cs)(s:ax)(h:bz)(wr:List aq):Prop where
 si:SI Γ ⟨iP wr q.g,q.ca⟩ ev cs s
 le:q.le ⟨iP wr q.g,q.ca⟩
 off:∀b∈wr,Off Γ.K (iP wr q.g) b
 same:∀b∈wr,∀o,h.get? b=aa o->s.heap.get? b=aa o
theorem SI.leave(I:SI (Γ.keep h wr) q ev cs s)(E:∀b∈wr,Γ.kept b=ak)(F:∀b∈wr,∃o,h.get? b=aa o):ul Γ q ev cs s h wr:=by
  have y:∀b∈wr,∃o,h.get? b=aa o/\q.g b=aa (.kp (.ob o)):=λb d=>by refine aQ (F b d) λo A=>⟨o,A,I.hs.kp b (.ob o) (by show(if b∈wr then(h.get? b).map i3.ob else Γ.kept b)=_;rw[if_pos d,A];rfl)⟩
  have w:∀{a t},q.g a=aa t->(∀o,t≠.kp (.ob o))->iP wr q.g a=aa t:=λ{a t}e n=>(la λz=>by refine aE (y a z) λo K g=>?_;rw[e]at g;(injection g with g;subst g);exact n o rfl).trans e;have u:q.le ⟨iP wr q.g,q.ca⟩:=⟨λa t e f=>w e λo z=>(by replace f:=z▸f;exact cy f),λz9 z9 e=>e⟩;refine aE I.ns λm H d=>⟨⟨⟨I.hs.rest,I.hs.K,λa t e=>?_,λa k e=>?_⟩,w I.loc (λz9 e=>nomatch e),⟨m,H,λx v e=>(d x v e).to u λz9 z9 z9 e=>e⟩,λp B=>⟨w (I.cl p B).1 (λz9 e=>nomatch e),(I.cl p B).2⟩,I.len,λi c p C D=>(I.cr i c p C D).to u (λa b e=>w e (λz9 e=>nomatch e)) (λb o e=>⟨I.iV e,I.iV e⟩) λz9 z9 z9 z9 e=>e,λh e=>let⟨a,l,z⟩:=I.hc h e;(cM a l (z.mono u.f))⟩,u,λb d=>⟨if_pos d,?_⟩,λb d o e=>?_⟩
  · have e:(if a∈wr then ak else q.g a)=aa t:=e;by_cases r:a∈wr;·rw[if_pos r]at e;exact bn e
    ·rw[if_neg r]at e;exact I.hs.tag a t e
  · have r:a∉wr:=λz=>by rw[E a z]at e;exact bn e
    exact(la r).trans (I.hs.kp a k (by show(if a∈wr then(h.get? a).map i3.ob else Γ.kept a)=_;rw[if_neg r];exact e))
  ·refine aE (y b d) λo j g=>(I.hs.tag _ _ g).2
  ·refine aE (y b d) λJ j g=>?_;rw[e]at j;(injection j with j;subst j);exact(I.hs.tag _ _ g).1
theorem jl.drop{C:aq}{e:al}{hh:bz}(L:ul Γ q ev cs s h wr)(F:jl Γ.K q.g C hh e):jl Γ.K (iP wr q.g) C hh e:=F.to L.le.f λa e=>by
 show(if a∈wr then ak else q.g a)=ak;by_cases b:a∈wr;·exact if_pos b
 ·refine(if_neg b).symm▸e
theorem SI.PC{e:ax}{a:Option (aq×dJ)}(I:SI Γ q ev cs s)(J:SI Γ q ev cs e)(j:EL s.heap e.heap wr a)(d:∀b∈wr,Off Γ.K q.g b):SI Γ ⟨lU q.g a,q.ca⟩ ev cs e/\q.le ⟨lU q.g a,q.ca⟩/\∀b∈wr,Off Γ.K (lU q.g a) b:=by induction a with
 |none=>exact⟨J,.refl _,d⟩|some p=>refine fi (j p rfl) λf g i=>?_;have o:=I.fresh f;exact⟨J.Ac o g,kT o,λb c=>⟨(cX (b:=b) (a:=p.1) λz=>i (by refine z▸c)).trans (d b c).g,(d b c).K⟩⟩
theorem sZ{g g':Gh}(l:jJ g g'):∀(b:Option (aq×dJ)),jJ (lU g b) (lU g' b)
 |ak=>l|aa p=>λa t e f=>by
  by_cases c:a=p.1;·subst c;exact bv.trans (bv.symm.trans e)
  ·exact(cX c).trans (l a t ((cX c).symm.trans e) f)
theorem Iter.step{w:aJ}{g:Gh}{A:bc}{l:List V}{I:aq}{e:Nat->bz->Prop}{T:aY}{i:Nat}{v:V}{K:Option al->ax->Prop}{Q:al->ax->Prop}{E:al->ax->Prop}(n:Iter w g l I wr e T)(hh:A.handled=ak)(t:l[i]?=aa v)(st:e i s.heap)(p:∀x c,wpAny (model pw w) A (letOwnedTupleGo T (.ref I) x) (λz9 a=>Q x a) E c->K (aa x) c)(h:∀x h' tk d,s.toks<=tk->(∀b o,b∉wr->s.heap.get? b=aa o->h'.get? b=aa o)->e (i+1) h'->EL s.heap h' wr d->(jJ g (lU g d)->TR w (lU g d) v x)->Q x {s with heap:=h',toks:=tk}):wpAny (model pw w) A (pyNext (.ref I)) K E s:=by refine c7 (wpAny_toks (n.item A i s v (λx a=>s.toks<=a.toks->Q x a) E hh t st λx h' tk d u j y m f=>h x h' tk d f u j y m)) (λr c k=>?_) λz9 z9 z=>z;obtain⟨f,x,rfl,k⟩:=k;exact p x c (c7 (wpAny_toks k) (λz9 a z=>z.2 (bC f z.1)) λz9 z9 z=>z)
abbrev Kept(Γ:Cx)(p:Cx->Prop):Prop:=∀h wr,(∀b∈wr,Γ.kept b=ak)->p (Γ.keep h wr)
theorem qJ{sp:Spec}{k:Nat}{T:aY}{l:List V}{body:List dG}{EM:aq}{Z:Nat->bz->Prop}{Q:Fl->Vs->Cs->Prop}{X:XS}(ok:bo P Γ.K Γ.w)(F:dh Γ)(hE:∀j,j<k->Kept Γ (mN (wv P sp j)))(hS:∀j,j<k->Kept Γ (sb (wv P sp j)))(It:Iter Γ.w q.g l EM wr Z T)(hh:Γ.hd=ak){A:bc}{QQ:Flow->ax->Prop}{EE:al->ax->Prop}(hA:jh Γ A)(I:SI Γ q ev cs s)(ht:0<s.toks)(hw:∀b∈wr,Off Γ.K q.g b)(st:Z 0 s.heap)(hn:(wv P sp k).For (Γ.ℓ ev) T l body cs Q X)(hQ:∀b x ev' cs' q' B,Q b ev' cs'->fS Γ.w q' b x->SI Γ q' ev' cs' B->q.le q'->QQ x B)(hX:∀C e ev' cs' q' B,X C ev' cs'->jl Γ.K q'.g C B.heap e->SI Γ q' ev' cs' B->q.le q'->EE e B):codeAny (model pw Γ.w) A (.forLoop T (.ref EM) body [] Γ.env) (λr B=>match r with|.ok f=>QQ f B|.error e=>cameBackBy (model pw Γ.w) A Γ.env EE e B) s:=by have Jt:A.handled=ak:=hA.hd.trans hh;have nk:=I.tB hw;refine codeAny_forLoop_any (λm B=>∃i ev' cs' q',SI Γ q' ev' cs' B/\(∀b∈wr,Off Γ.K q'.g b)/\Z i B.heap/\i<=l.length/\0<B.toks/\q.le q'/\m<=k/\(wv P sp m).For (Γ.ℓ ev') T (l.drop i) body cs' Q X) ?_ k (mS 0 ev cs q ⟨I,hw,st,dp _,ht,.refl _,a8 _,hn⟩);rintro m B⟨i,ev',cs',q',J,Jq,O6,hi,Js,hq,hm,he⟩;induction m using bN with
  |zero=>exact he.elim|succ j=>
    by_cases E:i<l.length
    · replace he:=(List.drop_eq_getElem_cons E)▸he;replace he:lm P (wv P sp j) (Γ.ℓ ev') T l[i] cs' (λD cs=>(wv P sp j).Ss (Γ.ℓ D) body cs (rj Q λD cs=>(wv P sp j).For (Γ.ℓ D) T (l.drop (i+1)) body cs Q X) X) X:=he;refine It.step Jt (bg E) O6 (λx s9 h=>h) λx H tk U MF k1 W k2 Jr=>?_;refine xK λZ1 GL=>?_;have V2:SI Γ q' ev' cs' {B with heap:=H,toks:=tk}:=J.off λb o hb e=>k1 b o (λz=>hb (Jq b z)) e;refine fi (J.PC V2 k2 Jq) λSp l2 R=>?_;have lv:=It.live (i+1) H W;refine bB (Sp.enter R lv) λId l3=>?_;have fl:jJ q.g (lU q.g U):=by clear Sp R;induction U with
        |none=>exactλz9 z9 e z9=>e|some p=>have o:=J.fresh (k2 p rfl).1;exact qG λt e f=>by have z:=hq.f _ _ e f;replace z:=o.g▸z;exact bn z
      have UX:=TR.mono l3.f _ _ (TR.mono (sZ hq.f U) _ _ (Jr fl));have back:∀{c g n}{d:ax},SI (Γ.keep H wr) n c g d->(⟨mj H wr (lU q'.g U),q'.ca⟩:G).le n->ul Γ n c g d H wr/\Z (i+1) d.heap:=λ{c g n d}K Y=>by have L:=K.leave nk lv;refine⟨L,It.frame _ H _ W L.same λa o e e'=>K.iV (Y.f _ _ (l3.f _ _ (l2.f _ _ (hq.f _ _ e rfl) rfl) rfl) rfl)⟩
      have out:∀{C:aq}{e:al}{c g n}{d:ax},X C c g->jl Γ.K n.g C d.heap e->SI (Γ.keep H wr) n c g d->(⟨mj H wr (lU q'.g U),q'.ca⟩:G).le n->notedBy (model pw Γ.w) A Γ.env (cameBackBy (model pw Γ.w) A Γ.env EE) e d:=λ{C e c g n d}h f K Y=>by refine bB (back K Y) λL z2=>ol F hA L.si (f.drop L) λh3 J3 f3=>hX C e c g _ _ h f3 J3 ((((hq.trans l2).trans l3).trans Y).trans L.le)
      refine GL ?_;refine(qI (Γ:=Γ.keep H wr) (Q:=λz9 D cs=>(wv P sp j).Ss (Γ.ℓ D) body cs (rj Q λD cs=>(wv P sp j).For (Γ.ℓ D) T (l.drop (i+1)) body cs Q X) X) ok (F.keep nk) (hE j hm H wr nk) (.iN UX) he).use hA.keep Id (bd Js MF) (λz9 z9 O c₁ Ll s9 S z9 M Y Kg=>?_) λC e O c₁ Ll s9 S f M Y=>out S f M Y;refine(hS j hm H wr nk Ll O body c₁ _ _ S).use hA.keep M Kg (λfl f c y n d w hf N l5 Bh=>?_) λC e c y n d w f N l5=>out w f N (Y.trans l5);refine bB (back N (Y.trans l5)) λL b3=>?_;have lA:=(((((hq.trans l2).trans l3).trans Y).trans l5).trans L.le);have hf:=fS.mono L.le hf;induction fl with
      |next=>subst hf;exact⟨j,bS _,i+1,c,y,_,L.si,L.off,b3,E,Bh,lA,dQ hm,w⟩|cont=>subst hf;exact⟨j,bS _,i+1,c,y,_,L.si,L.off,b3,E,Bh,lA,dQ hm,w⟩|brk=>subst hf;exact hQ .next _ c y _ d w rfl L.si lA|ret v=>(refine aE hf λu z3 hv=>?_;(clear hf;(clear hf;subst z3)));exact hQ (.ret v) _ c y _ d w ⟨u,rfl,hv⟩ L.si lA
    ·have UV:i=l.length:=Nat.le_antisymm hi (ka E);clear hi E;subst UV;replace he:=List.drop_length▸he;refine It.done A B _ _ Jt O6 λH tk k1=>mt (hQ .next _ ev' cs' q' _ he rfl (J.off λb o hb e=>k1 b o (λz=>hb (Jq b z)) e) hq)
end
section
variable{prog:Program}{w:aJ}{A:bc}{E:al->ax->Prop}{s:ax}
theorem nc{b l:aq}{i:Nat}{items}{x:al}{Q:al->ax->Prop}(a:s.heap.IsTupleIter b l i)(j:s.heap.IsTuple l items)(k:items[i]?=aa x)(g:∀h',h'.IsTupleIter b l (i+1)->ki b s.heap h'->Q x {s with heap:=h'}):
 wpAny (model prog w) A (bL (.ref b)) Q E s:=by refine cz (id a) λo d h c=>cz j λp f q m=>aQ m λn e=>?_;unfold bL;refine ah (d8 (name:=iT "__next__") a.typeIs F.slot_tuple_iterator_next (ix F.slot_tuple_iterator_next a.typeIs F.entry_tuple_iterator_next ?_ (F.args_tuple_iterator_next_1 _)));show wpAny _ _ (field (.ref b) 0>>=_) _ _ s;refine ah (bF d c (x:=.ref l) rfl ?_);show wpAny _ _ (if(bZ l==eI)=ac then _ else _) _ _ s;refine(if_neg (show¬((bZ l==eI)=ac)from mW)).symm▸?_;show wpAny _ _ (field (.ref b) 1>>=_) _ _ s;refine ah (bF d c (x:=.int i 0) rfl ?_);show wpAny _ _ (seqItems? (.ref l)>>=_) _ _ s;refine ah (dF f e ?_);simp only[Int.toNat_natCast,k];refine ah (jI d c (by simp) (aA ⟨x,rfl,aA (g _ ?_ (Heap.SameBut.update ..))⟩));exact⟨_,dy _ d (Obj.isFreed_of_fields (Obj.data_mapFields c _)),(Obj.cls_mapFields ..).trans h,by rw[Obj.data_mapFields c];simp[rawInt]⟩
theorem oI{b l:aq}{i:Nat}{items}{Q:al->ax->Prop}(hh:A.handled=ak)(a:s.heap.IsTupleIter b l i)(j:s.heap.IsTuple l items)(k:items[i]?=ak)(h:∀h' e,Heap.ExtBut b s.heap h'->(∃o,h'.get? e=aa o/\o.cls=.type "StopIteration")->E (.ref e) {s with heap:=h'}):wpAny (model prog w) A (bL (.ref b)) Q E s:=by
 refine cz (id a) λo f n c=>cz j λq g r m=>aQ m λp d=>?_;unfold bL;refine ah (d8 (name:=iT "__next__") a.typeIs F.slot_tuple_iterator_next (ix F.slot_tuple_iterator_next a.typeIs F.entry_tuple_iterator_next ?_ (F.args_tuple_iterator_next_1 _)));show wpAny _ _ (field (.ref b) 0>>=_) _ _ s;refine ah (bF f c (x:=.ref l) rfl ?_);show wpAny _ _ (if(bZ l==eI)=ac then _ else _) _ _ s;refine(if_neg (show¬((bZ l==eI)=ac)from mW)).symm▸?_;show wpAny _ _ (field (.ref b) 1>>=_) _ _ s;refine ah (bF f c (x:=.int i 0) rfl ?_);show wpAny _ _ (seqItems? (.ref l)>>=_) _ _ s;refine ah (dF g d ?_);simp only[Int.toNat_natCast,k];refine ah (wpAny_rule (ah (jI f c (by simp) ?_)));show wpAny _ _ (newExc (.type "StopIteration") []>>=_) _ _ _;refine ah ?_;simp only[newExc,newTuple];refine ah (dU ?_ (by size_fits));refine ah (m:=firstArgMember _ _) (wpAny_of_eq (a:=eI) (by first|rfl|(dsimp only[firstArgMember];rfl)) ?_);refine dU ?_ (by size_fits);dsimp only[raiseNew];refine ah (wpAny_handled ?_);first|refine(show A.in1.handled=ak from hh).symm▸?_|rw[hh]
 refine ah (aA (wpAny_throw ?_));exact h _ _ (((Heap.SameBut.update ..).extBut.push _).push _) ⟨_,aO _ rfl,rfl⟩
theorem rz(hh:A.handled=ak)(c l:aq)(d:l≠c)(items:Array al):Draws prog w A c [c,l] items.size (λi v=>items[i]?=aa v) (λi h=>h.IsTupleIter c l i/\h.IsTuple l items)where
 live:=λz9 z9 st=>let⟨o,n,_⟩:=st.1;⟨o,n⟩
 frame:=λz9 z9 z9 st g=>⟨st.1.at λo e=>g c (by simp) o e,st.2.at λo e=>g l (by simp) o e⟩
 item:=λi s Q E f st m=>by refine nc st.1 st.2 (x:=items[i]) (by simp[f]) λj a b=>m _ j s.toks (by simp[f]) ⟨a,st.2.extBut b.extBut d⟩ b
 done:=λs Q E st k=>oI hh st.1 st.2 (by simp) k
structure Apart(z TI TO i1 i2:aq)(Jx Jw:List aq):Prop where
 TIz:TI≠z
 TOz:TO≠z
 TITO:TI≠TO
 TIi1:TI≠i1
 TIi2:TI≠i2
 i1z:i1≠z
 i2z:i2≠z
 TOi1:TO≠i1
 TOi2:TO≠i2
 f1:z∉Jx/\TO∉Jx/\i2∉Jx
 f2:z∉Jw/\TO∉Jw/\i1∉Jw
variable{z TI TO i1 i2:aq}{Jx Jw:List aq}{n1 n2:Nat}{P1 P2:Nat->al->Prop}{Ia EY:Nat->bz->Prop}
theorem zD(hh:A.handled=ak)(D:Apart z TI TO i1 i2 Jx Jw)(K:Draws prog w A i1 Jx n1 P1 Ia)(L:Draws prog w A i2 Jw n2 P2 EY){k:Nat}{a b:al}{Q:Fin->ax->Prop}(B:n6 s.heap z TI TO .none)(O:gt s.heap TI (.ref i1) (.ref i2))(P:gt s.heap TO a b)(h1:Ia k s.heap)(h2:EY k s.heap)(j:n1=k\/(k<n1/\n2=k))(V:∀h' e tk,(∀c o,c≠z->c≠TO->c≠i1->c≠i2->s.heap.get? c=aa o->h'.get? c=aa o)->(∃o,h'.get? e=aa o/\o.cls=.type "StopIteration")->E (.ref e) {s with heap:=h',toks:=tk}):wpAny (model prog w) A (Builtin.«zip.__next__» ⟨[.ref z],[]⟩) Q E s:=by
  show wpAny _ _ (field (.ref z) 2>>=_) _ _ _;refine ah (bF B rfl (x:=.bool ae) rfl ?_);show wpAny _ _ (field (.ref z) 3>>=_) _ _ _;refine ah (bF B rfl (x:=.ref TI) rfl ?_);refine ah (dF O rfl ?_);show wpAny _ _ (cS (.ref z)>>=_) _ _ _;refine ah ?_;dsimp only[cS];refine ah (bF B rfl (x:=.none) rfl (aA ?_));simp only[if_true];refine ah (wpAny_rule ?_);refine ah (bF B rfl (x:=.ref TO) rfl ?_);refine ah (er B (by simp) λt i h=>?_);replace i:n6 t z TI TO .ellipsis:=i;refine ah ?_;simp only[List.zipIdx_cons,List.zipIdx_nil,da,gm];refine ah (ah (pX ?_));show wpAny _ _ (bL (.ref i1)>>=_) _ _ _;have U:Ia k t:=K.frame k _ _ h1 λb C o e=>h.extBut b o (λx=>D.f1.1 (x▸C)) e;have Y:EY k t:=L.frame k _ _ h2 λb C o e=>h.extBut b o (λx=>D.f2.1 (x▸C)) e;rcases j with j|⟨R,j⟩
  · refine ah (K.done _ _ _ (by refine j.symm▸U) λu e d J=>?_);refine aE J λS g m=>?_;have q:n6 u z TI TO .ellipsis:=d _ _ D.i1z.symm i;have y:e≠z:=λx=>by(clear B;subst x);rw[q]at g;(injection g with g;subst g);simp at m
    refine er q (by simp) λv z9 f=>V v e _ (λc o F z9 M z9 x=>f.extBut _ _ F (d _ _ M (h.extBut _ _ F x))) ⟨S,f.extBut _ _ y g,m⟩
  · refine ah (K.item k _ _ _ R U λx u T z9 N d=>aA ?_);have l:gt u TO a b:=d.extBut _ _ D.TOi1 (h.extBut _ _ D.TOz P);refine ah (dF l rfl ?_);refine ah (nW l λv I f=>?_);refine ah (wpAny_letGo (aA ?_));refine ah (ah (pX ?_));show wpAny _ _ (bL (.ref i2)>>=_) _ _ _;have Z:EY k v:=L.frame k _ _ Y λb C o e=>f.extBut b o (λx=>D.f2.2.1 (x▸C)) (d.extBut b o (λx=>D.f2.2.2 (x▸C)) e);refine ah (L.done _ _ _ (by refine j.symm▸Z) λG e n J=>?_);refine aE J λS g m=>?_;have r:n6 G z TI TO .ellipsis:=n _ _ D.i2z.symm (f.extBut _ _ D.TOz.symm (d.extBut _ _ D.i1z.symm i));have y:e≠z:=λx=>by(clear D B i J;subst x);rw[r]at g;(injection g with g;subst g);simp at m
    refine er r (by simp) λH z9 p=>V H e _ (λc o F W M X x=>p.extBut _ _ F (n _ _ X (f.extBut _ _ W (d.extBut _ _ M (h.extBut _ _ F x))))) ⟨S,p.extBut _ _ y g,m⟩
theorem zC(D:Apart z TI TO i1 i2 Jx Jw)(X:Draws prog w A i1 Jx n1 P1 Ia)(Y:Draws prog w A i2 Jw n2 P2 EY){k:Nat}{a b:al}{Q:al->ax->Prop}(hz:n6 s.heap z TI TO .none)(Z:gt s.heap TI (.ref i1) (.ref i2))(UY:gt s.heap TO a b)(h1:Ia k s.heap)(h2:EY k s.heap)(UU:k<n1)(UT:k<n2)(hQ:∀h' tk x y(T:aq),n6 h' z TI TO (rawInt T)->gt h' TI (.ref i1) (.ref i2)->gt h' TO x y->Ia (k+1) h'->EY (k+1) h'->s.heap.get? T=ak->T≠z/\T≠TO/\T≠i1/\T≠i2->gt h' T x y->P1 k x->P2 k y->(∀c o,c≠z->c≠TO->c≠i1->c≠i2->s.heap.get? c=aa o->h'.get? c=aa o)->Q (.ref T) {s with heap:=h',toks:=tk}):wpAny (model prog w) A (Builtin.«zip.__next__» ⟨[.ref z],[]⟩) (λfin s'=>∃v,fin=.done (.ret v)/\Q v s') E s:=by
 show wpAny _ _ (field (.ref z) 2>>=_) _ _ _;refine ah (bF hz rfl (x:=.bool ae) rfl ?_);show wpAny _ _ (field (.ref z) 3>>=_) _ _ _;refine ah (bF hz rfl (x:=.ref TI) rfl ?_);refine ah (dF Z rfl ?_);show wpAny _ _ (cS (.ref z)>>=_) _ _ _;refine ah ?_;dsimp only[cS];refine ah (bF hz rfl (x:=.none) rfl (aA ?_));simp only[if_true];refine ah (wpAny_rule ?_);refine ah (bF hz rfl (x:=.ref TO) rfl ?_);refine ah (er hz (by simp) λL p g=>?_);replace p:n6 L z TI TO .ellipsis:=p;refine ah ?_;simp only[List.zipIdx_cons,List.zipIdx_nil,da,gm];refine ah (ah (pX ?_));show wpAny _ _ (bL (.ref i1)>>=_) _ _ _;have e1:Ia k L:=X.frame k _ _ h1 λb n o e=>g.extBut b o (λx=>D.f1.1 (x▸n)) e;have e2:EY k L:=Y.frame k _ _ h2 λb n o e=>g.extBut b o (λx=>D.f2.1 (x▸n)) e;refine ah (X.item k _ _ _ UU e1 λx GY WC YU O h=>aA ?_);have t:gt GY TO a b:=h.extBut _ _ D.TOi1 (g.extBut _ _ D.TOz UY);refine ah (dF t rfl ?_);refine ah (nW t λM m i=>?_);replace m:gt M TO x b:=m;refine ah (wpAny_letGo (aA ?_));refine ah (ah (pX ?_));show wpAny _ _ (bL (.ref i2)>>=_) _ _ _;have e3:EY k M:=Y.frame k _ _ e2 λb n o e=>i.extBut b o (λx=>D.f2.2.1 (x▸n)) (h.extBut b o (λx=>D.f2.2.2 (x▸n)) e);have e4:Ia (k+1) M:=X.frame _ _ _ O λb n o e=>i.extBut b o (λx=>D.f1.2.1 (x▸n)) e;refine ah (Y.item k _ _ _ UT e3 λy Dr WB YT P j=>aA ?_);have u:gt Dr TO x b:=j.extBut _ _ D.TOi2 m;refine ah (dF u rfl ?_);refine ah (nW u λd f l=>?_);replace f:gt d TO x y:=f;refine ah (wpAny_letGo (aA (aA ?_)));refine ah (dF f rfl ?_);refine ah (wpAny_newTuple ?_);have Xf:d.objs.size=s.heap.objs.size:=by rw[l.1,j.1,i.1,h.1,g.1]
 have K:n6 d z TI TO .ellipsis:=l.extBut _ _ D.TOz.symm (j.extBut _ _ D.i2z.symm (i.extBut _ _ D.TOz.symm (h.extBut _ _ D.i1z.symm p)));have G:∀c o,c≠z->c≠TO->c≠i1->c≠i2->s.heap.get? c=aa o->d.get? c=aa o:=λc o N c2 c3 c4 e=>l.extBut _ _ c2 (j.extBut _ _ c4 (i.extBut _ _ c2 (h.extBut _ _ c3 (g.extBut _ _ N e))));have C:Ia (k+1) d:=X.frame _ _ _ e4 λb n o e=>l.extBut b o (λx=>D.f1.2.1 (x▸n)) (j.extBut b o (λx=>D.f1.2.2 (x▸n)) e);have F:EY (k+1) d:=Y.frame _ _ _ P λb n o e=>l.extBut b o (λx=>D.f2.2.1 (x▸n)) e;have J:z<d.objs.size:=bp K;have R:TO<d.objs.size:=bp f;have U:i1<d.objs.size:=by refine aQ (X.live _ _ C) λz1 e=>bp e
 have V:i2<d.objs.size:=by refine aQ (Y.live _ _ F) λz1 e=>bp e
 show wpAny _ _ (iY (.ref z) (.ref d.objs.size)>>=_) _ _ _;refine ah ?_;dsimp only[iY];have W:n6 (d.push {cls:=.type "tuple",data:=.seq #[x,y]}) z TI TO .ellipsis:=ay _ K;refine ah (er W (by simp) λUQ q H=>?_);replace q:n6 UQ z TI TO (rawInt d.objs.size):=q;refine er q (by simp) λB r I=>?_;replace r:n6 B z TI TO (rawInt d.objs.size):=r;have up:∀c o,c≠z->d.get? c=aa o->B.get? c=aa o:=λc o N e=>I.extBut _ _ N (H.extBut _ _ N (ay _ e));have S:gt B d.objs.size x y:=I.extBut _ _ (bX J) (H.extBut _ _ (bX J) (aO _ rfl));refine aA ⟨_,rfl,?_⟩;refine hQ B _ x y _ r (up _ _ D.TIz (G _ _ D.TIz D.TITO D.TIi1 D.TIi2 Z)) (up _ _ D.TOz f) (X.frame _ _ _ C λb n o e=>up b o (λx=>D.f1.1 (x▸n)) e) (Y.frame _ _ _ F λb n o e=>up b o (λx=>D.f2.1 (x▸n)) e) (Heap.get?_none_of_le (by rw[Xf];exact a8 _)) ⟨bX J,bX R,bX U,bX V⟩ S YU YT λc o N c2 c3 c4 e=>up c o N (G c o N c2 c3 c4 e)
end
abbrev SA(h:bz)(l1:aq):bz:=h.push {cls:=.type "tuple_iterator",data:=.fields #[.ref l1,.int 0 0]}
abbrev Sz(h:bz)(l1 l2:aq):bz:=(SA h l1).push {cls:=.type "list_iterator",data:=.fields #[.ref l2,.int 0 0]}
abbrev Sy(h:bz)(l1 l2:aq):bz:=(Sz h l1 l2).push {cls:=.type "tuple",data:=.seq #[.ref h.objs.size,.ref (SA h l1).objs.size]}
abbrev Sx(h:bz)(l1 l2:aq):bz:=(Sy h l1 l2).push {cls:=.type "tuple",data:=.seq #[.none,.none]}
abbrev JZ(h:bz)(l1 l2:aq):bz:=(Sx h l1 l2).push {cls:=.type "zip",data:=.fields #[.none,.bool ae,.bool ae,.ref (Sz h l1 l2).objs.size,.ref (Sy h l1 l2).objs.size]}
theorem tF(a b:aq)(xs ys:Array al):PySem.Meets (Builtin.«zip.__new__» ⟨[.type "zip",.ref a,.ref b],[]⟩) (λz9 R s=>s.heap.IsTuple a xs/\s.heap.IsList b ys/\R (.ok (.ret (.ref (Sx s.heap a b).objs.size))) {s with heap:=JZ s.heap a b}):=.of_wp λl w A R s h=>by obtain⟨j,g,d,m,os⟩:=s;refine fi h λf i h=>?_;have k:=sub_zip;have c:Heap.IsTuple (Shared.heap ⟨j,g,d,m,os⟩) a xs:=f;have e:Heap.IsList (Shared.heap ⟨j.push {cls:=.type "tuple_iterator",data:=.fields #[.ref a,.int 0 0]},g,d,m,os⟩) b ys:=Heap.IsList.push i _;wp_walk using wpAny_pyIter_tuple c,wpAny_pyIter_list e;exact⟨_,rfl,h⟩
section
variable{prog:Program}{w:aJ}{A:bc}{E:al->ax->Prop}{s:ax}
theorem vF{a b:aq}{xs ys:Array al}{Q:al->ax->Prop}(e:s.heap.IsTuple a xs)(f:s.heap.IsList b ys)(h:∀h',n6 h' (s.heap.objs.size+4) (s.heap.objs.size+2) (s.heap.objs.size+3) .none->gt h' (s.heap.objs.size+2) (.ref s.heap.objs.size) (.ref (s.heap.objs.size+1))->gt h' (s.heap.objs.size+3) .none .none->h'.IsTupleIter s.heap.objs.size a 0->h'.IsListIter (s.heap.objs.size+1) b 0->h'.objs.size=s.heap.objs.size+5->(∀c o,s.heap.get? c=aa o->h'.get? c=aa o)->Q (.ref (s.heap.objs.size+4)) {s with heap:=h'}):wpAny (model prog w) A (call (.type "zip") [.ref a,.ref b]) Q E s:=by
 refine callType_new F.called_zip (by decide) (F.typeCall_zip_2 _ _) (F.newCall_zip_2 _ _) (λg=>F.args_object_init_3 g _ _) F.entry_zip_new (tF a b xs ys) ⟨e,f,?_⟩;have i:(SA s.heap a).objs.size=s.heap.objs.size+1:=cL ..;have j:(Sz s.heap a b).objs.size=s.heap.objs.size+2:=by rw[cL,i]
 have k:(Sy s.heap a b).objs.size=s.heap.objs.size+3:=by rw[cL,j]
 have l:(Sx s.heap a b).objs.size=s.heap.objs.size+4:=by rw[cL,k]
 have r:(JZ s.heap a b).objs.size=s.heap.objs.size+5:=by rw[cL,l]
 have d:(JZ s.heap a b).get? (Sx s.heap a b).objs.size=aa _:=aO _ rfl;have p:(JZ s.heap a b).get? (Sy s.heap a b).objs.size=aa _:=ay _ (aO _ rfl);have n:(JZ s.heap a b).get? (Sz s.heap a b).objs.size=aa _:=ay _ (ay _ (aO _ rfl));have m:(JZ s.heap a b).get? (SA s.heap a).objs.size=aa _:=ay _ (ay _ (ay _ (aO _ rfl)));have q:(JZ s.heap a b).get? s.heap.objs.size=aa _:=ay _ (ay _ (ay _ (ay _ (aO _ rfl))));show _/\_;rw[j,k,l]at d;rw[i,j]at n;rw[k]at p;rw[i]at m;rw[l];exact⟨⟨_,d,rfl⟩,h _ d n p ⟨_,q,rfl,rfl⟩ ⟨_,m,rfl,rfl⟩ r λc o x=>ay _ (ay _ (ay _ (ay _ (ay _ x))))⟩
end
section
variable{w:aJ}{g:Gh}
def Sl(l1 l2 z TI TO i1 i2:aq)(o1 o2:dJ)(i:Nat)(h:bz):Prop:=n6 h z TI TO .none/\gt h TI (.ref i1) (.ref i2)/\(∃a b,gt h TO a b)/\(h.IsTupleIter i1 l1 i/\h.get? l1=aa o1)/\(h.IsListIter i2 l2 i/\h.get? l2=aa o2)
theorem Iter.zip{lv W4:List V}{xs ys:List al}{C K n m z TI TO I J:Nat}{T:aY}(h1:g C=aa (.fz (qH xs n)))(h2:g K=aa (.fz (eo ys m)))(hx:eA w g lv xs)(hy:eA w g W4 ys)(hT:Dg T=ac)(D:Apart z TI TO I J [I,C] [J,K])(X:C≠I)(Y:K≠J):Iter w g ((lv.zip W4).map λp=>V.tup [p.1,p.2]) z [z,TI,TO,I,J] (Sl C K z TI TO I J (qH xs n) (eo ys m)) T where
  frame:=λi h U y0 Z k2=>N2 y0 λH M G t u=>ej G λa b R=>⟨Z z (by simp) _ H,Z TI (by simp) _ M,(cM a b (Z TO (by simp) _ R)),⟨t.1.at λo e=>Z I (by simp) o e,k2 _ _ h1 t.2⟩,⟨u.1.at λo e=>Z J (by simp) o e,k2 _ _ h2 u.2⟩⟩
  live:=λi h y0 d f=>N2 y0 λH M G t u=>ej G λa b R=>by
    simp only[aD,dW,or_false]at f;clear h1 h2;rcases f with rfl|rfl|rfl|rfl|rfl;·exact⟨_,H⟩
    ·exact⟨_,M⟩
    ·exact⟨_,R⟩
    ·refine aE t.1 λo e G=>⟨o,e⟩
    ·refine aE u.1 λo e G=>⟨o,e⟩
  item:=λA i s v Q E W hv y0 hQ=>N2 y0 λH M G t u=>ej G λa b R=>by
    have tt:∀{h:bz},h.get? C=aa (qH xs n)->h.IsTuple C xs.toArray:=λh=>⟨_,h,rfl,n,rfl⟩;have j:=hx.len;have l:=hy.len;rw[jk]at hv;(refine aE (aM.mp hv) λG hz z2=>?_;obtain⟨v1,v2⟩:=G;(clear hv;subst z2));rw[List.getElem?_zip_eq_some]at hz;have UU:i<xs.toArray.size:=by refine aT.symm▸j.symm▸(aP.mp hz.1).1
    have UT:i<ys.toArray.size:=by refine aT.symm▸l.symm▸(aP.mp hz.2).1
    have B:s.TypeIs (.ref z) "zip":=⟨_,H,rfl⟩;unfold pyNext;refine ah (wpAny_attempt (d8 (name:=iT "__next__") B F.slot_zip_next (ix F.slot_zip_next B F.entry_zip_next (zC D (rz (A:=A.in1) W I C X xs.toArray) (Draws.list (A:=A.in1) W J K Y ys.toArray) H M R ⟨t.1,tt t.2⟩ ⟨u.1,bV u.2⟩ UU UT λU tk x y P b1 b2 b3 b4 b5 b6 b7 b8 b9 XB S=>aA ⟨_,rfl,?_⟩) (F.args_zip_next_1 _))));have go:∀(r:List aY)(k:Nat)(L:gA),wpAny (model pw w) A (letOwnedTupleGo (.Tuple r k L) (.ref z) (.ref P)) (λz9 KF=>Q (.ref P) KF) E {s with heap:=U,toks:=tk}:=λr k L=>by
      refine wpAny_letOwnedTupleGo_zip b1 λXn N US=>?_;have O:∀c o,c≠z->U.get? c=aa o->Xn.get? c=aa o:=λc o hc e=>US.extBut c o hc e;rw[kA]at b9 XB;have XA:∀d o,d∉[z,TI,TO,I,J]->s.heap.get? d=aa o->U.get? d=aa o:=λd o f e=>S d o (λq=>f (by simp[q])) (λq=>f (by simp[q])) (λq=>f (by simp[q])) (λq=>f (by simp[q])) e;refine hQ (.ref P) Xn tk (aa (P,qH [x,y] 0)) (λd o f e=>O d o (λq=>f (by simp[q])) (XA d o f e)) ?_ ?_ ?_;·have f1:C≠z:=λq=>D.f1.1 (by simp[q]);have f2:K≠z:=λq=>D.f2.1 (by simp[q]);have Z:U.get? C=aa (qH xs n):=S C _ f1 (λq=>D.f1.2.1 (by simp[q])) X (λq=>D.f1.2.2 (by simp[q])) t.2;have k2:U.get? K=aa (eo ys m):=S K _ f2 (λq=>D.f2.2.1 (by simp[q])) (λq=>D.f2.2.2 (by simp[q])) Y u.2;exact⟨N,O _ _ D.TIz b2,(cM _ _ (O _ _ D.TOz b3)),⟨b4.1.at λo e=>O _ o D.i1z e,O _ _ f1 Z⟩,⟨b5.1.at λo e=>O _ o D.i2z e,O _ _ f2 k2⟩⟩
      · intro p hp;(injection hp with hp;subst hp);refine⟨b6,O _ _ b7.1 b8,λhm=>?_⟩;simp only[aD,dW,or_false]at hm;have UZ:P≠TI:=λq=>by(clear b1 b2 b8 N XA;subst q);rw[show s.heap.get? P=_ from M]at b6;exact us b6
        rcases hm with q|q|q|q|q;·exact b7.1 q
        ·exact UZ q
        ·exact b7.2.1 q
        ·exact b7.2.2.1 q
        ·exact b7.2.2.2 q
      ·refine aE (hx.at b9) λu1 e1 t1=>aE (hy.at XB) λu2 e2 t2=>?_;rw[hz.1]at e1;(injection e1 with e1;subst e1);replace e2:=hz.2▸e2;(injection e2 with e2;subst e2);exactλgl=>rM.mk P [x,y] 0 rfl bv (bl.mk x [y] rfl (TR.mono gl _ _ t1) (bl.mk y [] rfl (TR.mono gl _ _ t2) rfl))
    induction T using be with
    |Tuple r k L=>exact go r k L|_=>exact cy hT
  done:=λA s Q E W y0 hQ=>N2 y0 λH M G t u=>ej G λa b R=>by
    have B:s.TypeIs (.ref z) "zip":=⟨_,H,rfl⟩;have j:=hx.len;have l:=hy.len;unfold pyNext;refine ah (wpAny_attempt (d8 (name:=iT "__next__") B F.slot_zip_next (ix F.slot_zip_next B F.entry_zip_next (zD (A:=A.in1) W D (rz (A:=A.in1) W I C X xs.toArray) (Draws.list (A:=A.in1) W J K Y ys.toArray) H M R ⟨t.1,⟨_,t.2,rfl,n,rfl⟩⟩ ⟨u.1,bV u.2⟩ ?_ λU e tk hk he=>?_) (F.args_zip_next_1 _))));·simp only[aT,az,kq,j,l];lia
    ·refine aE he λo ho hc=>ah (wpAny_isInstance (T:="StopIteration") (b:=ac) ⟨o,ho,hc⟩ isSubtype_stop ?_);exact aA (hQ _ _ λd o f e=>hk d o (λq=>f (by simp[q])) (λq=>f (by simp[q])) (λq=>f (by simp[q])) (λq=>f (by simp[q])) e)
  self:=λA i s Q E W st hQ=>wpAny_pyIter_zip st.1 hQ
end
section
variable{P:PG}{Γ:Cx}{q:G}{ev:Vs}{cs:Cs}{s:ax}{r:Wv}{X:XS}
theorem pJ{env:Env}{e:aY}(h:tM e=ae)(x:al):foldedSetIterable e env x=pure x:=by induction e using be<;>first|rfl|exact mX h
theorem NJ(N g i:Nat)(k:g<N)(l:i<N):Apart (N+4) (N+2) (N+3) N (N+1) [N,g] [N+1,i]:=by
 have f:∀(a b c:Nat),a≠b->a≠c->(a:aq)∉([b,c]:List aq):=λa b c h j d=>by
  rcases aD.mp d with e|d;·exact h e
  ·exact j (aF.mp d)
 exact⟨bP (nS rfl),bP (nS rfl),bP (nS rfl),bX (S2 rfl),bX (nS rfl),bP (S2 rfl),bP (nS rfl),bX (S2 rfl),bX (nS rfl),⟨f _ _ _ (UA rfl) (by lia),f _ _ _ (UA rfl) (by lia),f _ _ _ (UA rfl) (by lia)⟩,⟨f _ _ _ (nN rfl) (by lia),f _ _ _ (nN rfl) (by lia),f _ _ _ (Ye rfl) (bX ‹_›)⟩⟩
theorem zipOf_eq{e:aY}{p:aY×aY×aY}(h:xJ e=aa p):∃o l m,p.1=.Name o l/\e=.Call (.Name o l) [p.2.1,p.2.2] [] m/\noStar [p.2.1,p.2.2]=ac:=by unfold xJ at h;induction i:o8 e with
 |none=>replace h:=i▸h;exact bn h|some c=>obtain⟨f,a,k⟩:=c;refine aQ (callOf_eq i) λm b=>?_;replace h:=i▸h;dsimp only at h;clear i;induction n:nameOf f with
  |none=>replace h:=n▸h;exact bn h|some z=>
   refine aQ (nameOf_eq n) λl d=>?_;replace h:=n▸h;dsimp only at h;refine xO (p7 a) (λj=>?_) λu j=>?_;·replace h:=j▸h;exact bn h
   ·rw[j]at h;dsimp only at h;(refine bB (vE h) λc t=>?_;(clear h;subst t));rw[af,af,aX]at c;have g:=two_eq j;dsimp only at b⊢;refine dB z l m ⟨d,by exact b.symm▸d.symm▸c.1.2.symm▸g.symm▸rfl,?_⟩;refine g▸c.2
theorem pT.loop{sp:Spec}{k:Nat}{t:aY}{l:List V}{body:List dG}{Q:Fl->Vs->Cs->Prop}(ok:bo P Γ.K Γ.w)(F:dh Γ)(g:∀j,j<k->Kept Γ (mN (wv P sp j)))(i:∀j,j<k->Kept Γ (sb (wv P sp j)))(hh:Γ.hd=ak){A:bc}{QQ:Flow->ax->Prop}{EE:al->ax->Prop}(d:jh Γ A)(I:SI Γ q ev cs s)(u:0<s.toks)(p:(wv P sp k).For (Γ.ℓ ev) t l body cs Q X)(h:∀b x ev' cs' q' a,Q b ev' cs'->fS Γ.w q' b x->SI Γ q' ev' cs' a->q.le q'->QQ x a)(m:∀C e ev' cs' q' a,X C ev' cs'->jl Γ.K q'.g C a.heap e->SI Γ q' ev' cs' a->q.le q'->EE e a):pT Γ.w q.g l (λv s=>codeAny (model pw Γ.w) A (.forLoop t v body [] Γ.env) (λr a=>match r with|.ok f=>QQ f a|.error e=>cameBackBy (model pw Γ.w) A Γ.env EE e a) s) s:=λo St c st=>qJ (s:={s with heap:=s.heap.push o}) ok F g i (c t) hh d (I.grow (h':=s.heap.push o) (tk:=s.toks) λz9 z9 e=>ay _ e) u (λb n=>by cases aF.mp n;exact I.fresh (c9 _)) st p h m
theorem Ks{sp:Spec}{k:Nat}{t e:aY}{body b:List dG}{pos:gA}{Q:Fl->Vs->Cs->Prop}(ok:bo P Γ.K Γ.w)(F:dh Γ)(w:mN (wv P sp k) Γ)(hE:∀j,j<k->Kept Γ (mN (wv P sp j)))(hS:∀j,j<k->Kept Γ (sb (wv P sp j)))(h:gd b.isEmpty (Iw (wv P sp k) (Γ.ℓ ev) t e body cs Q X)):ik Γ q ev cs (fS Γ.w) (exec (.For t e body b pos) Γ.env) Q X:=by
 refine xG h λhb h0=>?_;clear h;cases aX.mp hb;refine xG h0 λc h=>?_;clear h0;rw[af,aL,aL]at c;have hh:Γ.hd=ak:=F.lf.resolve_left λe=>by replace e:=(show Γ.lf=ae from c.1)▸e;exact cy e
 intro A s QQ EE K I ht hQ O;have Jt:A.handled=ak:=K.hd.trans hh;refine wpAny_For ?_ (pJ c.2);refine xO (xJ e) (λE=>?_) λp E=>?_;·replace h:=E▸h;refine(w q ev e cs _ _ h).zH K I ht (λv x c1 q1 s1 M hx I1 l1 t1=>?_) O;refine f9 v x c1 _ q1 _ M I1 hx λv' c2 q2 N l2 L tr z9=>?_;have lA:=l1.trans l2;exact xQ (λa o e=>L.iV e) tr N λl h3=>pT.loop ok F hE hS hh K L t1 h3 (λb x d c g i h hr J l=>hQ b x d c g i h hr J (lA.trans l)) (λC e d c g i h f J l=>O C e d c g i h f J (lA.trans l))
 ·rw[E]at h;obtain⟨z,a,b⟩:=p;refine kB (zipOf_eq E) λzn zp cp e1 e2 T=>?_;dsimp only at e1 e2 T;refine xG h λhT h=>?_;rw[e2];rw[show eval (.Call (.Name zn zp) [a,b] [] cp) Γ.env=(eval (.Name zn zp) Γ.env>>=λfv=>callWith cp fv [] (backTo cp (starEach [a,b] Γ.env)) [])from rfl];rw[e1]at h;refine ah ((w q ev _ cs _ _ h).zH K I ht (λf x c1 q1 s1 M hx I1 l1 t1=>?_) O);induction f using V.casesOn with
  |bi bb=>induction bb with
   |zip=>subst hx;rw[fP T,gL];refine zj A s1 cp [] _ _ _ rfl (nX ?_);have YY:kH (wv P sp k) (Γ.ℓ ev) [a,b] c1 (λvs cs=>wp (p7 vs) λp=>l8 p.1 cs λx cs=>l8 p.2 cs λy cs=>(match x with
     |.tup l=>wp (nG y) λl'=>(wv P sp k).For (Γ.ℓ ev) t ((l.zip l').map λp=>.tup [p.1,p.2]) body cs Q X|_=>False)) (λC cs=>X C ev cs):=M;refine(m1 w [a,b] YY).zH K I1 t1 (λvs xs c2 q2 s2 N B L l2 t2=>?_) λC e d c g i h f I l=>O C e d c g i h f I (l1.trans l);refine xW N λvv e2 N=>?_;obtain⟨v1,v2⟩:=vv;replace B:=(two_eq e2)▸B;refine⟨L.hs.K,?_⟩;cases B with|mk y1 ys e1 U Y=>subst e1;(refine aE Y.one λy2 z1 W=>?_;(clear Y;subst z1));refine f9 v1 y1 c2 _ q2 _ N L U λw1 c3 q3 h3 l3 I3 u z9=>f9 v2 y2 c3 _ q3 _ h3 I3 (W.mono l3) λw2 c4 q4 h4 l4 I4 H z9=>?_;have u:=TR.mono l4.f _ _ u;clear h3;induction w1 using V.casesOn with
    |tup l=>
     refine xW h4 λl' e3 h4=>?_;replace H:=(asLst_eq e3)▸H;obtain⟨a1,xs,n,ea,R,Yz⟩:=u;obtain⟨a2,ys,m,eb,S,Yy⟩:=H;clear U u;subst ea;clear W;subst eb;have p1:=I4.iV R;have p2:=I4.iV S;show wpAny _ _ (call (.type "zip") [.ref a1,.ref a2]) _ _ s2;refine vF (xs:=xs.toArray) (ys:=ys.toArray) ⟨_,p1,rfl,n,rfl⟩ (bV p2) λh' E UZ UY YN YM z9 hk=>wpAny_pyIter_zip E ?_;have W6:a1<s2.heap.objs.size:=bp p1;have W5:a2<s2.heap.objs.size:=bp p2;have D:=NJ s2.heap.objs.size a1 a2 W6 W5;have Z:=Iter.zip (w:=Γ.w) (T:=t) R S Yz Yy hT D (bP W6) (bP (gr W5));have lA:=(l1.trans l2).trans (l3.trans l4);refine qJ ok F hE hS Z hh K (I4.grow (h':=h') (tk:=s2.toks) hk) t2 (λb hb=>?_) ⟨E,UZ,(cM _ _ UY),⟨YN,hk _ _ p1⟩,⟨YM,hk _ _ p2⟩⟩ h4 (λb x d c g i h hr J l=>hQ b x d c g i h hr J (lA.trans l)) (λC e d c g i h f J l=>O C e d c g i h f J (lA.trans l));refine I4.fresh (lG ?_);simp only[aD,dW,or_false]at hb;rcases hb with rfl|rfl|rfl|rfl|rfl;·exact fh _ 4
     ·exact fh _ 2
     ·exact fh _ 3
     ·exact a8 _
     ·exact fh _ 1|_=>exact h4.elim
   |_=>exact M.elim
  |_=>exact M.elim
end
noncomputable def ij(env:Env):List (ao×eK)->List (ao×aq)->List (ao×aq)
 |[],acc=>acc|(n,k)::r,acc=>ij env r (if k==.free then(n,(env.cells.lookup n).getD 0)::acc else acc)
theorem closure_eq{env:Env}{cs:eJ}(h:∀p∈cs.names,p.2=.free->(env.cells.lookup p.1).isSome=ac):closureFor cs env=pure (ij env cs.names []):=by
 have d:∀(l:List (ao×eK))(b:List (ao×aq)),(∀p∈l,p.2=.free->(env.cells.lookup p.1).isSome=ac)->(forIn l b λ(p:ao×eK)(r:List (ao×aq))=>(if(p.2==cC)=ac then(do let a<-cellOf env p.1;pure (fc ((p.1,a)::r)))else pure (fc r):j5 (ForInStep (List (ao×aq)))))=pure (ij env l b):=by intro l;induction l with
  |nil=>intro b _;dsimp only[gm];rfl|cons p l j=>
   intro b f;rw[da];by_cases c:(p.2==cC)=ac;·rw[if_pos c];have :=f p (.head _) (gz c);refine aQ (bu.mp this) λa i=>?_;unfold cellOf;refine i.symm▸?_;have e:=j ((p.1,a)::b) λq g=>f q (.tail _ g);show _=pure (ij env l (if p.2==cC then(p.1,(env.cells.lookup p.1).getD 0)::b else b));refine(if_pos c).symm▸i.symm▸e
   ·rw[if_neg c];show _=pure (ij env l (if p.2==cC then(p.1,(env.cells.lookup p.1).getD 0)::b else b));rw[if_neg c];exact j b λq g=>f q (.tail _ g)
 unfold closureFor;exact(congrArg (·>>=pure) (d cs.names [] h)).trans rfl
theorem sE{env:Env}{q:ao×aq}:∀{l:List (ao×eK)}{acc:List (ao×aq)},q∈ij env l acc->q∈acc\/((q.1,cC)∈l/\q.2=(env.cells.lookup q.1).getD 0)
  |[],_,h=>.inl h|(n,k)::l,acc,h=>by
    rcases sE (l:=l) h with h|⟨b,c⟩
    · by_cases a:(k==cC)=ac
      · rw[if_pos a]at h;rcases aD.mp h with rfl|h;·exact .inr ⟨by refine(gz a).symm▸.head _,rfl⟩
        ·exact .inl h
      ·rw[if_neg a]at h;exact .inl h
    ·exact .inr ⟨.tail _ b,c⟩
theorem sK{env:Env}{n:ao}:∀{l:List (ao×eK)}{acc:List (ao×aq)},(n,cC)∈l\/(n,(env.cells.lookup n).getD 0)∈acc->(n,(env.cells.lookup n).getD 0)∈ij env l acc
  |[],_,h=>by
    rcases h with h|h;·cases h
    ·exact h|(m,k)::l,acc,h=>by
    refine sK (l:=l) ?_;rcases h with h|h
    · rcases aD.mp h with h|h;·cases h;exact .inr (by rw[if_pos (by rfl)];exact .head _)
      ·exact .inl h
    · refine .inr ?_;split;·exact .tail _ h
      ·exact h
theorem sM{env:Env}:∀(l:List (ao×eK))(acc:List (ao×aq)),((ij env l acc).map (·.1)).Perm (((l.filter λp=>p.2==.free).map (·.1))++acc.map (·.1))
 |[],acc=>.refl _|(n,k)::l,acc=>by
  dsimp only[ij];refine(sM l _).trans ?_;by_cases a:(k==cC)=ac;·rw[if_pos a,jL (by exact a)];exact List.perm_middle
  ·rw[if_neg a,List.filter_cons_of_neg (by exact a)]
theorem mem_of_lookup{c:Type}{x:ao}{a:c}{l:List (ao×c)}(e:l.lookup x=aa a):(x,a)∈l:=by induction l with
 |nil=>exact bn e|cons y l b=>
  rw[aW]at e;refine xB (x==y.1) (λh=>?_) λh=>?_;·rw[h]at e;exact .tail _ (b e)
  ·rw[h]at e;(injection e with e;(clear b;subst e));rw[gz h];exact .head _
theorem gN{d:Type}{x:ao}{a:d}{l:List (ao×d)}(b:(l.map (·.1)).Nodup)(h:(x,a)∈l):l.lookup x=aa a:=by induction l with
  |nil=>cases h|cons y l f=>
    rw[aK,d9]at b;rw[aW];rcases aD.mp h with e|c;·(clear h;subst e);rw[beq_self_eq_true]
    · have :(x==y.1)=ae:=by rw[beq_eq_false_iff_ne];intro e;exact b.1 (e▸de (f:=(·.1)) c)
      refine this.symm▸f b.2 c
theorem mg{p:ao×V->Bool}{y:ao}(c:∀v,p (y,v)=ac)(l:Vs):(l.filter p).lookup y=l.lookup y:=by induction l with
  |nil=>rfl|cons z l b=>
    by_cases a:y=z.1;·subst a;rw[jL (c z.2),aW,aW,beq_self_eq_true]
    · have e:(y==z.1)=ae:=by simpa using a
      by_cases h:p z=ac;·rw[jL h,aW,aW,e];exact b
      ·rw[List.filter_cons_of_neg h,aW,e];exact b
def zq(cs:eJ)(x:ao)(p:ao×V):Bool:=!ag p.1 x&&(iv p.1 cs.names==aa .free)
theorem oZ{cs:eJ}{x y:ao}{v:V}:zq cs x (y,v)=ac↔y≠x/\cs.names.lookup y=aa .free:=by dsimp only[zq];rw[af,aL,lkS_eq,beq_iff_eq];refine and_congr_left λz9=>?_;rw[<-m6,beq_eq_false_iff_ne]
theorem zo{cs:eJ}{x y:ao}{env:Vs}{v:V}(h:(xp cs x env).lookup y=aa v):y≠x/\cs.names.lookup y=aa .free/\env.lookup y=aa v:=by have a:(env.filter (zq cs x)).lookup y=aa v:=h;refine bB (oZ.mp (List.mem_filter.mp (mem_of_lookup a)).2) λb c=>⟨b,c,by rwa[mg (λv=>oZ.mpr ⟨b,c⟩)]at a⟩
theorem HG{cs:eJ}{x y:ao}{env:Vs}{v:V}(a:y≠x)(b:cs.names.lookup y=aa .free)(h:env.lookup y=aa v):(xp cs x env).lookup y=aa v:=by show(env.filter (zq cs x)).lookup y=aa v;rw[mg (λv=>oZ.mpr ⟨a,b⟩)];exact h
theorem dT{env:Env}(d:(env.scope.kind==.function)=ac){x:ao}{a:List (ao×eK)}:(a.map λ(n,k)=>if(k==cC&&env.scope.kind==.function&&env.kindOf n==aa .cell)then(n,NameKind.cell)else(n,k)).lookup x=match a.lookup x with
    |aa .free=>if env.kindOf x==aa .cell then aa .cell else aa .free|o=>o:=by induction a with
  |nil=>rfl|cons p r f=>
    obtain⟨n,k⟩:=p;refine aK.symm▸?_;by_cases c:x=n
    · subst c;rw[aW,aW,beq_self_eq_true];dsimp only;refine d.symm▸?_;by_cases b:(env.kindOf x==aa NameKind.cell)=ac;·induction k<;>simp[b]
      ·rw[Bool.not_eq_true]at b;induction k<;>simp[b]
    · have e:(x==n)=ae:=by simpa using c
      rw[aW,aW,e];have :(x==(if(k==cC&&env.scope.kind==.function&&env.kindOf n==aa .cell)=ac then(n,NameKind.cell)else(n,k)).1)=ae:=by split<;>exact e
      refine this.symm▸f
structure ff(cs:eJ)(x:ao)(env:Env)(cl:List (ao×aq)):Prop where
 kind:cs.kind=.function
 cell:∀p∈cs.names,p.2≠.cell
 x:cs.names.lookup x=aa .local
 M2:cs.names.lookup ("__debug__":ao)=ak
 nd:(cs.names.map (·.1)).Nodup
 free:∀n,(n,cC)∈cs.names->env.kindOf n=aa .cell/\∃a,env.cells.lookup n=aa a
 cl:cl=ij env cs.names []
section
variable{P:PG}{Γ:Cx}{q:G}{ev:Vs}{cc:Cs}{s:ax}{cs:eJ}{x:ao}{cl:List (ao×aq)}
theorem ff.of(F:dh Γ)(h:uc Γ.sc cs x=ac):ff cs x Γ.env (ij Γ.env cs.names []):=by
 unfold uc at h;simp only[af,decide_eq_true_eq,am,bne_iff_ne,ne_eq,aZ,beq_iff_eq,dA,<-lkS_eq]at h;refine bB h λj e=>bB j λk f=>bB k λl d=>bB l λc a=>⟨c,λp i=>(a p i).1,d,f,e,λn g=>?_,rfl⟩;have b:Γ.sc.names.lookup n=aa .cell:=by
  rcases(a _ g).2with h|h;·exact absurd rfl h
  ·exact h
 have :Γ.env.kindOf n=aa .cell:=by
  rcases F.k n with z|⟨z,_⟩;·rw[z];exact b
  ·rw[b]at z;exact nomatch z
 exact⟨this,bu.mp (F.ck n this)⟩
section
variable{env:Env}
theorem ff.Vn(h:ff cs x env cl):closureFor cs env=pure cl:=by refine h.cl.symm▸closure_eq λp d e=>by obtain⟨n,k⟩:=p;subst e;refine bB (h.free n d) λb b=>aQ b λa c=>c.symm▸rfl
theorem ff.Dk(h:ff cs x env cl){n:ao}{a:aq}(d:(n,a)∈cl):(n,cC)∈cs.names/\env.cells.lookup n=aa a:=by
 rw[h.cl]at d;rcases sE d with d|⟨e,c⟩;·cases d
 ·obtain⟨_,b,f⟩:=h.free n e;have c:a=(env.cells.lookup n).getD 0:=c;rw[f]at c⊢;exact⟨e,by rw[c];rfl⟩
theorem ff.JG(h:ff cs x env cl){n:ao}{a:aq}(c:(n,cC)∈cs.names)(b:env.cells.lookup n=aa a):(n,a)∈cl:=by refine h.cl.symm▸?_;have :=sK (env:=env) (n:=n) (l:=cs.names) (acc:=[]) (.inl c);rwa[b]at this
theorem ff.M8(h:ff cs x env cl):(cl.map (·.1)).Nodup:=by rw[h.cl];refine(sM cs.names []).nodup_iff.mpr ?_;rw[og,bf];exact(List.filter_sublist.map _).nodup h.nd
theorem ff.oX(h:ff cs x env cl){n:ao}{a:aq}(b:(n,a)∈cl):cl.lookup n=aa a:=gN h.M8 b
end
noncomputable def cO(env:Env)(cl:List (ao×aq)):List aq:=(env.cells.map (·.2)).filter λa=>!(cl.map (·.2)).contains a
theorem nh{env:Env}{a:aq}:a∈cO env cl↔a∈env.cells.map (·.2)/\a∉cl.map (·.2):=by unfold cO;rw[List.mem_filter];simp[List.contains_iff_mem]
def Cx.comp(Γ:Cx)(h:bz)(m:ao->Option al)(cs:eJ)(cl:List (ao×aq))(C:aq):Cx:={Γ with kept:=λa=>if a=Γ.L then aa (.ns m)else if a∈cO Γ.env cl then(h.get? a).map .ob else Γ.kept a,env:=compEnvC cs cl C Γ.env,L:=C,sc:=cs}
def pR(Γ:Cx)(h:bz)(m:ao->Option al)(cl:List (ao×aq))(C:aq)(g:Gh):Gh:=λa=>if a=Γ.L then aa (.kp (.ns m))else if a∈cO Γ.env cl then(h.get? a).map (λo=>.kp (.ob o))else if a=C then aa .loc else g a
def u6(Γ:Cx)(cl:List (ao×aq))(C:aq)(g g':Gh):Gh:=λa=>if a=Γ.L then aa .loc else if a∈cO Γ.env cl then g a else if a=C then ak else g' a
theorem SI.ft(I:SI Γ q ev cc s){a:aq}(h:a∈cO Γ.env cl):∃p∈Γ.env.cells,p.2=a/\q.g a=aa (.qz p.1):=by refine aE (aG.mp (nh.mp h).1) λp b e=>⟨p,b,e,by refine e▸(I.cl p b).1⟩
theorem SI.AI{C:aq}(I:SI Γ q ev cc s)(d:Off Γ.K q.g C){a:aq}{t:Tag}(e:q.g a=aa t)(c:t≠.loc)(b:(∀y,t≠.qz y)\/a∉cO Γ.env cl):a≠Γ.L/\a∉cO Γ.env cl/\a≠C:=by
  refine⟨λz=>?_,λz=>?_,λz=>?_⟩;·rw[z,I.loc]at e;(injection e with e;subst e);exact c rfl
  · rcases b with b|b;·refine cz (I.ft z) λp f g h=>?_;rw[e]at h;(injection h with h;(clear c;subst h));exact b _ rfl
    ·exact b z
  ·rw[z,d.g]at e;exact bn e
theorem xo{p:ao×aq}(a:p∈cl)(env:Env):p.2∉cO env cl:=λz=>(nh.mp z).2 (de a)
theorem dh.comp(F:dh Γ)(c:ff cs x Γ.env cl){h:bz}{m:ao->Option al}{C:aq}(o:∀e∈Γ.frames,∀a,e.frame=aa a->a≠Γ.L->a∉cO Γ.env cl):dh (Γ.comp h m cs cl C):=by
  have f:(Γ.env.scope.kind==.function)=ac:=by refine F.kind.symm▸rfl
  refine⟨F.glob,F.bi,c.kind,rfl,λy=>?_,λy b=>?_,?_,F.Re,λe j=>?_,F.lf⟩;·show(relabel cs Γ.env).names.lookup y=_\/_;unfold relabel;refine(dT f).symm▸?_;induction e:cs.names.lookup y with
    |none=>exact .inl e.symm|some k=>induction k with
      |free=>right;refine⟨e,?_⟩;have :=(c.free y (mem_of_lookup e)).1;show(relabel cs Γ.env).names.lookup y=_;unfold relabel;refine(dT f).symm▸e.symm▸?_;dsimp only;refine this.symm▸rfl|_=>exact .inl e.symm
  · have b:(relabel cs Γ.env).names.lookup y=aa .cell:=b;unfold relabel at b;rw[dT f]at b;refine xO (cs.names.lookup y) (λe=>?_) λk e=>?_;·rw[e]at b;exact bn b
    ·rw[e]at b;induction k with
      |free=>refine bB (c.free y (mem_of_lookup e)) λg g=>aQ g λa d=>?_;show(cl.lookup y).isSome=ac;refine(c.oX (c.JG (mem_of_lookup e) d)).symm▸rfl|cell=>exact absurd rfl (c.cell _ (mem_of_lookup e))|_=>cases b
  ·show(relabel cs Γ.env).names.lookup ("__debug__":ao)=ak;unfold relabel;exact(dT f).symm▸c.M2.symm▸rfl
  · refine bB (F.fr e j) λl g=>aE g λa i n=>⟨l,a,i,.inr ?_⟩;show∃p,(if a=Γ.L then aa (.ns m)else if a∈cO Γ.env cl then(h.get? a).map .ob else Γ.kept a)=aa (.ns p);by_cases d:a=Γ.L;·exact⟨m,if_pos d⟩
    ·refine(if_neg d).symm▸(if_neg (o e j a i d)).symm▸n.resolve_left d
theorem SI.DQ(F:dh Γ)(I:SI Γ q ev cc s):∀e∈Γ.frames,∀a,e.frame=aa a->a≠Γ.L->a∉cO Γ.env cl:=λe h a g f j=>by refine bB (F.fr e h) λl k=>aE k λb c d=>?_;rw[g]at c;(injection c with c;subst c);refine aQ (d.resolve_left f) λm i=>cz (I.ft j) λp n o z=>?_;rw[I.hs.kp _ _ i]at z;exact nomatch z
theorem SI.into{C:aq}{m N:ao->Option al}(F:dh Γ)(I:SI Γ q ev cc s)(D:ff cs x Γ.env cl)(X:s.heap.Ns Γ.L m)(K:s.heap.Ns C N)(A:Off Γ.K q.g C):SI (Γ.comp s.heap m cs cl C) ⟨pR Γ s.heap m cl C q.g,q.ca⟩ (xp cs x ev) cc s/\q.le ⟨pR Γ s.heap m cl C q.g,q.ca⟩:=by
  have J:∀{a t},q.g a=aa t->t≠.loc->((∀y,t≠.qz y)\/a∉cO Γ.env cl)->pR Γ s.heap m cl C q.g a=aa t:=λ{a t}e Y Z=>by refine fi (I.AI A e Y Z) λg d j=>?_;show(if a=Γ.L then aa (Tag.kp (.ns m))else if a∈cO Γ.env cl then(s.heap.get? a).map (λo=>.kp (.ob o))else if a=C then aa .loc else q.g a)=_;rw[if_neg g,if_neg d,if_neg j];exact e
  have E:q.le ⟨pR Γ s.heap m cl C q.g,q.ca⟩:=⟨λa t e f=>J e (λz=>by replace f:=z▸f;exact cy f) (.inl λy z=>by replace f:=z▸f;exact cy f),λz9 z9 e=>e⟩;have S:C≠Γ.L:=λz=>by have :=A.g;replace this:=I.loc▸z▸this;exact us this
  have T:C∉cO Γ.env cl:=λz=>by refine cz (I.ft z) λp Q R h=>?_;replace h:=A.g▸h;exact bn h
  have r:∀p∈cl,p∈Γ.env.cells:=λp w=>mem_of_lookup (D.Dk (n:=p.1) (a:=p.2) w).2;refine⟨⟨⟨I.hs.rest,I.hs.K,λa t e=>?_,λa k e=>?_⟩,?_,⟨N,K,λy v e=>?_⟩,λp w=>⟨J (I.cl p (r p w)).1 (λe=>nomatch e) (.inr (xo w _)),(I.cl p (r p w)).2⟩,I.len,λi c p U V=>(I.cr i c p U V).to E (λa b e=>J e (λe=>nomatch e) (.inl λz9 e=>nomatch e)) (λb o e=>⟨I.iV e,I.iV e⟩) λz9 z9 z9 z9 e=>e,λh e=>let⟨a,l,z⟩:=I.hc h e;(cM a l (z.mono E.f))⟩,E⟩
  · have e:(if a=Γ.L then aa (Tag.kp (.ns m))else if a∈cO Γ.env cl then(s.heap.get? a).map (λo=>.kp (.ob o))else if a=C then aa .loc else q.g a)=aa t:=e;by_cases g:a=Γ.L;·replace e:=(if_pos g)▸e;(injection e with e;subst e);refine g.symm▸⟨X,(I.hs.tag _ _ I.loc).2⟩
    · replace e:=(if_neg g)▸e;by_cases d:a∈cO Γ.env cl
      · replace e:=(if_pos d)▸e;refine cz (I.ft d) λp Q R z=>xO (s.heap.get? a) (λn=>?_) λo n=>?_;·replace e:=n▸e;exact bn e
        ·replace e:=n▸e;(injection e with e;subst e);exact⟨n,(I.hs.tag _ _ z).2⟩
      · replace e:=(if_neg d)▸e;by_cases j:a=C;·replace e:=(if_pos j)▸e;(injection e with e;subst e);refine d0 K λo Q R z z8=>j.symm▸⟨⟨o,z⟩,A.K⟩
        ·replace e:=(if_neg j)▸e;exact I.hs.tag a t e
  · have e:(if a=Γ.L then aa (i3.ns m)else if a∈cO Γ.env cl then(s.heap.get? a).map .ob else Γ.kept a)=aa k:=e;show(if a=Γ.L then aa (Tag.kp (.ns m))else if a∈cO Γ.env cl then(s.heap.get? a).map (λo=>.kp (.ob o))else if a=C then aa .loc else q.g a)=_;by_cases g:a=Γ.L;·rw[if_pos g]at e⊢;(injection e with e;subst e);rfl
    · rw[if_neg g]at e⊢;by_cases d:a∈cO Γ.env cl;·rw[if_pos d]at e⊢;induction n:s.heap.get? a with
        |none=>replace e:=n▸e;exact bn e|some o=>replace e:=n▸e;(injection e with e;subst e);rfl
      ·rw[if_neg d]at e⊢;have z:=I.hs.kp a k e;rw[if_neg λh=>by replace z:=A.g▸h▸z;exact bn z];exact z
  ·show(if C=Γ.L then aa (Tag.kp (.ns m))else if C∈cO Γ.env cl then(s.heap.get? C).map (λo=>.kp (.ob o))else if C=C then aa .loc else q.g C)=_;rw[if_neg S,if_neg T,if_pos rfl]
  · refine fi (zo e) λg d j=>aE I.ns λO H W=>bB (D.free y (mem_of_lookup d)) λM z1=>aQ z1 λa L=>?_;rcases W y v j with⟨h,_⟩|⟨_,c',o,u,B,q2,q3,q4⟩;·replace h:=M▸h;exact nomatch h
    ·replace B:=L▸B;(injection B with B;subst B);refine .inr ⟨?_,a,o,u,D.oX (D.JG (mem_of_lookup d) L),q2,q3,q4.mono E⟩;show(relabel cs Γ.env).names.lookup y=_;unfold relabel;refine(dT (by rw[F.kind];rfl)).symm▸d.symm▸?_;dsimp only;refine M.symm▸rfl
structure VV(Γ:Cx)(q:G)(g':Gh)(RF:List CA)(ev:Vs)(cc:Cs)(s:ax)(cl:List (ao×aq))(C:aq):Prop where
 si:SI Γ ⟨u6 Γ cl C q.g g',RF⟩ ev cc s
 le:(⟨g',RF⟩:G).le ⟨u6 Γ cl C q.g g',RF⟩
 off:Off Γ.K (u6 Γ cl C q.g g') C
 ns:∃mC,s.heap.Ns C mC
 no:∀a,Off Γ.K q.g a->g' a=ak->u6 Γ cl C q.g g' a=ak
theorem SI.PT{C:aq}{m:ao->Option al}{q':G}{N:Cs}{s':ax}(F:dh Γ)(I:SI Γ q ev cc s)(O:ff cs x Γ.env cl)(hm:s.heap.Ns Γ.L m)(oC:Off Γ.K q.g C)(J:SI (Γ.comp s.heap m cs cl C) q' (xp cs x ev) N s')(l:(⟨pR Γ s.heap m cl C q.g,q.ca⟩:G).le q')(l0:q.le q'):VV Γ q q'.g q'.ca ev N s' cl C:=by
  have CL:C≠Γ.L:=λz=>by have :=oC.g;replace this:=I.loc▸z▸this;exact us this
  have CR:C∉cO Γ.env cl:=λz=>by refine cz (I.ft z) λp V z5 h=>?_;replace h:=oC.g▸h;exact bn h
  have LR:Γ.L∉cO Γ.env cl:=λz=>by refine cz (I.ft z) λp V z5 h=>?_;replace h:=I.loc▸h;exact nomatch h
  have Y:q'.g Γ.L=aa (.kp (.ns m)):=J.hs.kp Γ.L (.ns m) (if_pos rfl);have Z:∀{a},a∈cO Γ.env cl->∃o,s.heap.get? a=aa o/\q'.g a=aa (.kp (.ob o)):=λ{a}h=>by refine cz (I.ft h) λp B e z6=>bB (I.cl p B) λE E=>c8 E λo u z z8=>?_;replace z:=e▸z;refine⟨o,z,J.hs.kp a (.ob o) ?_⟩;show(if a=Γ.L then aa (i3.ns m)else if a∈cO Γ.env cl then(s.heap.get? a).map .ob else Γ.kept a)=_;refine(if_neg (show a≠Γ.L fromλh'=>LR (by refine h'▸h))).symm▸(if_pos h).symm▸z.symm▸?_;rfl
  have jC:q'.g C=aa .loc:=J.loc;have L:∀a,a≠Γ.L->a∉cO Γ.env cl->a≠C->u6 Γ cl C q.g q'.g a=q'.g a:=λa A g M=>by show(if a=Γ.L then aa Tag.loc else if a∈cO Γ.env cl then q.g a else if a=C then ak else q'.g a)=_;rw[if_neg A,if_neg g,if_neg M]
  have pl:∀{a t},q'.g a=aa t->(∀k,t≠.kp k)->t≠.loc->u6 Γ cl C q.g q'.g a=aa t:=λ{a t}e n1 n2=>by rw[L a (λz=>by replace e:=Y▸z▸e;(injection e with e;subst e);exact n1 _ rfl) (λz=>by refine aE (Z z) λo V h=>?_;replace h:=e▸h;(injection h with h;subst h);exact n1 _ rfl) (λz=>by replace e:=jC▸z▸e;(injection e with e;(clear n1;subst e));exact n2 rfl)];exact e
  have le:q'.le ⟨u6 Γ cl C q.g q'.g,q'.ca⟩:=⟨λa t e f=>pl e (λk z=>by replace f:=z▸f;exact cy f) (λz=>by replace f:=z▸f;exact cy f),λz9 z9 e=>e⟩;have j:∀p∈Γ.env.cells,u6 Γ cl C q.g q'.g p.2=aa (.qz p.1)/\∃o u,s'.heap.get? p.2=aa o/\o.data=.cell u:=λp B=>by
    have t:=(I.cl p B).1;by_cases h:p.2∈cO Γ.env cl
    · refine aE (Z h) λo z e=>⟨?_,o,?_⟩;·show(if p.2=Γ.L then aa Tag.loc else if p.2∈cO Γ.env cl then q.g p.2else if p.2=C then ak else q'.g p.2)=_;rw[if_neg (show p.2≠Γ.L fromλh'=>LR (by refine h'▸h)),if_pos h];exact t
      ·refine bB (I.cl p B) λE E=>c8 E λo' u Q e4=>?_;replace Q:=z▸Q;(injection Q with Q;subst Q);exact⟨u,(J.hs.tag _ _ e).1,e4⟩
    ·have H:p.2∈cl.map (·.2):=p0 λH=>h (nh.mpr ⟨de B,H⟩);refine aE (aG.mp H) λp' S e=>bB (J.cl p' S) λt' E=>c8 E λo u W e2=>?_;have d:=(I.cl p' (mem_of_lookup (O.Dk (n:=p'.1) (a:=p'.2) S).2)).1;rw[e]at t' d W;rw[t]at d;injection d with d;injection d with d;rw[<-d]at t';exact⟨pl t' (λz9 e=>nomatch e) (λe=>nomatch e),o,u,W,e2⟩
  refine⟨⟨⟨J.hs.rest,J.hs.K,λa t e=>?_,λa k e=>?_⟩,if_pos rfl,⟨m,(J.hs.tag _ _ Y).1,λy v e=>?_⟩,j,J.len,λi c p W e2=>(J.cr i c p W e2).to le (λa b e=>pl e (λz9 e=>nomatch e) (λe=>nomatch e)) (λb o e=>⟨J.iV e,J.iV e⟩) λz9 z9 z9 z9 e=>e,λh e=>let⟨a,l,z⟩:=J.hc h e;(cM a l (z.mono le.f))⟩,le,⟨?_,(J.hs.tag _ _ jC).2⟩,let⟨mC,h,_⟩:=J.ns;⟨mC,h⟩,λa oa e=>?_⟩
  · have e:(if a=Γ.L then aa Tag.loc else if a∈cO Γ.env cl then q.g a else if a=C then ak else q'.g a)=aa t:=e;by_cases A:a=Γ.L;·rw[if_pos A]at e;(injection e with e;subst e);refine A.symm▸?_;have z:=J.hs.tag _ _ Y;exact⟨z.1.has,z.2⟩
    · rw[if_neg A]at e;by_cases g:a∈cO Γ.env cl;·rw[if_pos g]at e;refine cz (I.ft g) λp B ep z=>?_;rw[z]at e;(injection e with e;subst e);refine aE (Z g) λo V jz=>?_;have w:=J.hs.tag _ _ jz;exact⟨w.1.has,w.2⟩
      · rw[if_neg g]at e;by_cases M:a=C;·rw[if_pos M]at e;exact bn e
        ·rw[if_neg M]at e;exact J.hs.tag a t e
  · have z:=I.hs.kp a k e;have A:a≠Γ.L:=λh=>by rw[h,I.loc]at z;exact nomatch z
    have g:a∉cO Γ.env cl:=λh=>by refine cz (I.ft h) λp V z5 w=>?_;rw[z]at w;exact nomatch w
    have M:a≠C:=λh=>by replace z:=oC.g▸h▸z;exact bn z
    refine(L a A g M).trans (J.hs.kp a k (by show(if a=Γ.L then aa (i3.ns m)else if a∈cO Γ.env cl then(s.heap.get? a).map .ob else Γ.kept a)=_;refine(if_neg A).symm▸(if_neg g).symm▸e))
  · refine aE I.ns λYi A g=>?_;clear oC l LR Y jC L pl j;cases oH A hm;rcases g y v e with⟨X,u,w1,w2⟩|⟨X,a,o',u,q1,q2,q3,q4⟩;·exact .inl ⟨X,u,w1,(w2.mono l0).mono le⟩
    · have r:=mem_of_lookup q1;have t:=(I.cl _ r).1;by_cases hr:a∈cO Γ.env cl;·refine aE (Z hr) λo z jz=>?_;replace z:=q2▸z;(injection z with z;subst z);exact .inr ⟨X,a,o',u,q1,(J.hs.tag _ _ jz).1,q3,(q4.mono l0).mono le⟩
      · have H:a∈cl.map (·.2):=p0 λH=>hr (nh.mpr ⟨de (f:=(·.2)) r,H⟩);(refine aE (aG.mp H) λE B R=>?_;obtain⟨n,b⟩:=E);have R:b=a:=R;clear q2 r hr H;subst R;refine bB (O.Dk B) λhn K=>?_;have d:=(I.cl _ (mem_of_lookup K)).1;have t:q.g b=aa (.qz y):=t;have d:q.g b=aa (.qz n):=d;replace d:=t▸d;cases d;have D:cs.names.lookup y=aa .free:=gN O.nd hn;have Q2:y≠x:=λz=>by(clear t R hn K d;subst z);rw[O.x]at D;exact nomatch D
        refine aE J.ns λZr V hB=>?_;rcases hB y v (HG (x:=x) Q2 D e)with⟨YL,_⟩|⟨_,a',T,U,w1,w2,w3,w4⟩;·have :(relabel cs Γ.env).names.lookup y=aa .local:=YL;unfold relabel at this;rw[dT (by refine F.kind.symm▸rfl),D]at this;dsimp only at this;split at this<;>exact nomatch this
        ·have :cl.lookup y=aa a':=w1;rw[O.oX B]at this;(injection this with this;(clear t B R K d w1;subst this));exact .inr ⟨X,_,T,U,q1,w2,w3,w4.mono le⟩
  ·show(if C=Γ.L then aa Tag.loc else if C∈cO Γ.env cl then q.g C else if C=C then ak else q'.g C)=_;rw[if_neg CL,if_neg CR,if_pos rfl]
  · show(if a=Γ.L then aa Tag.loc else if a∈cO Γ.env cl then q.g a else if a=C then ak else q'.g a)=_;rw[if_neg λz=>by have :=oa.g;rw[z,I.loc]at this;exact us this];split;·exact oa.g
    · split;·rfl
      ·exact e
end
section
variable{P:PG}{Γ:Cx}{q:G}{ev:Vs}{cc:Cs}{s:ax}{r:Wv}{cs:eJ}{x:ao}{cl:List (ao×aq)}{wr:List aq}
theorem SI.Jz{ev':Vs}(I:SI Γ q ev cc s)(h:∀y v,ev'.lookup y=aa v->ev.lookup y=aa v):SI Γ q ev' cc s:=⟨I.hs,I.loc,let⟨m,a,b⟩:=I.ns;⟨m,a,λy v e=>b y v (h y v e)⟩,I.cl,I.len,I.cr,I.hc⟩
theorem Kt(i:NQ r Γ)(es:List aY):∀{q:G}{cc:Cs}{Q:Bool->Cs->Prop},E8 r (Γ.ℓ ev) es cc Q->cE Γ q ev cc oy (forIn es ac λc b=>if b=ac then(do let d<-isTrue c Γ.env (eval c Γ.env);pure (fc d))else pure (fc b)) Q (λz9 z9=>False):=by induction es with
 |nil=>intro q cc Q h;exact .pure h rfl|cons e es a=>intro q cc Q h;rw[da];simp only[if_true];rw[bind_assoc];refine .bind (i q ev e cc _ _ h) λb x g k f j m=>?_;subst j;induction b with
  |true=>exact a f|false=>
   have :∀l:List aY,(forIn l ae λc(b:Bool)=>if b=ac then(do let d<-isTrue c Γ.env (eval c Γ.env);pure (fc d))else pure (fc b):j5 Bool)=pure ae:=λl=>by induction l with
    |nil=>rfl|cons e l a=>rw[da];exact a
   show cE Γ k ev g oy (forIn es ae _) _ _;rw[this];exact .pure f rfl
theorem eA.snoc{w:aJ}{g:Gh}{v:V}{u:al}{a:List V}{xs:List al}(h:eA w g a xs)(b:TR w g v u):eA w g (a++[v]) (xs++[u]):=eA.of (bG.append (l':=[v]) (m':=[u]) (bl.mk u [] rfl b rfl) h.all)
theorem Iter.O4{w:aJ}{g:Gh}{A:bc}{l:List V}{I:aq}{c:Nat->bz->Prop}{x:ao}{z:gA}{i:Nat}{v:V}{m:Type}{t:al->j5 m}{K:Option al->ax->Prop}{k:al->m->ax->Prop}{E j:al->ax->Prop}(n:Iter w g l I wr c (.Name x z))(hh:A.handled=ak)(y:l[i]?=aa v)(st:c i s.heap)(u:∀x a,wpAny (model pw w) A (t x) (k x) j a->K (aa x) a)(h:∀x h' tk d,s.toks<=tk->(∀b o,b∉wr->s.heap.get? b=aa o->h'.get? b=aa o)->c (i+1) h'->EL s.heap h' wr d->(jJ g (lU g d)->TR w (lU g d) v x)->wpAny (model pw w) A (t x) (k x) j {s with heap:=h',toks:=tk}):wpAny (model pw w) A (pyNext (.ref I)) K E s:=n.step (Q:=λx f=>wpAny (model pw w) A (t x) (k x) j f) hh y st (λx a h=>u x a λΓ p e=>h Γ p e Γ p e) h
theorem uI{sp:Spec}{k:Nat}{H iter:aY}{px:gA}{N:List aY}{pos:gA}{X2:eJ}{l:List V}{EM D:aq}{NR:Nat->bz->Prop}{e₀:Vs}{Q:List V->Cs->Prop}{R:n4->ax->Prop}{A:bc}(F:dh Γ)(hE:∀j,j<k->Kept Γ (mN (wv P sp j)))(hT:∀j,j<k->Kept Γ (NQ (wv P sp j)))(It:Iter Γ.w q.g l EM wr NR (.Name x px))(hh:Γ.hd=ak)(hx:Γ.sc.names.lookup x=aa .local)(hA:jh Γ A)(Q4:∀y u,e₀.lookup y=aa u->y≠x)(J:SI Γ q e₀ cc s)(ht:0<s.toks)(hw:∀b∈D::wr,Off Γ.K q.g b)(U1:D∉wr)(st:NR 0 s.heap)(hD:s.heap.get? D=aa (eo [] 0))(hn:(wv P sp k).Comp (Γ.ℓ e₀) H x N l [] cc Q)(hR:∀vs v q' S ys n,Q vs v->SI Γ q' e₀ v S->q.le q'->Off Γ.K q'.g D->S.heap.get? D=aa (eo ys n)->eA Γ.w q'.g vs ys->R (.ok .next) S):codeAny (model pw Γ.w) A (.compLoop (.ListComp H [⟨.Name x px,iter,N,0⟩] X2 pos) 0 (.ref EM) (.ref D) Γ.env) R s:=by have Jt:A.handled=ak:=hA.hd.trans hh;have nk:=J.tB hw;refine codeAny_compLoop_tests (λm S=>∃i v q' C ys n,SI Γ q' e₀ v S/\(∀b∈D::wr,Off Γ.K q'.g b)/\NR i S.heap/\i<=l.length/\0<S.toks/\q.le q'/\m<=k/\S.heap.get? D=aa (eo ys n)/\eA Γ.w q'.g C ys/\(wv P sp m).Comp (Γ.ℓ e₀) H x N (l.drop i) C v Q) ?_ k (Op 0 cc q [] [] 0 ⟨J,hw,st,dp _,ht,.refl _,a8 _,hD,rfl,hn⟩);rintro m S⟨i,v,q',C,ys,n,J',Jq,O6,hi,Js,hq,hm,U2,Y,he⟩;induction m using bN with
  |zero=>exact he.elim|succ j=>
    by_cases O:i<l.length
    · replace he:=(List.drop_eq_getElem_cons O)▸he;replace he:E8 (wv P sp j) (Γ.ℓ (kj x l[i] e₀)) N v λb cs=>br b ((wv P sp j).E (Γ.ℓ (kj x l[i] e₀)) H cs (λy cs=>l8 y cs λy cs=>gd (fits (C.length+1)) ((wv P sp j).Comp (Γ.ℓ e₀) H x N (l.drop (i+1)) (C++[y]) cs Q)) λz9 z9=>False) ((wv P sp j).Comp (Γ.ℓ e₀) H x N (l.drop (i+1)) C cs Q):=he;refine It.O4 Jt (bg O) O6 (λx s9 h=>h) λxv h' tk new MF k1 IG k2 Jr=>?_;have T:SI Γ q' e₀ v {S with heap:=h',toks:=tk}:=J'.off λb o hb e=>k1 b o (λz=>hb (Jq b (.tail _ z))) e;have X:h'.get? D=aa (eo ys n):=k1 D _ U1 U2;have UJ:EL S.heap h' (D::wr) new:=λp hp=>by
        refine fi (k2 p hp) λa b c=>⟨a,b,λhm=>?_⟩;rcases aD.mp hm with e|hm;·replace a:=U2▸e▸a;exact us a
        ·exact c hm
      refine fi (J'.PC T UJ Jq) λU l2 Jp=>?_;have lv:∀b∈D::wr,∃o,h'.get? b=aa o:=λb hb=>by
        clear hh J ht hw st hD hn T UJ;rcases aD.mp hb with rfl|hb;·exact⟨_,X⟩
        ·exact It.live (i+1) h' IG b hb
      refine bB (U.enter Jp lv) λId l3=>?_;have fl:jJ q.g (lU q.g new):=by clear UJ U Jp;induction new with
        |none=>exactλz9 z9 e z9=>e|some p=>have o:=J'.fresh (k2 p rfl).1;exact qG λt e f=>by have z:=hq.f _ _ e f;replace z:=o.g▸z;exact bn z
      have UX:=TR.mono l3.f _ _ (TR.mono (sZ hq.f new) _ _ (Jr fl));have back:∀{I E w}{B:ax},SI (Γ.keep h' (D::wr)) w I E B->(⟨mj h' (D::wr) (lU q'.g new),q'.ca⟩:G).le w->ul Γ w I E B h' (D::wr)/\NR (i+1) B.heap/\B.heap.get? D=aa (eo ys n):=λ{I E w B}K l4=>by have L:=K.leave nk lv;exact⟨L,It.frame _ h' _ IG (λb hb=>L.same b (.tail _ hb)) λa o e e'=>K.iV (l4.f _ _ (l3.f _ _ (l2.f _ _ (hq.f _ _ e rfl) rfl) rfl) rfl),L.same D (.head _) _ X⟩
      have W:∀y u,e₀.lookup y=aa u->(kj x l[i] e₀).lookup y=aa u:=λy u e=>by rw[kM,if_neg (Q4 y u e)];exact e
      refine(qi (Γ:=Γ.keep h' (D::wr)) (lf:=ae) (Q:=λz9 env c=>env=kj x l[i] e₀/\c=v) (Y:=λz9 z9 z9=>False) (F.keep nk) (jY (p:=px)) (.iN UX) (by dsimp only[py];rw[<-lkS_eq];show wp (Γ.sc.names.lookup x) _;rw[hx];exact⟨rfl,rfl⟩)).use hA.keep Id (bd Js MF) (λz9 z9 Xu c₁ Ll s9 QZ z9 NW l4 Kg=>?_) λz9 z9 z9 z9 z9 z9 h=>h.elim;(refine bB QZ λz1 z2=>?_;(clear T U Id QZ;subst z1 z2));refine(Kt (Γ:=Γ.keep h' (D::wr)) (hT j hm h' (D::wr) nk) N he).zH (X:=λz9 z9 z9=>False) hA.keep NW Kg (λb bb c₂ w B GY hb So l5 Bh=>?_) λz9 z9 z9 z9 z9 z9 h=>h.elim;subst hb;induction b with
      |false=>refine fi (back So (l4.trans l5)) λL b3 b4=>?_;have lA:=(((((hq.trans l2).trans l3).trans l4).trans l5).trans L.le);exact⟨j,bS _,i+1,c₂,_,C,ys,n,L.si.Jz W,L.off,b3,O,Bh,lA,dQ hm,b4,eA.mono (((((l2.trans l3).trans l4).trans l5).trans L.le)).f _ _ Y,GY⟩|true=>
        refine(if_pos rfl).symm▸(hE j hm h' (D::wr) nk w _ H c₂ _ _ GY).zH (X:=λz9 z9 z9=>False) hA.keep So Bh (λy yv Vj Uj O2 QY hy V1 l6 TE=>?_) λz9 z9 z9 z9 z9 z9 h=>h.elim;refine f9 y yv Vj _ Uj _ QY V1 hy λy' Rw PB Dr l7 NV YB z9=>xG Dr λUW Dr=>fi (back NV (((l4.trans l5).trans l6).trans l7)) λL b3 b4=>?_;have lB:=((((((l2.trans l3).trans l4).trans l5).trans l6).trans l7).trans L.le);have Z:=eA.mono lB.f _ _ Y;have hlen:=Z.len;refine wpAny_list_append_plain (items:=ys.toArray) ⟨n,b4⟩ (λME g M=>?_) (by refine aT.symm▸hlen.symm▸?_;have :=el UW;exact dQ ‹_›);refine aQ g λn' g=>?_;have oD:=L.off D (.head _);have b1:SI Γ ⟨iP (D::wr) PB.g,PB.ca⟩ e₀ Rw {O2 with heap:=ME}:=(L.si.Jz W).off (h':=ME) (tk:=O2.toks) λd o hd e=>M.extBut d o (λz=>hd (by refine z.symm▸oD)) e;refine⟨j,bS _,i+1,Rw,_,C++[y'],ys++[yv],n',b1,L.off,?_,O,TE,hq.trans lB,dQ hm,?_,eA.snoc Z (TR.mono L.le.f _ _ YB),Dr⟩;·refine It.frame _ _ _ b3 (λd hd o e=>M.extBut d o (λz=>U1 (z▸hd)) e) λa o e e'=>M.extBut a o (λz=>?_) e';have :=lB.f _ _ (hq.f _ _ e rfl) rfl;replace this:=z▸this;exact bn (oD.g.symm.trans this)
        · have :(ys.toArray.push yv)=(ys++[yv]).toArray:=by simp
          replace g:=this▸g;exact g
    ·have UV:i=l.length:=Nat.le_antisymm hi (ka O);clear hi O;subst UV;replace he:=List.drop_length▸he;refine It.done A S _ _ Jt O6 λh' tk k1=>hR C v q' _ ys n he (J'.off λb o hb e=>k1 b o (λz=>hb (Jq b (.tail _ z))) e) hq (Jq D (.head _)) (k1 D _ U1 U2) Y
end
structure Sr(r:Wv)(Γ:Cx):Prop where
 E:mN r Γ
 T:NQ r Γ
 S:XD r Γ
 Ss:sb r Γ
abbrev pW(P:PG)(sp:Spec)(dep:Nat)(j:Nat):Prop:=∀Γ,Kw P Γ sp dep->Sr (wv P sp j) Γ
section
variable{P:PG}{Γ:Cx}{q:G}{ev:Vs}{cc:Cs}{s:ax}{r:Wv}{cs:eJ}{x:ao}{cl:List (ao×aq)}{wr:List aq}{sp:Spec}{dep:Nat}
theorem Kw.keep(k:Kw P Γ sp dep){h:bz}(a:∀b∈wr,Γ.kept b=ak):Kw P (Γ.keep h wr) sp dep:=⟨⟨k.kn.ok,k.kn.cx.keep a,k.kn.N7⟩,k.DD,k.call⟩
theorem Kw.comp(k:Kw P Γ sp dep){h:bz}{m:ao->Option al}{C:aq}(F:dh (Γ.comp h m cs cl C)):Kw P (Γ.comp h m cs cl C) sp dep:=⟨⟨k.kn.ok,F,k.kn.N7⟩,k.DD,k.call⟩
theorem jh.comp{A:bc}{h:bz}{m:ao->Option al}{C:aq}(x:jh Γ A):jh (Γ.comp h m cs cl C) A:=⟨x.frames,x.hd,x.depth,x.units⟩
theorem u9{h:bz}{m:ao->Option al}{C D:aq}(I:SI Γ q ev cc s)(o:Off Γ.K q.g D)(a:D≠C):Off Γ.K (pR Γ h m cl C q.g) D:=by refine⟨?_,o.K⟩;show(if D=Γ.L then aa (Tag.kp (.ns m))else if D∈cO Γ.env cl then(h.get? D).map (λo=>.kp (.ob o))else if D=C then aa .loc else q.g D)=ak;rw[if_neg (λz=>by have :=o.g;rw[z,I.loc]at this;exact us this),if_neg (λz=>by refine cz (I.ft z) λp b c w=>?_;rw[o.g]at w;exact bn w),if_neg a];exact o.g
theorem cE.use{c β:Type}{rel:G->β->c->Prop}{t:j5 c}{Q:β->Cs->Prop}{X:XP}{A:bc}{QQ:c->ax->Prop}{EE:al->ax->Prop}(h:cE Γ q ev cc rel t Q X)(f:jh Γ A)(I:SI Γ q ev cc s)(d:0<s.toks)(i:∀b x cs' q' a,Q b cs'->rel q' b x->SI Γ q' ev cs' a->q.le q'->0<a.toks->QQ x a)(g:∀C e cs' q' a,X C cs'->jl Γ.K q'.g C a.heap e->SI Γ q' ev cs' a->q.le q'->EE e a):wpAny (model pw Γ.w) A t QQ EE s:=c7 (wpAny_toks (h A s (λx a=>0<a.toks->QQ x a) EE f I d i g)) (λz9 z9 z=>z.2 (bd d z.1)) λz9 z9 z=>z
theorem Iter.mono{w:aJ}{g g':Gh}{l:List V}{I:aq}{St:Nat->bz->Prop}{T:aY}(n:jJ g g')(c:Iter w g l I wr St T):Iter w g' l I wr St T:=⟨λi h k st m j=>c.frame i h k st m λa o e=>j a o (n _ _ e rfl),c.live,λA i s v Q E D F st C=>c.item A i s v Q E D F st λx k H b m u j d=>C x k H b m u j λB=>TR.mono (sZ n b) _ _ (d (by clear j d;induction b with
 |none=>exactλz9 z9 e z9=>e|some p=>
  intro a t e f;by_cases y:a=p.1;·subst y;have z:upd g' p.1 (.fz p.2) p.1=aa t:=B _ _ (n _ _ e f) f;rw[bv]at z;refine z▸bv
  ·exact(cX y).trans e)),c.done,c.self⟩
def VN(Γ:Cx)(A:bc)(use:Option (al->j5 Unit))(Q:al->ax->Prop)(E:al->ax->Prop)(D C:aq)(s':ax):Prop:=match use with
 |ak=>∀h',ki C s'.heap h'->Q (.ref D) {s' with heap:=h'}|aa u=>wpAny (model pw Γ.w) A (u (.ref D)) (λz9 Ud=>∃m,Ud.heap.Ns C m/\∀h',ki C Ud.heap h'->Q .none {Ud with heap:=h'}) E s'
theorem xS{k:Nat}{Y t:aY}{px p pos:gA}{N:List aY}{use:Option (al->j5 Unit)}{QL:List V->Cs->Prop}{X:XP}{A:bc}{Q:al->ax->Prop}{E:al->ax->Prop}(kw:Kw P Γ sp dep)(Xm:mN (wv P sp k) Γ)(ih:∀j,j<k->pW P sp dep j)(Q0:tM t=ae)(Tf:Γ.lf=ae)(Xg:uc Γ.sc cs x=ac)(hA:jh Γ A)(I:SI Γ q ev cc s)(ht:0<s.toks)(h:(wv P sp k).E (Γ.ℓ ev) t cc (λv c=>l8 v c λv c=>wItems v λl=>(wv P sp k).Comp ⟨xp cs x ev,cs,Γ.lf⟩ Y x N l [] c QL) X)(hQ:∀vs U q' B D ys n C mC,QL vs U->SI Γ q' ev U B->q.le q'->Off Γ.K q'.g D->B.heap.get? D=aa (eo ys n)->eA Γ.w q'.g vs ys->0<B.toks->Off Γ.K q'.g C->B.heap.Ns C mC->D≠C->VN Γ A use Q E D C B)(hX:∀C e cs' q' B,X C cs'->jl Γ.K q'.g C B.heap e->SI Γ q' ev cs' B->q.le q'->E e B):wpAny (model pw Γ.w) A (comprehension (.ListComp Y [⟨.Name x px,t,N,0⟩] cs pos) cs Γ.env p (newList []) ae (eval t Γ.env) use) Q E s:=by
  have F:=kw.kn.cx;have hh:Γ.hd=ak:=F.lf.resolve_left λe=>by rw[Tf]at e;exact cy e
  have Jt:A.handled=ak:=hA.hd.trans hh;have W:=ff.of F Xg;refine wpAny_comprehension_free (g:=⟨.Name x px,t,N,0⟩) (gs:=[]) rfl (pJ Q0) W.Vn W.kind (λy hy e=>by refine e▸gN W.nd hy) ?_;refine(Xm q ev t cc _ _ h).use hA I ht (λv xv c1 q1 d h1 hx I1 l1 M=>?_) hX;refine f9 v xv c1 _ q1 _ h1 I1 hx λv' c2 q2 h2 l2 w tr z9=>xQ (λa o e=>w.iV e) tr h2 λl hn o NR It st=>dU (hd:=by size_fits) (wpAny_newFunctionEnv W.cell (by intro y hy;simp at hy) (λf i g=>?_) W.kind);dsimp only at i g⊢;generalize U0:d.heap.push o=H at i g st⊢;have z1:H.objs.size=d.heap.objs.size+1:=by(refine U0▸?_;rw[cL])
  generalize Z:H.push {cls:=.type "list",dict:=ak,data:=.seq ([]:List al).toArray}=K at i g⊢;have z2:K.objs.size=d.heap.objs.size+2:=by(refine Z▸?_;rw[cL,z1])
  have R:H.objs.size≠K.objs.size:=by(refine z1.symm▸z2.symm▸?_);exact bP (bS _)
  have Uy:d.heap.objs.size≠K.objs.size:=by refine z2.symm▸bP (Nat.lt_add_of_pos_right (by decide))
  have P7:H.objs.size≠d.heap.objs.size:=by refine z1.symm▸bX (bS _)
  have up1:∀b S,H.get? b=aa S->f.get? b=aa S:=λb S e=>g.extBut b S (by refine z2.symm▸?_;have :=bp e;rw[z1]at this;exact bP (gr this)) (ay _ (Z▸ay _ e));have up:∀b S,d.heap.get? b=aa S->f.get? b=aa S:=λb S e=>up1 b S (U0▸ay _ e);have L:f.get? H.objs.size=aa (eo [] 0):=g.extBut _ _ R (ay _ (Z▸aO _ rfl));have z:SI Γ q2 ev c2 {d with heap:=f,toks:=d.toks+([]:List (ao×al)).length}:=w.grow (h':=f) up;have fI:Off Γ.K q2.g d.heap.objs.size:=w.fresh (c9 _);have fD:Off Γ.K q2.g H.objs.size:=w.fresh (lG (by refine z1.symm▸eT _));have fC:Off Γ.K q2.g K.objs.size:=w.fresh (lG (by refine z2.symm▸fh _ _));refine aE z.ns λm hm z4=>bB (z.into F W hm i fC) λJ l3=>?_;have Fc:=F.comp (h:=f) (m:=m) (C:=K.objs.size) W (z.DQ F);have kc:=kw.comp Fc;have T:NR 0 f:=(It (.Name x px)).frame 0 H f st (λb hb S e=>up1 b S e) λa o z9 e=>up1 _ _ e;have XE:Iter Γ.w (pR Γ f m (ij Γ.env cs.names []) K.objs.size q2.g) l d.heap.objs.size [d.heap.objs.size] NR (.Name x px):=(It (.Name x px)).mono l3.f;show codeAny (model pw Γ.w) A (.compStart (.ListComp Y [⟨.Name x px,t,N,0⟩] cs pos) 0 (.ref d.heap.objs.size) (.ref H.objs.size) (compEnvC cs (ij Γ.env cs.names []) K.objs.size Γ.env)) (compPost (model pw Γ.w) A E use Q (.ref H.objs.size) K.objs.size) {d with heap:=f,toks:=d.toks+([]:List (ao×al)).length};have loop:codeAny (model pw Γ.w) A (.compLoop (.ListComp Y [⟨.Name x px,t,N,0⟩] cs pos) 0 (.ref d.heap.objs.size) (.ref H.objs.size) (compEnvC cs (ij Γ.env cs.names []) K.objs.size Γ.env)) (compPost (model pw Γ.w) A E use Q (.ref H.objs.size) K.objs.size) {d with heap:=f,toks:=d.toks+([]:List (ao×al)).length}:=by
    refine codeAny_mono (ue (uI (P:=P) (sp:=sp)  (k:=k) (Γ:=Γ.comp f m cs (ij Γ.env cs.names []) K.objs.size) (q:=⟨pR Γ f m (ij Γ.env cs.names []) K.objs.size q2.g,q2.ca⟩) (wr:=[d.heap.objs.size]) (e₀:=xp cs x ev) (Q:=QL) (R:=λr B=>(d.toks+([]:List (ao×al)).length)<=B.toks->compPost (model pw Γ.w) A E use Q (.ref H.objs.size) K.objs.size r B) Fc (λj hj h wr hk=>(ih j hj _ (kc.keep hk)).E) (λj hj h wr hk=>(ih j hj _ (kc.keep hk)).T) XE hh W.x hA.comp (λy u e=>(zo e).1) J M (λb hb=>?_) (by simpa using P7) T L hn ?_)) λr B y0=>bB y0 λq1 q2=>q2 q1
    · simp only[aD,dW,or_false]at hb;clear kw Xm ih Q0 Tf Xg hA I ht hX hh h1 hx I1 h2 w tr hn U0 st z1 Z i g z2 P7 up1 up L z4 J Fc kc XE;rcases hb with rfl|rfl;·exact u9 z fD R
      ·exact u9 z fI Uy
    · intro vs U q' B ys n hq J' l4 FD YF UR MF;have O:=z.PT F W hm fC J' l4 (l3.trans l4);refine aQ O.ns λmC hC=>?_;have lA:=(((l1.trans l2).trans l3).trans l4).trans O.le;have hz:=hQ vs U _ B _ ys n _ mC hq O.si lA ⟨O.no _ fD FD.g,fD.K⟩ YF (eA.mono O.le.f _ _ UR) (bd M (bC (fh _ _) MF)) O.off hC R;clear hQ;induction use with
      |none=>exact⟨mC,hC,hz⟩|some u=>exact hz
  exact codeAny_compStart_list loop ((It (.Name x px)).self A 0 _ _ _ Jt T loop)
theorem SI.cellOf{D:aq}{ys:List al}{n:Nat}{b:List V}{Q:V->Cs->Prop}{Z:Prop}(I:SI Γ q ev cc s)(o:Off Γ.K q.g D)(d:s.heap.get? D=aa (eo ys n))(a:eA Γ.w q.g b ys)(h:nf (.lst ae b) cc Q)(K:∀v c q',Q v c->VR Γ.w q' v (.ref D)->SI Γ q' ev c s->q.le q'->Z):Z:=I.jQ o d a λq' l J e=>K _ _ q' h e J l
theorem uH{k:Nat}{b:aY}{a:List Comprehension}{pos:gA}{Q:V->Cs->Prop}{X:XP}(kw:Kw P Γ sp dep)(p:mN (wv P sp k) Γ)(ih:∀j,j<k->pW P sp dep j)(h:A6 (wv P sp k) (Γ.ℓ ev) b a cs cc Q X):cE Γ q ev cc (eg Γ.w) (eval (.ListComp b a cs pos) Γ.env) Q X:=by refine xK λZ1 w=>xW h λg B h=>xW h λx i h=>xG h λc h=>w ?_;refine(one_eq B).symm▸?_;obtain⟨tg,E,ifs,ia⟩:=g;refine aQ (nameOf_eq i) λpx i=>?_;simp only[af,aL,beq_iff_eq]at c;refine bB c λH R=>bB H λL O=>bB L λy N=>?_;dsimp only at i y;clear B H L;subst i y;dsimp only[eval_ListComp];intro A s QQ EE T I ht U W;refine xS kw p ih N O R T I ht h (λvs m q' F D ys n C mC hq K l o Z u Js oC hC t h' f=>?_) W;have M:SI Γ q' ev m {F with heap:=h'}:=K.off (h':=h') (tk:=F.toks) λd o Y e=>f.extBut d o (λz=>Y (by refine z.symm▸oC)) e;exact M.cellOf o (f.extBut D _ t Z) u hq λv c q2 S hv J l2=>U v _ c q2 _ S hv J (l.trans l2)
end
section
variable{P:PG}{Γ:Cx}{q:G}{ev:Vs}{cc:Cs}{s:ax}{r:Wv}{sp:Spec}{dep:Nat}{Q:Fl->Vs->Cs->Prop}{X:XS}
theorem dh.oJ(F:dh Γ)(x:ao):(Γ.env.kindOf x==aa NameKind.local)=(iv x Γ.sc.names==aa NameKind.local):=by
 rw[<-lkS_eq];rcases F.k x with z|⟨z,a⟩;·exact z.symm▸rfl
 ·refine z.symm▸a.symm▸rfl
theorem dh.block(F:dh Γ):Γ.env.blockKind=.function:=by unfold Env.blockKind;refine F.kind.symm▸rfl
theorem rI{env:Env}{t:aY}(h:yD t=ae):assignEach [t] env=[(ae,assign t env)]:=by induction t using be<;>first|rfl|exact mX h
theorem td{env:Env}{t e:aY}(h:yD t=ae)(a:uD t=ak\/uD e=ak):swappedStores [t] e env=pure ak:=by unfold swappedStores;induction t using be with
 |Tuple b k p=>
  rcases a with a|a;·exact us a
  ·induction e using be with
   |Tuple=>exact us a|_=>rfl
 |List=>exact mX h|_=>rfl
theorem qK(f:Kw P Γ sp dep)(b:mN r Γ){t e:aY}{pos:gA}(k:rp e=ae)(d:yD t=ae)(a:uD t=ak\/uD e=ak)(h:r.E (Γ.ℓ ev) e cc (λv c=>lm P r (Γ.ℓ ev) t v c (λenv c=>Q .next env c) X) λC c=>X C ev c):ik Γ q ev cc (fS Γ.w) (exec (.Assign [t] e pos) Γ.env) Q X:=by dsimp only[arm_exec_Assign];refine .dS ?_;rw[show swapsWithSole [t] e pos.line Γ.env=swapsWith e (aa t) pos.line Γ.env from rfl,my k];show ik Γ q ev cc (fS Γ.w) (eval e Γ.env>>=λv=>swappedStores [t] e Γ.env>>=λn=>assignStores Γ.env v n ((assignEach [t] Γ.env).map (·.2))) Q X;refine cE.ms (b q ev e cc _ _ h) λv x g m j l p=>(td d a).symm▸(rI d).symm▸?_;show ik Γ m ev g (fS Γ.w) (assign t Γ.env x>>=λz9=>pure .next) Q X;exact ik.bind (qI (Q:=λz9 env c=>Q .next env c) f.kn.ok f.kn.cx b l j) λz9 z9 i o u a z9 z9=>.pure a rfl
theorem vf{b:Loc}{a:Nat}{e:aY}{x:ao}(h:mH b a e=aa x):nameOf e=aa x:=by induction e using be<;>first|exact bn h|((refine bB (vE h) λc d=>?_;(clear h c;subst d));rfl)
theorem mo{a β:Type}{f:a->Option β}{l:List a}(h:(l.filterMap f).length=l.length):l.map f=(l.filterMap f).map aa:=by induction l with
 |nil=>rfl|cons x l b=>
  refine xO (f x) (λe=>?_) λy e=>?_;·rw[List.filterMap_cons_none e]at h;have :=List.length_filterMap_le f l;rw[h,bH]at this;lia
  ·rw[List.filterMap_cons_some e]at h⊢;rw[aK,aK,e,b (by simpa using h)]
theorem tc(F:dh Γ){ts j:List aY}{k1 k2:Nat}{p1 p2:gA}(n:qO (Γ.ℓ ev) ts j=ac):∃c:List ao,swappedStores [.Tuple ts k1 p1] (.Tuple j k2 p2) Γ.env=pure (aa c)/\ts.map nameOf=c.map aa:=by
  dsimp only[qO]at n;simp only[af,aZ,beq_iff_eq,aL]at n;refine bB n λp M=>bB p λI B=>bB I λt A=>bB t λJ w=>bB J λK l=>bB K λL k=>bB L λu v=>?_;have i:∀d:Nat,(λe:aY=>match e with
      |.Name id pos=>if(Γ.env.kindOf id==aa NameKind.local&&pos.line==d)=ac then aa id else ak|_=>ak)=mH (Γ.ℓ ev) d:=λd=>by funext e;induction e using be with
    |Name id pos=>show(if(Γ.env.kindOf id==aa NameKind.local&&pos.line==d)=ac then aa id else ak)=cd (iv id Γ.sc.names==aa .local&&pos.line==d) (aa id) ak;rw[F.oJ];cases(iv id Γ.sc.names==aa NameKind.local&&pos.line==d)<;>rfl|_=>rfl
  refine⟨ts.filterMap (mH (Γ.ℓ ev) ((ts.head?.map (·.pos.line)).getD 0)),?_,?_⟩
  · have C:=F.block;have f:∀(d:Nat)(c:List ao),c.length=ts.length->c.eraseDups.length=ts.length->(if(c.length !=ts.length||c.eraseDups.length !=c.length)=ac then(pure ak:j5 (Option (List ao)))else if(j.all (foldedForSure 8))=ac then pure ak else if(j.all (constantsAlone 8))=ac then unsupported "assign.tuple-of-constant-expressions:order-of-the-stores"else pure (aa c))=pure (aa c):=λd c a b=>by rw[if_neg (by simp[a,b]),if_neg (by refine A.symm▸?_;decide),if_neg (by refine B.symm▸?_;decide)]
    unfold swappedStores;dsimp only;refine C.symm▸?_;rw[if_neg (by rcases u with h|h<;>simp[v,h])];rw[if_neg (by
      intro E;have m:j.any isStar=ac:=by refine E▸?_;congr 1;funext e;induction e using be<;>rfl
      unfold noStar at k;rw[am]at k;refine aE (fb.mp m) λy H e=>?_;have :=k y H;rw[e]at this;exact cy this)];have g:=f 0 _ l w;rw[<-i]at g⊢;exact g
  ·rw[<-mo l];refine List.map_congr_left λe D=>?_;have :=mo l;induction q:mH (Γ.ℓ ev) ((ts.head?.map (·.pos.line)).getD 0) e with
    |some x=>exact vf q|none=>have o:ak∈ts.map (mH (Γ.ℓ ev) ((ts.head?.map (·.pos.line)).getD 0)):=aG.mpr ⟨e,D,q⟩;rw[this]at o;refine aE (aG.mp o) λp t z=>us z
theorem vL(Γ:Cx){es:List aY}:∀{a:List ao},es.map nameOf=a.map aa->bG (λe f=>∀x,nameOf e=aa x->Binds Γ x f) es (a.map λn=>bindName Γ.env n):=by induction es with
 |nil=>intro a h;induction a using ai with
  |nil=>rfl|cons=>cases h
 |cons e es g=>intro a h;induction a using ai with
  |nil=>cases h|cons n a=>rw[aK,aK]at h;injection h with c d;exact bl.mk _ _ rfl (λx b=>by rw[c]at b;(injection b with b;subst b);exact xu) (g d)
theorem bG.rev{b β:Type}{R:b->β->Prop}{l:List b}:∀{m:List β},bG R l m->bG R l.reverse m.reverse:=by induction l with
 |nil=>intro m h;subst h;rfl|cons a l f=>intro m h;obtain⟨y,g,e,c,d⟩:=h;subst e;rw[ji,ji];exact bG.append (l':=[a]) (m':=[y]) (bl.mk y [] rfl c rfl) (f d)
theorem Fg(kw:Kw P Γ sp dep)(S:mN r Γ){ts f:List aY}{k1 k2:Nat}{p1 p2 pos:gA}(h:gd (qO (Γ.ℓ ev) ts f) (r.E (Γ.ℓ ev) (.Tuple f k2 p2) cc (λv c=>wp (B6 (view c v)) λl=>jO Γ.sc ts.reverse l.reverse ev λenv=>Q .next env c) λC c=>X C ev c)):ik Γ q ev cc (fS Γ.w) (exec (.Assign [.Tuple ts k1 p1] (.Tuple f k2 p2) pos) Γ.env) Q X:=by
 refine xK λZ1 w=>?_;have F:=kw.kn.cx;refine xG h λo h=>aE (tc (k1:=k1) (k2:=k2) (p1:=p1) (p2:=p2) F o) λb N E=>?_;have t:Γ.lf=ae:=by dsimp only[qO]at o;simp only[af,aL]at o;exact o.2
 have V:Γ.hd=ak:=F.lf.resolve_left λe=>by rw[t]at e;exact cy e
 refine w ?_;dsimp only[arm_exec_Assign];refine .dS ?_;rw[show swapsWithSole [.Tuple ts k1 p1] (.Tuple f k2 p2) pos.line Γ.env=swapsWith (.Tuple f k2 p2) (aa (.Tuple ts k1 p1)) pos.line Γ.env from rfl,my rfl];show ik Γ q ev cc (fS Γ.w) (eval (.Tuple f k2 p2) Γ.env>>=λv=>swappedStores [.Tuple ts k1 p1] (.Tuple f k2 p2) Γ.env>>=λsw=>assignStores Γ.env v sw ((assignEach [.Tuple ts k1 p1] Γ.env).map (·.2))) Q X;refine cE.ms (S q ev _ cc _ _ h) λv x D L m K l1=>N.symm▸xW m λl W m=>?_;show ik Γ L ev D (fS Γ.w) (unpackItems x b.length ak>>=λd=>assignInOrder (b.reverse.map λn=>bindName Γ.env n) d.reverse>>=λz9=>pure .next) Q X;intro A s B y H I Z T U;obtain⟨a,d,e,Y,J⟩:=yf I K W;clear K;subst e;have i:=(mY _ m).1;rw[fj,fj]at i;have g:b.length=ts.length:=by have :=congrArg dZ E;simpa using this.symm
 have p:d.length=b.length:=by exact J.len.symm▸i.symm▸g.symm▸rfl
 refine p▸ah (c7 (wpAny_toks (kC (Q:=λxs M=>s.toks<=M.toks->wpAny (model pw Γ.w) A (assignInOrder (b.reverse.map λn=>bindName Γ.env n) xs.reverse>>=λz9=>pure Flow.next) B y M) (H.hd.trans V) Y λh' tk k u=>?_)) (λz9 z9 z=>z.2 z.1) λz9 z9 z=>z);have j:ik Γ L ev D (fS Γ.w) (assignInOrder (b.reverse.map λn=>bindName Γ.env n) d.reverse>>=λz9=>pure Flow.next) Q X:=ik.bind (uJ (Q:=λz9 env c=>Q .next env c) F ts.reverse m (bG.rev J) (vL Γ (jK.symm▸E.symm▸jK.symm▸rfl))) λz9 z9 O c2 q2 R z9 z9=>.pure R rfl;exact j A _ B y H (I.grow (h':=h') k) (bd Z u) T U
theorem AH{t e:aY}{x:ao}(F:dh Γ)(h:xl (Γ.ℓ ev) t e=aa x):∃p b a cs q,t=.Name x p/\e=.ListComp b a cs q/\∀n,swapsWith (.ListComp b a cs q) (aa (.Name x p)) n Γ.env=pure ac:=by induction t using be with
 |Name y p=>induction e using be with
  |ListComp b a cs q=>
   (refine bB (vE h) λc f=>?_;subst f);simp only[af,beq_iff_eq,aL]at c;refine Il p b a cs q ⟨rfl,rfl,λn=>?_⟩;unfold swapsWith;dsimp only;rw[F.block,F.oJ,c.1.1];have d:(p.line==(Expr.ListComp b a cs q).pos.line)=ac:=by rw[beq_iff_eq];exact c.1.2
   refine d.symm▸c.2.symm▸?_;rfl|_=>exact bn h
 |_=>exact bn h
theorem r1{k:Nat}{t e:aY}{pos:gA}(kw:Kw P Γ sp dep)(ih:∀j,j<k->pW P sp dep j)(h:wp (xl (Γ.ℓ ev) t e) λx=>(wv P sp k).E (Γ.ℓ ev) e cc (λv c=>py (Γ.ℓ ev) x v λenv=>Q .next env c) λC c=>X C ev c):ik Γ q ev cc (fS Γ.w) (exec (.Assign [t] e pos) Γ.env) Q X:=by have F:=kw.kn.cx;refine xW h λx H h0=>?_;clear h;(refine Im (AH F H) λp elt E cs q0 U V N=>?_;(clear H;subst U V));induction k using bN with
 |zero=>exact h0.elim|succ j=>
  refine xW (show wp (one? E) _ from h0) λg e1 h=>?_;clear h0;refine xW h λy S h1=>?_;clear h;refine xG h1 λc h=>?_;clear h1;rw[one_eq e1]at N⊢;obtain⟨tg,a,ifs,ia⟩:=g;refine aQ (nameOf_eq S) λpx S=>?_;simp only[af,aL,beq_iff_eq]at c;refine bB c λU Z=>bB U λV Y=>bB V λB W=>?_;dsimp only at S B;clear e1 U V;subst S B;intro A s QQ EE hA I ht hQ hX;refine(exec_Assign_Name_used _ _ _ _ (N _)).symm▸ah (gh (ah ?_));show wpAny _ A (do let _<-comprehension (.ListComp elt [⟨.Name y px,a,ifs,0⟩] cs q0) cs Γ.env _ (newList []) ae (eval a Γ.env) (aa (assign (.Name x p) Γ.env))) _ _ s;refine ah (xS (use:=aa (assign (.Name x p) Γ.env)) kw (ih j (bS _) Γ kw).E (λi hi=>ih i (gr hi)) W Y Z hA I ht h (λvs ZC T O D ys n C mC hq K l o ho Jr Js oC hC Q2=>?_) λC e cs' T O h f J l=>hX C e ev cs' T O h f J l);refine hY (id hC) λYc Y8 Y9 B W Y Z=>?_;have hl:∀b∈[C],∃o,O.heap.get? b=aa o:=λb hb=>by cases aF.mp hb;exact⟨_,B⟩
  have M:∀b∈[C],Off Γ.K T.g b:=λb hb=>by cases aF.mp hb;exact oC
  have nk:=K.tB M;refine bB (K.enter M hl) λm l1=>?_;have oD:Off (Γ.keep O.heap [C]).K (mj O.heap [C] T.g) D:=⟨(rm (by simpa using Q2)).trans o.g,o.K⟩;refine m.cellOf oD ho (eA.mono l1.f _ _ Jr) hq λv c q2 h2 hv u l2=>wpAny_assign_Name (uv (F.keep nk) u hv h2 λev' R h3 w=>?_);have L:=w.leave nk hl;have Zc:=L.same C (.head _) _ B;refine⟨_,(dB Yc Y8 Y9 ⟨Zc,W,Y,Z⟩),λh' YC=>aA (aA ?_)⟩;exact hQ .next _ ev' c _ _ h3 rfl (L.si.off (h':=h') (tk:=R.toks) λd o hd e=>YC.extBut d o (λz=>hd (by refine z.symm▸L.off C (.head _))) e) (((l.trans l1).trans l2).trans L.le)
theorem zQ{k:Nat}{ts:List aY}{e:aY}{pos:gA}(g:Kw P Γ sp dep)(i:mN (wv P sp k) Γ)(m:∀j,j<k->pW P sp dep j)(h:wp (one? ts) λt=>OD P (wv P sp k) (Γ.ℓ ev) t e cc (λenv c=>Q .next env c) X):ik Γ q ev cc (fS Γ.w) (exec (.Assign ts e pos) Γ.env) Q X:=by refine xW h λt l h=>(one_eq l).symm▸rE h (λd h=>r1 g m h) λd h=>xG h λf h=>?_;rw[aL]at f;clear m l;induction b:uD t with
 |none=>replace h:=b▸h;exact qK g i d f (.inl b) h|some o=>
  rw[b]at h;dsimp only at h;refine xO (uD e) (λa=>?_) λy a=>?_;·replace h:=a▸h;exact qK g i d f (.inr a) h
  ·rw[a]at h;clear f;induction t using be with
   |Tuple n u w=>(injection b with b;subst b);clear d;induction e using be with
    |Tuple p v x=>(injection a with a;subst a);exact Fg g i h|_=>exact bn a
   |_=>exact bn b
end
theorem mq:entryFor table "proto.unchain"=aa Builtin.«proto.unchain»:=entryFor_of_fast (by kernel_rfl)
theorem mf{a:Args}:(iI "proto.unchain" a).quiet=ac:=mV a (by decide+kernel)
section
variable{P:PG}{Γ:Cx}{q:G}{ev:Vs}{cs:Cs}{s:ax}{r:Wv}{Q:Fl->Vs->Cs->Prop}{X:XS}{A:bc}
theorem ud{w:aJ}{g:Gh}{e:aq}(H:∀a o,g a=aa (.fz o)->s.heap.get? a=aa o)(S:g e=ak){R:n4->ax->Prop}(D:R (.ok (.ret .none)) s)(m:Nat):∀(o:aq)(l ls:List aq)(h:aq)(t:Bool),l.length<=m->Chain g (o::l) (.ref o)->Chain g (h::ls) (.ref h)->l.length<=ls.length->codeAny (model pw w) A (.builtin "proto.unchain" ⟨[.ref e,.ref o,.ref h,.bool t],[]⟩) R s:=by induction m with
 |zero=>
  intro o l ls h t v y I c;refine bB y λp i=>hY i λU W u B C j d=>?_;have f:=H _ _ B;have T:l=[]:=by induction l using ai with|nil=>rfl|cons _ _=>simp at v
  subst T;have k:u=.none:=d;subst k;refine codeAny_builtin mq ?_;show wpAny _ _ (field (.ref o) 2>>=_) _ _ s;refine ah (bF f C j ?_);show wpAny _ _ (ret .none>>=λx=>pure x) _ _ s;refine ah (aA (aA ?_));exact D|succ m L=>intro o l ls h t v y I c;refine bB y λp i=>hY i λU W u B C j d=>?_;have f:=H _ _ B;refine codeAny_builtin mq ?_;show wpAny _ _ (field (.ref o) 2>>=_) _ _ s;refine ah (bF f C j ?_);clear y;induction l using ai with
  |nil=>have k:u=.none:=d;clear j;subst k;show wpAny _ _ (ret .none>>=λx=>pure x) _ _ s;refine ah (aA (aA ?_));exact D|cons b l=>
   have k:u=.ref b:=d.1;clear j;subst k;have E:((bZ b:al)==bZ e)=ae:=by
    refine bB d λp p=>d0 p λV z5 z7 q Z=>?_;have :b≠e:=λz=>by replace q:=S▸z▸q;exact bn q
    simpa using this
   show wpAny _ _ (if((bZ b:al)==eI)=ac then _ else _) _ _ s;rw[if_neg (by simp)];show wpAny _ _ (if((bZ b:al)==bZ e)=ac then _ else _) _ _ s;rw[E,if_neg (by decide)];show wpAny _ _ (if((bZ b:al)==bZ h)=ac then _ else _) _ _ s;split;·refine ah (wpAny_rule ?_);show wpAny _ _ (ret .none>>=λx=>pure x) _ _ s;refine ah (aA (aA ?_));exact D
   ·refine bB I λp i=>hY i λos Y O M N J K=>?_;have F:=H _ _ M;induction t with
    |false=>refine ah (aA ?_);exact aA ⟨mf,L b l ls h ac (by simpa using v) d ⟨rfl,os,Y,O,M,N,J,K⟩ (by simp at c;exact dQ ‹_›)⟩|true=>refine ah (bF F N J ?_);clear I i;induction ls using ai with
     |nil=>simp at c|cons n ls=>have :O=.ref n:=K.1;clear J;subst this;exact aA ⟨mf,L b l ls n ae (by simpa using v) d K (by simpa using c)⟩
theorem kF{w:aJ}{a:aq}{o:dJ}{Q:Bool->ax->Prop}{E:al->ax->Prop}(d:s.heap.get? a=aa o)(b:notCls o=ac)(h:Q ae s):wpAny (model pw w) A (isType (.ref a)) Q E s:=by unfold isType;refine ah (g6 d ?_);obtain⟨f,g,c,e⟩:=o;clear d;induction c<;>first|exact aA h|(simp[notCls]at b)
theorem SI.IA{D:aq}(I:SI Γ q ev cs s)(g:∃i b v,q.g D=aa (.cell i b)/\cs[i]?=aa (.dead v)):SI Γ ⟨iP [D] q.g,q.ca⟩ ev cs s/\q.le ⟨iP [D] q.g,q.ca⟩/\Off Γ.K (iP [D] q.g) D:=by
  refine d0 g λi b v g B=>?_;have u:∀{a t},q.g a=aa t->t≠.cell i b->iP [D] q.g a=aa t:=λ{a t}e n=>(la λz=>by replace e:=g▸(aF.mp z)▸e;(injection e with e;subst e);exact n rfl).trans e;have w:q.le ⟨iP [D] q.g,q.ca⟩:=⟨λa t e f=>u e λz=>(by replace f:=z▸f;exact cy f),λz9 z9 e=>e⟩;refine aE I.ns λm J H=>⟨⟨⟨I.hs.rest,I.hs.K,λa t e=>?_,λa k e=>u (I.hs.kp a k e) λe=>nomatch e⟩,u I.loc (λe=>nomatch e),⟨m,J,λx v e=>(H x v e).to w λz9 z9 z9 e=>e⟩,λp F=>⟨u (I.cl p F).1 (λe=>nomatch e),(I.cl p F).2⟩,I.len,λj c p d y=>?_,λh e=>let⟨a,l,z⟩:=I.hc h e;(cM a l (z.mono w.f))⟩,w,⟨if_pos (.head _),(I.hs.tag _ _ g).2⟩⟩
  · have e:(if a∈[D]then ak else q.g a)=aa t:=e;by_cases C:a∈[D];·replace e:=(if_pos C)▸e;exact bn e
    ·replace e:=(if_neg C)▸e;exact I.hs.tag a t e
  · by_cases E:j=i;·(clear g;subst E);replace d:=B▸d;(injection d with d;subst d);exact TR.mono w.f _ _ (I.cr j _ p B y)
    ·exact(I.cr j c p d y).to w (λa K e=>u e λz=>by(injection z with z;(clear g B u d y;subst z));exact E rfl) (λb o e=>⟨I.iV e,I.iV e⟩) λz9 z9 z9 z9 e=>e
theorem Bq(kw:dh Γ)(ok:bo P Γ.K Γ.w)(hE:mN r Γ){e:aY}{pos:gA}(h:A3 P r (Γ.ℓ ev) e cs X):ik Γ q ev cs (fS Γ.w) (exec (.Raise (aa e) ak pos) Γ.env) Q X:=by dsimp only[arm_exec_Raise];refine .dS λA s QQ EE hA I ht hQ hX=>?_;delta raiseStmt;refine ah (ah ((hE q ev e cs _ _ h).use hA I ht (λv x c1 H g m hx j l1 F=>ah (gh (aA ?_))) λC e c q s h f I l=>hX C e ev c q s h f I l));refine xW m λi ei m=>xW m λc V m=>xW m λpf ec m=>xG m λR m=>?_;obtain⟨C,fs⟩:=pf;replace hx:=(asPtr_eq ei)▸hx;replace V:=(instOf_eq ec)▸V;cases hx with|mk p W ex=>
 subst ex;rw[af]at R;(refine fi (j.cr i _ p V W) λY Z z1=>?_;obtain⟨o,y,n,w,t,hd,hr⟩:=z1);refine bB (ok.exc C R.1) λx1 x2=>xP (t.fresh (Hm ok R.1)) λvs v1 v2 v3 v4=>?_;have E:p.1≠p.2:=λe=>by rw[e,Z]at Y;exact nomatch Y
 have inst:∀{Q':Bool->ax->Prop},Q' ac g->wpAny (model pw Γ.w) A (isInstance (.ref p.1) (.type "BaseException")) Q' EE g:=λ{Q'}h=>by delta isInstance;refine ah (wpAny_typeOf_ref w ?_);refine t.cls.symm▸iS j.hs.K x1 A _ EE g (λz9 z9 e=>e) h
 refine ah (aA ?_);refine ah (bW ?_);delta excFromValue isExcClass;refine ah (ah (kF w t.no (aA ?_)));rw[if_neg (by decide)];refine ah (inst ?_);rw[if_pos rfl];refine aA ?_;dsimp only;refine ah (kF w t.no ?_);rw[if_neg (by decide)];delta raisedInstance;refine ah (ah (wpAny_typeOf_ref w ?_));refine t.cls.symm▸ah (looks_typeIn j.hs.K x2 A _ EE g (λz9 z9 e=>e) ?_);rw[if_pos (by rfl)];refine aA ?_;unfold setFlight;refine ah (ah (bF w v1 v3 ?_));rw[if_neg (by simp)];refine aA ?_;have S:=(aP.mp V).1;have B1:=j.tJ W;have B2:=B1.Ai W Z (t:=.fz (dictOf y n)) rfl hd;have l2:H.le ⟨upd H.g p.2 (.fz (dictOf y n)),H.ca⟩:=i5 Z;refine fi (B2.IA (D:=p.1) (dB i ae .any ⟨(cX E).trans Y,gj S⟩)) λB l3 U=>?_;have lA:=(l1.trans l2).trans l3;have O:iP [p.1] (upd H.g p.2 (.fz (dictOf y n))) p.2=aa (.fz (dictOf y n)):=(la (by simpa using E.symm)).trans bv;have D:∃v,getL "what" y=aa (aa v)/\handedIn v=ac:=by refine aQ (bu.mp R.2) λv K=>aE (gW (name:="what") hr) λu H q2=>?_;have K:iv "what" fs=aa v:=K;rw[K]at q2;(refine aE (tx q2) λu' z3 z=>?_;(clear q2;subst z3));exact⟨u',H,z.handed⟩
 unfold raiseNew;refine ah (wpAny_handled ?_);refine hA.hd.symm▸?_;clear kw ok hE hA I ht hQ j l1 F ei ec R W Y Z hr x1 x2 E inst S B1 B2 l2 l3;induction hh:Γ.hd with
 |none=>refine ah (aA (wpAny_throw ?_));exact hX C _ ev _ _ g m ⟨p.1,o,vs,rfl,w,(dB p.2 y n ⟨t.toNZ,O,D⟩),v1,v2,U,.no v3,.none,[],v4,rfl⟩ B lA|some K=>
  refine ej (B.hc K hh) λb l k=>?_;have hb:K=.ref b:=k.1;clear hh;subst hb;have N:=k;refine bB N λz1 z1=>d0 z1 λob z5 z7 L V9=>?_;have M:b≠p.1:=λe=>by rw[e]at L;exact bn (U.g.symm.trans L)
  dsimp only;rw[if_pos (by simpa using M)];refine ah (bW (wpAny_runValue (ud (g:=iP [p.1] (upd H.g p.2 (.fz (dictOf y n)))) (λa o e=>B.iV e) U.g ?_ l.length b l l b ae (a8 _) k k (a8 _))));dsimp only;unfold updateField;refine ah (ah (wpAny_load w ?_));refine v1.symm▸?_;dsimp only;rw[if_pos (by lia)];refine wpAny_update w (wpAny_throw ?_);have T:=mw w v1 (·.setIfInBounds 2 (bZ b));have J:=B.off (h':=g.heap.update p.1 (g8 (·.setIfInBounds 2 (bZ b)))) (tk:=g.toks) λd o' YS e'=>by rw[cw _ _ (λz=>YS (by refine z▸U))];exact e'
  refine hX C _ ev _ _ _ m ⟨p.1,_,_,rfl,T,(dB p.2 y n ⟨⟨t.cls,by have :=t.no;unfold notCls at this⊢;rfl,t.dict,t.slots⟩,O,D⟩),rfl,by simpa using v2,U,.no (by rw[oj (by decide)];exact v3),.ref b,b::l,by simp[show 2<vs.size by lia],k⟩ J lA
end
noncomputable def Cx.vo(Γ:Cx)(h:al):Cx:={Γ with hd:=aa h,lf:=ac}
theorem qP:isSubtype (.type "type") (.type "tuple")=pure ae:=by rw[isSubtype_type];kernel_rfl
section
variable{P:PG}{Γ:Cx}{q:G}{ev:Vs}{cs:Cs}{s:ax}{r:Wv}{Q:Fl->Vs->Cs->Prop}{X:XS}{A:bc}{h:al}{sp:Spec}{dep:Nat}
theorem Kw.vo(k:Kw P Γ sp dep):Kw P (Γ.vo h) sp dep:=⟨⟨k.kn.ok,⟨k.kn.cx.glob,k.kn.cx.bi,k.kn.cx.kind,k.kn.cx.loc,k.kn.cx.k,k.kn.cx.ck,k.kn.cx.M2,k.kn.cx.Re,k.kn.cx.fr,.inl rfl⟩,k.kn.N7⟩,k.DD,k.call⟩
theorem jh.mark(a:jh Γ A):jh (Γ.vo h) (A.mark (aa h)):=⟨a.frames,rfl,a.depth,a.units⟩
theorem SI.Jm(I:SI Γ q ev cs s)(b:∃a l,Chain q.g (a::l) h):SI (Γ.vo h) q ev cs s:=⟨⟨I.hs.rest,I.hs.K,I.hs.tag,I.hs.kp⟩,I.loc,I.ns,I.cl,I.len,I.cr,λv e=>(by(injection e with e;subst e);exact b)⟩
theorem SI.LH(I:SI (Γ.vo h) q ev cs s)(a:Γ.hd=ak):SI Γ q ev cs s:=⟨⟨I.hs.rest,I.hs.K,I.hs.tag,I.hs.kp⟩,I.loc,I.ns,I.cl,I.len,I.cr,λv e=>(by rw[a]at e;exact bn e)⟩
theorem SI.handled{C:aq}{e:al}{Z:Prop}(I:SI Γ q ev cs s)(F:jl Γ.K q.g C s.heap e)(K:∀q',q.le q'->SI Γ q' ev cs s->(∃a l,Chain q'.g (a::l) e)->TR Γ.w q'.g (.exc C) e->Z):Z:=by obtain⟨a,o,t,j,b⟩:=F;subst j;refine kB b.exc λd k n g i w=>aQ w λv f=>c8 b.cx λu l m p=>?_;have c:=kT (t:=.fz o) b.off;exact K ⟨upd q.g a (.fz o),q.ca⟩ c (I.Ac b.off b.at_) (cM a l ⟨rfl,o,t,u,bv,b.data,m,p.mono c.f⟩) (Ii.mk a d o k n v rfl bv g (c.f _ _ i rfl) f.1 f.2)
theorem jl.same{K:bt}{g:Gh}{C:aq}{e:al}{h h':bz}(F:jl K g C h e)(T:kg e h)(k:∀b o,Off K g b->h.get? b=aa o->h'.get? b=aa o):jl K g C h' e/\kg e h':=by induction F with|mk a o B l c=>subst l;refine xL T λD t f j d v w x=>?_;(injection d with d;subst d);refine⟨⟨a,o,B,rfl,k _ _ c.off c.at_,c.exc,c.data,c.sz,c.off,?_,c.cx⟩,a,t,f,j,rfl,k _ _ c.off v,w,x⟩;induction c.tb with
 |no e=>exact .no e|tb T u z e p n m y i=>exact .tb T u z e p (k _ _ i n) m y i
theorem xj{t:Option aY}{T:aq}(h:t6 P (Γ.ℓ ev) t=aa T):∃x p,t=aa (.Name x p)/\iv x Γ.sc.names=aa .globalImplicit/\P.glob x=aa (.ref T)/\cK P T=ac:=by dsimp only[t6]at h;induction t with
 |none=>exact bn h|some e=>dsimp only at h;induction b:nameOf e with
  |none=>replace h:=b▸h;exact bn h|some x=>replace h:=b▸h;dsimp only at h;(refine aQ (nameOf_eq b) λp f=>?_;(clear b;subst f));induction c:(iv x Γ.sc.names==aa NameKind.globalImplicit&&(iv x ev).isNone)with
   |false=>replace h:=c▸h;exact bn h|true=>replace h:=c▸h;rw[af,beq_iff_eq]at c;induction a:P.glob x with
    |none=>have h:(match P.glob x with|aa v=>_|ak=>ak)=aa T:=h;replace h:=a▸h;exact bn h|some v=>
     have h:(match P.glob x with
      |aa v=>(match zw v with
       |aa C=>cd (cK P C) (aa C) ak|ak=>ak)|ak=>ak)=aa T:=h;replace h:=a▸h;dsimp only at h;refine xO (zw v) (λd=>?_) λC d=>?_;·replace h:=d▸h;exact bn h
     ·replace h:=d▸h;(refine bB (vE h) λg f=>?_;(clear h;(clear h;subst f)));replace a:=(asRef_eq d)▸a;exact cM x p ⟨rfl,c.1,a,g⟩
theorem Gq{K:bt}{C:aq}{c:al}{b:Bool}(e:mroIn K C c=aa b):∃cd,clsIn K C=aa cd:=by refine aE (cG.mp e) λcd a d=>⟨cd,a⟩
set_option tactic.hygienic true in theorem rY{w:aJ}{K:bt}{C:aq}{cd:ClassData}{Q:Bool->ax->Prop}{E:al->ax->Prop}(X:K.In s.heap)(hc:clsIn K C=aa cd)(h:Q ac s):wpAny (model pw w) A (isType (.ref C)) Q E s:=by
 delta clsIn at hc;split at hc;·rename_i c' d' ZB Zp ho;delta isType loadHead;exact ah (g6 (X _ _ ho) (aA h))
 ·exact bn hc
theorem rZ(f:bo P Γ.K Γ.w){a T C:aq}{o:dJ}{Q:Bool->ax->Prop}{E:al->ax->Prop}(b:Γ.K.In s.heap)(k:s.heap.get? a=aa o)(j:o.cls=.ref C)(i:cK P C=ac)(d:cK P T=ac)(h:Q (P.sub C T) s):wpAny (model pw Γ.w) A (excMatches (.ref a) (.ref T)) Q E s:=by refine bB (f.exc T d) λg l=>?_;have m:=f.W2 C T i d;refine aQ (Gq g) λcd c=>?_;unfold excMatches;refine ah ?_;unfold isInstance;refine ah (looks_typeIn b l A _ E s (λz9 z9 e=>e) ?_);refine qP.symm▸aA ?_;rw[if_neg (by decide)];refine ah (aA ?_);dsimp only;simp only[da,gm];unfold isExcClass;refine ah (ah (ah (ah (rY b c ?_))));refine(if_pos rfl).symm▸iS b g A _ E s (λz9 z9 e=>e) ?_;rw[if_neg (by decide)];refine aA (aA ?_);refine ah (wpAny_typeOf_ref k ?_);refine j.symm▸ah (ah (ah (iS b m A _ E s (λz9 z9 e=>e) ?_)));induction q:P.sub C T with
 |true=>rw[q]at h;rw[if_pos rfl];exact aA (aA (aA h))|false=>rw[q]at h;rw[if_neg (by decide)];exact aA (aA (aA h))
theorem sf{c:Type}{C:aq}{e:al}{m:String}{Q:c->ax->Prop}{E:al->ax->Prop}(I:SI Γ q ev cs s)(F:jl Γ.K q.g C s.heap e)(T:kg e s.heap)(h:∀h',SI Γ q ev cs {s with heap:=h'}->jl Γ.K q.g C h' e->kg e h'->E e {s with heap:=h'}):wpAny (model pw Γ.w) A (PySem.passOn m e Γ.env:j5 c) Q E s:=by have f:=T;(refine xL T λa o l t k g i j=>?_;(clear T;subst k));dsimp only[PySem.passOn];refine ah (bF g i j ?_);rw[if_neg (by simp)];exact ah (eO I F f λh' J d b=>wpAny_throw (h h' J d b))
theorem zN(kw:Kw P Γ sp dep)(hS:∀h,sb r (Γ.vo h))(U:jh Γ A){C:aq}(hC:cK P C=ac){e:al}(I:SI Γ q ev cs s)(F:jl Γ.K q.g C s.heap e)(T:kg e s.heap)(ht:0<s.toks){QQ:Flow->ax->Prop}{EE:al->ax->Prop}(hQ:∀b x ev' cs' q' V,Q b ev' cs'->fS Γ.w q' b x->SI Γ q' ev' cs' V->q.le q'->QQ x V)(hX:∀C e ev' cs' q' V,X C ev' cs'->jl Γ.K q'.g C V.heap e->SI Γ q' ev' cs' V->q.le q'->EE e V)(hs:List pZ):qh P r (Γ.ℓ ev) C hs cs Q X->wpAny (model pw Γ.w) A (handleBy e Γ.env hs) QQ EE s:=by have ok:=kw.kn.ok;have R:=kw.kn.cx;induction hs with
 |nil=>exactλj=>wpAny_handleBy_nil (sf I F T λh' J F' z9=>hX C e ev cs q _ j F' J (.refl _))|cons hd hs ih=>intro j;obtain⟨t,n,body,pos⟩:=hd;have F0:=F;induction F0 with|mk a o vs he Fa=>
  refine xW j λT' Js j=>qC (xj Js) λx p et t3 t4 t5=>?_;have et:t=aa (.Name x p):=et;clear Js;subst et;have Xl:e≠byPass:=by refine he.symm▸?_;intro q;cases q
  refine d0 Fa.exc λd es nn ei z8=>?_;subst he;refine wpAny_handleBy_cons (codeAny_handlers_test (xR ok R I t3 t4 λu hu=>?_)) Xl;cases hu q.g;refine rZ ok I.hs.K Fa.at_ ei.cls hC t5 ?_;clear hC ok Fa t3 t4 t5 et ei z8 Xl hu;cases H:P.sub C T' with
  |false=>replace j:=H▸j;exact ih j|true=>
   replace j:=H▸j;refine xG j λg j=>?_;rw[af,aL,aL]at g;have N:Γ.hd=ak:=R.lf.resolve_left λz=>by replace z:=(show Γ.lf=ae from g.1)▸z;exact cy z
   induction body using ai with
   |nil=>exact mX g.2|cons E bs=>induction n with
    |none=>refine codeAny_handlers_suite (eO I F T λK k i B=>?_);refine k.handled i λq1 l1 l M Jr=>(hS (.ref a) q1 ev (E::bs) cs Q X j).use U.mark (l.Jm M) ht (λfl f D c2 q2 s2 S hf J l2 z9=>hQ fl f D c2 q2 s2 S hf (J.LH N) (l1.trans l2)) λC' ex D c2 q2 s2 S f J l2=>qD (Γ:=Γ.vo (.ref a)) (kw.vo).kn.cx U.mark J f λK NW i B=>kG (Γ:=Γ.vo (.ref a)) NW i B λh3 J3 f3 z9=>hX C' ex D c2 q2 _ S f3 (J3.LH N) (l1.trans l2)|some x=>
     refine xG j λhk j=>?_;have hk:iv x Γ.sc.names=aa .local:=by simpa using hk
     refine codeAny_handlers_suite_as (eO I F T λK k i B=>?_);refine k.handled i λq1 l1 l M Jr=>?_;have YK:Γ.env.kindOf x=aa .local:=by have z:=R.oJ x;rw[hk]at z;exact gz (z.trans (beq_self_eq_true _))
     have L:=(kw.vo (h:=.ref a)).kn.cx;refine(qi (Γ:=Γ.vo (.ref a)) (lf:=ac) (Q:=λz9 env c=>env=kj x (.exc C) ev/\c=cs) (Y:=λz9 z9 z9=>False) L vK (.iN Jr) (by show wp (iv x Γ.sc.names) _;refine hk.symm▸⟨rfl,rfl⟩)).use U.mark (l.Jm M) ht (λz9 z9 D c2 q2 s2 S z9 J l2 t2=>?_) λz9 z9 z9 z9 z9 z9 h=>h.elim;(refine bB S λz1 z2=>?_;(clear I ih k l S;subst z1 z2));refine(hS (.ref a) q2 _ (E::bs) _ _ _ j).use U.mark J t2 (λfl f Y5 c3 q3 s3 h3=>h3.elim) λC' ex Y5 c3 q3 s3 h3 f J3 l3=>iq (Γ:=Γ.vo (.ref a)) L U.mark J3 f λQY v W VQ=>aE v.ns λm hm z4=>wpAny_nameGoes YK (by rw[R.loc];exact hm) (by refine R.kind.symm▸rfl) λh' m' Xh O=>?_;rw[R.loc]at Xh O;have NV:=v.store (ev':=[]) (tk:=s3.toks+1) Xh (λb o Q2 e=>(O.2 b Q2).trans e) λy w e=>by exact bn e
     refine bB (W.same (h':=h') VQ λb o hb e=>(O.2 b λz=>by have :=hb.g;rw[z,show q3.g Γ.L=aa .loc from v.loc]at this;exact us this).trans e) λY VP=>sf (Γ:=Γ.vo (.ref a)) NV Y VP λME V0 Z Zj=>qD (Γ:=Γ.vo (.ref a)) L U.mark V0 Z λYx VZ V4 VO=>kG (Γ:=Γ.vo (.ref a)) VZ V4 VO λh7 VY V3 z9=>hX C' ex [] c3 q3 _ h3 V3 (VY.LH N) ((l1.trans l2).trans l3)
theorem ik.TD{d β:Type}{rel:G->β->d->Prop}{t:j5 d}{Q:β->Vs->Cs->Prop}{QQ:d->ax->Prop}{EE:al->ax->Prop}(h:ik Γ q ev cs rel t Q X)(i:jh Γ A)(I:SI Γ q ev cs s)(g:0<s.toks)(m:∀b x ev' cs' q' a,Q b ev' cs'->rel q' b x->SI Γ q' ev' cs' a->q.le q'->0<a.toks->QQ x a)(j:∀C e ev' cs' q' a,X C ev' cs'->jl Γ.K q'.g C a.heap e->SI Γ q' ev' cs' a->q.le q'->0<a.toks->EE e a):wpAny (model pw Γ.w) A t QQ EE s:=wpAny_with_toks (n:=1) g (h A s _ _ i I g (λb x ev' cs' q' a k r J l c=>m b x ev' cs' q' a k r J l c) λC e ev' cs' q' a k f J l c=>j C e ev' cs' q' a k f J l c)
theorem Ko(M:Kw P Γ sp dep)(z:sb r Γ)(V:∀h,sb r (Γ.vo h)){body a b:List dG}{i:List pZ}{pos:gA}(h:gd (!i.isEmpty&&a.isEmpty&&b.isEmpty) (r.Ss (Γ.ℓ ev) body cs Q (λC env cs=>gd (cK P C) (qh P r (Γ.ℓ env) C i cs Q X)))):ik Γ q ev cs (fS Γ.w) (exec (.Try body i a b pos) Γ.env) Q X:=by refine xG h λg T=>?_;clear h;rw[af,af,aX,aX]at g;obtain⟨⟨S,rfl⟩,rfl⟩:=g;induction i using ai with
 |nil=>exact cy S|cons Y i=>
  intro A s QQ EE y I Z F W;refine wpAny_Try_except ((z q ev body cs _ _ T).TD y I Z (λR f u E N O v H J w z9=>?_) λC e u E N O v f J w t1=>?_);·have :=F R f u E N O v H J w;clear H;induction f with
   |next=>exact mt this|_=>exact this
  ·refine xG v λU v=>iq M.kn.cx y J f λK n j p=>eO n j p λL o m t=>zN M V y U o m t t1 (λb x d c B D k r J l=>F b x d c B D k r J (w.trans l)) (λC e d c B D k f J l=>W C e d c B D k f J (w.trans l)) (Y::i) v
end
section
variable{P:PG}{Γ:Cx}{q:G}{ev:Vs}{cs:Cs}{s:ax}{r:Wv}{sp:Spec}{dep:Nat}
theorem Bo{k:Nat}(w:Kw P Γ sp dep)(F:Sr (wv P sp k) Γ)(K:∀j,j<k->pW P sp dep j){e:aY}{Q:V->Cs->Prop}{X:XP}(h:A2 P sp (wv P sp k) (Γ.ℓ ev) e cs Q X):cE Γ q ev cs (eg Γ.w) (eval e Γ.env) Q X:=by have z:=w.kn.ok;have d:=F.E;induction e using be with
 |Constant=>exact Bu h|Name=>exact x4 z w.kn.cx h|BoolOp H N f=>induction N using ai with
  |nil=>exact h.elim|cons e u=>exact Bz d u h
 |BinOp l H A f=>dsimp only[eval_BinOp];refine(d q ev l cs _ X h).bind λa x o p g i E=>(cE.holding (d p ev A o _ X g)).bind λb y I M B D L=>.dS (.operate (BA (i.mono L) D B))|UnaryOp H A f=>dsimp only[arm_eval_UnaryOp];refine(d q ev A cs _ X h).bind λa x o p g i E=>.dS (.holding (Ff i g))|IfExp t a b f=>
  dsimp only[arm_eval_IfExp];refine(F.T q ev t cs _ X h).bind λc x o p g i E=>?_;subst i;induction c;·exact d p ev b o Q X g
  ·exact d p ev a o Q X g|Dict=>exact Fs d h|List=>refine xG h λC h=>Fq d C h|Tuple=>refine xG h λC h=>BB d C h|Compare l n u f=>refine xG h λm h=>?_;rw[arm_eval_Compare,markedEach_of_false _ _ _ (by simpa using m)];refine(d q ev l cs _ X h).bind λa x o p g i E=>?_;rw[show compareChain f x n (evalEach u Γ.env)=(compareChain f x n (evalEach u Γ.env)>>=λv=>pure v)from(bind_pure _).symm];refine(zP z.sys d n i g).bind λb y I M B D z9=>?_;subst D;exact .pure B rfl|Attribute=>refine xG h λJ h=>s6 z d J h|Subscript=>exact Ku z d h|Call=>exact Ft w d h|ListComp=>exact uH w d K h|_=>exact h.elim
theorem Bn{k:Nat}(f:Kw P Γ sp dep)(n:∀j,j<k+1->pW P sp dep j){st:dG}{Q:Fl->Vs->Cs->Prop}{X:XS}(h:(wv P sp (k+1)).S (Γ.ℓ ev) st cs Q X):ik Γ q ev cs (fS Γ.w) (exec st Γ.env) Q X:=by have u:=f.kn.ok;have o:=f.kn.cx;have i:=n k (bS k) Γ f;have l:∀j,j<k->pW P sp dep j:=λj g=>n j (gr g);induction st using Stmt.casesOn with
 |Expr e d=>exact Bt o i.E h|Pass d=>exact Fk h|Return e d=>induction e with
  |none=>exact wh h|some e=>exact zL i.E h
 |Assign C e d=>exact zQ f i.E l h|If=>exact OR i.T i.Ss h|While t a b d=>exact Bl o (λj g=>(n j g Γ f).T) (λj g=>(n j g Γ f).Ss) h|For t e m b d=>exact Ks u o i.E (λj g y z p=>(l j g _ (f.keep p)).E) (λj g y z p=>(l j g _ (f.keep p)).Ss) h|Raise e c d=>refine xW (show wp e _ from h) λA v h=>xG h λw h=>v.symm▸(dA.mp w).symm▸Bq o u i.E h|Try m B a b d=>exact Ko f i.Ss (λx=>(n k (bS k) _ f.vo).Ss) h|_=>exact h.elim
theorem Ou:∀n,pW P sp dep n:=by intro n;induction n using Nat.strongRecOn with|_ n c=>intro Γ b;induction n using bN with
 |zero=>exact⟨λz9 z9 z9 z9 z9 z9 h=>h.elim,λz9 z9 z9 z9 z9 z9 h=>h.elim,λz9 z9 z9 z9 z9 z9 h=>h.elim,λz9 z9 z9 z9 z9 z9 h=>h.elim⟩|succ k=>have a:=c k (bS k) Γ b;exact⟨λq ev e cs Q X h=>Bo b a (λj d=>c j (gr d)) h,Bm b.kn.ok.sys a.E a.T,λq ev st cs Q X h=>Bn b c h,λq ev l cs Q X h=>zK a.S a.Ss h⟩
end
section
variable{α:Type}
theorem f8:∀(N:List ao)(xs:List α)(n:ao),n∈N.take xs.length->((N.zip xs).lookup n).isSome=ac
 |[],_,_,h=>by simp at h|_::_,[],_,h=>by simp at h|m::N,x::xs,n,h=>by dsimp only[cj,aW];induction a:n==m with
  |true=>rfl|false=>
   simp only[bH,List.take_succ_cons,aD]at h;rcases h with rfl|h;·simp at a
   ·exact f8 N xs n h
theorem lookup_none:∀(l:List (ao×α))(n:ao),n∉l.map (·.1)->l.lookup n=ak
 |[],_,_=>rfl|(m,x)::l,n,h=>by dsimp only[aW];simp only[aK,aD,not_or]at h;refine(show(n==m)=ae from by simpa using h.1).symm▸lookup_none l n h.2
noncomputable def slotIn(acc:List (ao×α))(p:ao×α):List (ao×α):=if(acc.lookup p.1).isNone then acc++[p]else acc
theorem sq:∀(l acc:List (ao×α)),(∀p∈l,(acc.lookup p.1).isSome=ac)->l.foldl slotIn acc=acc
 |[],_,_=>rfl|p::l,acc,h=>by
  have a:=h p (.head _);have :slotIn acc p=acc:=by unfold slotIn;rw[if_neg (by induction q:acc.lookup p.1with|none=>rw[q]at a;exact cy a|some _=>simp)]
  rw[List.foldl_cons,this];exact sq l acc λq b=>h q (.tail _ b)
theorem sr:∀(l acc:List (ao×α)),((acc++l).map (·.1)).Nodup->l.foldl slotIn acc=acc++l
 |[],acc,_=>by simp|p::l,acc,h=>by
  have b:acc.lookup p.1=ak:=lookup_none _ _ λa=>by rw[cN,List.nodup_append]at h;exact h.2.2 _ a _ (by simp) rfl
  have :slotIn acc p=acc++[p]:=by unfold slotIn;refine b.symm▸rfl
  rw[List.foldl_cons,this,sr l (acc++[p]) (by simpa using h)];simp
theorem mn:∀(N:List ao)(ys:List α),N.Nodup->N.length=ys.length->N.filterMap (λn=>((N.zip ys).lookup n).map (n,·))=N.zip ys
 |[],_,_,_=>rfl|_::_,[],_,h=>nomatch h|m::N,y::ys,d,h=>by
  rw[d9]at d;have g:=mn N ys d.2 (g9 h);have b:∀l:List ao,m∉l->l.filterMap (λn=>(jj n ((m,y)::N.zip ys)).map (n,·))=l.filterMap (λn=>((N.zip ys).lookup n).map (n,·)):=by intro l;induction l with
   |nil=>intro _;rfl|cons a l f=>intro c;simp only[aD,not_or]at c;(refine fk.symm▸?_;rw[fk,aW,show(a==m)=ae from by simpa usingλe=>c.1 e.symm,f c.2])
  rw[fk,cj,aW,beq_self_eq_true];simp only[j8];exact(b N d.1).symm▸g.symm▸rfl
theorem fO:∀(N:List ao)(ys:List α),((N.zip ys).map (·.1)).Sublist N
 |[],_=>.slnil|_::_,[]=>List.nil_sublist _|m::N,y::ys=>by dsimp only[cj,aK];exact(fO N ys).cons_cons _
theorem zX{N:List ao}{xs D:List α}(i:N.Nodup)(m:D.length<=N.length)(g:xs.length<=N.length)(l:N.length<=xs.length+D.length):((N.drop (N.length-D.length)).zip D).foldl slotIn (N.zip xs)=N.zip (xs++D.drop (xs.length+D.length-N.length)):=by
 have j:(N.drop (N.length-D.length)).zip D=((N.drop (N.length-D.length)).zip D).take (xs.length+D.length-N.length)++(N.drop xs.length).zip (D.drop (xs.length+D.length-N.length)):=by
  conv=>lhs;rw[<-cD (xs.length+D.length-N.length) ((N.drop (N.length-D.length)).zip D)]
  congr 1;rw[List.zip,List.drop_zipWith,List.drop_drop];congr 2;omega
 have b:N.zip xs=(N.take xs.length).zip xs:=by rw[List.zip_eq_zip_take_min,Nat.min_eq_right g];simp
 have h:N.zip (xs++D.drop (xs.length+D.length-N.length))=(N.take xs.length).zip xs++(N.drop xs.length).zip (D.drop (xs.length+D.length-N.length)):=by have :N=N.take xs.length++N.drop xs.length:=(cD _ _).symm;have c:=List.zip_append (l₁:=N.take xs.length) (l₂:=xs) (r₁:=N.drop xs.length) (r₂:=D.drop (xs.length+D.length-N.length)) (by refine List.length_take.symm▸?_;lia);rw[<-this]at c;exact c
 have a:(((N.drop (N.length-D.length)).zip D).take (xs.length+D.length-N.length)).foldl slotIn (N.zip xs)=N.zip xs:=by
  refine sq _ _ λp f=>f8 N xs p.1 ?_;rw[List.zip,List.take_zipWith]at f;have e:p.1∈(N.drop (N.length-D.length)).take (xs.length+D.length-N.length):=by have :=(fO ((N.drop (N.length-D.length)).take (xs.length+D.length-N.length)) (D.take (xs.length+D.length-N.length))).subset (aG.mpr ⟨p,f,rfl⟩);exact this
  rw[List.take_drop]at e;have d:=dM e;rw[show N.length-D.length+(xs.length+D.length-N.length)=xs.length from by omega]at d;exact d
 rw[j,List.foldl_append,a,sr,b,h];rw[cN];have k:(N.take xs.length++N.drop xs.length).Nodup:=by rw[cD];exact i
 refine b.symm▸((fO _ _).append (fO _ _)).nodup k
end
theorem rt{f:ao×al->List (ao×al)->j5 (ForInStep (List (ao×al)))}(a:∀p acc,f p acc=pure (.yield (slotIn acc p))):∀(l acc:List (ao×al)),forIn l acc f=pure (l.foldl slotIn acc)
 |[],acc=>by dsimp only[gm];rfl|p::l,acc=>by rw[da,a,pure_bind,List.foldl_cons];exact rt a l (slotIn acc p)
def EP(h:bz)(dv:al)(D:List al):Prop:=(dv=.none/\D=[])\/∃T o n,dv=.ref T/\h.get? T=aa o/\o.data=.seq D.toArray n
theorem nB{s:ax}{fd:FuncData}{N:List ao}{D xs:List al}(v:fd.params.posonlyargs=[])(m:fd.params.args.map (·.arg)=N)(r:fd.params.kwonlyargs=[])(w:fd.params.vararg=ak)(c:fd.params.kwarg=ak)(hd:EP s.heap fd.defaults D)(g:N.Nodup)(k:D.length<=N.length)(i:xs.length<=N.length)(j:N.length<=xs.length+D.length):BindsTo s fd ⟨xs,[]⟩ (N.zip (xs++D.drop (xs.length+D.length-N.length))):=by
 intro M A E Q l;dsimp only[bindArgs];simp only[v,r,w,c,m,og,ed,bf,gm,pure_bind];have f:∀{t:Option (Array al)->j5 (List (ao×al))},(∀o:Option (Array al),(o.getD #[]).toList=D->wpAny M A (t o) Q E s)->wpAny M A (seqItems? fd.defaults>>=t) Q E s:=by
  intro t h;rcases hd with⟨e,rfl⟩|⟨T,o,n,e,d,b⟩;·refine e.symm▸?_;dsimp only[seqItems?];exact ah (aA (h ak rfl))
  ·refine e.symm▸ah (dF d b (h _ (by simp)))
 refine f λo d=>d.symm▸(show(decide (xs.length>N.length)&&(ak:Option PySem.Arg).isNone)=ae from by simp;omega).symm▸?_;simp only[cm,if_false,pure_bind];refine(show D.length-N.length=0from by omega).symm▸List.drop_zero.symm▸(show(List.filter (λn=>(jj n (N.zip xs)).isNone) (List.take (N.length-D.length) N))=[]from by rw[List.filter_eq_nil_iff];intro n u;have :n∈N.take xs.length:=hG (i:=N.length-D.length) (by rw[List.take_take,Nat.min_eq_left (by omega)];exact u);have z:=f8 N xs n this;induction q:(N.zip xs).lookup n with
  |none=>replace z:=q▸z;exact cy z|some _=>simp).symm▸?_;simp only[List.isEmpty_nil,Bool.not_true,cm,if_false,pure_bind];rw[rt (λp a=>by dsimp only[slotIn];cases(a.lookup p.1).isNone<;>rfl)];rw[zX g k i j];simp only[pure_bind];rw[mn N _ g (by simp;omega)];exact aA l
theorem xH{a β:Type}:∀(N:List a)(l:List β),N.length=l.length->(N.zip l).map (·.2)=l
 |[],[],_=>rfl|_::_,[],h=>nomatch h|[],_::_,h=>nomatch h|_::N,_::l,h=>by rw[cj,aK,xH N l (g9 h)]
theorem xI{a β:Type}:∀(N:List a)(l:List β),N.length=l.length->(N.zip l).map (·.1)=N
 |[],[],_=>rfl|_::_,[],h=>nomatch h|[],_::_,h=>nomatch h|_::N,_::l,h=>by rw[cj,aK,xI N l (g9 h)]
section
variable{w:aJ}{q:G}
theorem bG.drop{b β:Type}{R:b->β->Prop}{l:List b}:∀{m:List β}(k:Nat),bG R l m->bG R (l.drop k) (m.drop k):=by induction l with
 |nil=>intro m k h;subst h;refine List.drop_nil.symm▸List.drop_nil.symm▸rfl|cons a l d=>intro m k h;induction k using bN with
  |zero=>exact h|succ k=>obtain⟨y,g,e,f,c⟩:=h;subst e;exact d k c
structure Sw(w:aJ)(q:G)(ps:List ao)(D xs:List al)(cells:Cs)(e0:Vs)(c0:Cs):Prop where
 c:c0=cells
 n:e0.map (·.1)=ps
 l1:xs.length<=ps.length
 l2:ps.length<=xs.length+D.length
 v:iR w q (e0.map (·.2)) (xs++D.drop (xs.length+D.length-ps.length))
theorem Eu{d:List V}{D:List al}(u:eA w q.g d D){args:List Arg}{xs:List al}{b:Cs}{g:List CA}(a:fR w q.g args xs b g):∀{ps:List ao}{n:Nat}{k:Vs->Cs->Prop},binds ps d args n k->(∀(i:Nat)(p:CA),g[i]?=aa p->q.ca[n+i]?=aa p)->∃r o,k r o/\Sw w q ps D xs b r o:=by have m:D.length=d.length:=u.len;induction a with
 |nil=>
  intro ps n k h j;have h:gd (aU ps.length d.length) (k (ps.zip (d.drop (d.length-ps.length))) []):=by induction ps using ai<;>exact h
  refine xG h λy h=>?_;have y:=aj y;have l:ps.length=(d.drop (d.length-ps.length)).length:=by refine List.length_drop.symm▸?_;lia
  refine cM _ _ ⟨h,rfl,xI _ _ l,dp _,by dsimp only[kr];lia,?_⟩;rw[xH _ _ l,ed,kr,dk,m];exact bG.drop _ (iR.wT u)|@v v x args xs z f A a t=>intro ps n k h j;induction ps using ai with
  |nil=>exact h.elim|cons p ps=>refine c8 (t (ps:=ps) (k:=λe c=>k ((p,_)::e) c) h j) λr o s B=>cM _ _ ⟨s,B.c,by exact aK.symm▸B.n.symm▸rfl,j9 B.l1,by have :=B.l2;simp only[bH];lia,?_⟩;have :=B.v;refine(show(x::xs).length+D.length-(p::ps).length=xs.length+D.length-ps.length from by simp only[bH];lia).symm▸bl.mk _ _ rfl (.iN A) this
 |@c E C args xs z f a t=>intro ps n k h j;induction ps using ai with
  |nil=>exact h.elim|cons p ps=>refine c8 (t (ps:=ps) (n:=n+1) (k:=λe c=>k ((p,.ptr n)::e) (_::c)) h λi p e=>by have :=j (i+1) p e;refine(show n+1+i=n+(i+1)from by exact ph _ _).symm▸this) λr o s B=>?_;refine cM _ _ ⟨s,by exact B.c.symm▸rfl,by exact aK.symm▸B.n.symm▸rfl,j9 B.l1,by have :=B.l2;simp only[bH];lia,?_⟩;have :=B.v;refine(show(bZ C.1::xs).length+D.length-(p::ps).length=xs.length+D.length-ps.length from by simp only[bH];lia).symm▸bl.mk _ _ rfl (uj.mk _ (j 0 _ rfl) rfl) this
theorem AE{a:Vs}:∀{ys:List al}{x:ao}{v:V},iR w q (a.map (·.2)) ys->a.lookup x=aa v->∃u,(x,u)∈(a.map (·.1)).zip ys/\VR w q v u:=by induction a with
 |nil=>intro ys x v _ e;exact bn e|cons p a g=>intro ys x v h e;cases h with|mk u j c d f=>
  subst c;rw[aW]at e;refine xB (x==p.1) (λb=>?_) λb=>?_;·rw[b]at e;refine aE (g f e) λi m h=>⟨i,.tail _ m,h⟩
  ·rw[b]at e;(injection e with e;subst e);refine(gz b).symm▸⟨u,.head _,d⟩
end
section
theorem rF{k:ao->Option eK}:∀(l:List (ao×al))(m:ao->Option al)(x:ao),x∉l.map (·.1)->bindL k l m x=m x
 |[],_,_,_=>rfl|(n,v)::r,m,x,h=>by
  simp only[aK,aD,not_or]at h;rw[bindL,rF r _ x h.2];split;·exact if_neg h.1
  ·rfl
theorem rG{k:ao->Option eK}:∀(l:List (ao×al))(m:ao->Option al)(x:ao),x∉l.map (·.1)->bindC k l m x=m x
 |[],_,_,_=>rfl|(n,v)::r,m,x,h=>by
  simp only[aK,aD,not_or]at h;rw[bindC,rG r _ x h.2];split;·rfl
  ·exact if_neg h.1
theorem vM{k:ao->Option eK}:∀(l:List (ao×al))(m:ao->Option al)(x:ao)(u:al),(l.map (·.1)).Nodup->(x,u)∈l->k x=aa .local->bindL k l m x=aa u
 |(n,v)::r,m,x,u,a,h,b=>by
  rw[aK,d9]at a;rcases aD.mp h with e|h;·(refine bB (Prod.mk.inj e) λc d=>?_;(clear e;subst c d));rw[bindL,rF r _ _ a.1,if_pos b];exact if_pos rfl
  ·dsimp only[bindL];exact vM r _ x u a.2 h b
theorem vN{k:ao->Option eK}:∀(l:List (ao×al))(m:ao->Option al)(x:ao)(u:al),(l.map (·.1)).Nodup->(x,u)∈l->k x≠aa .local->bindC k l m x=aa u
 |(n,v)::r,m,x,u,a,h,b=>by
  rw[aK,d9]at a;rcases aD.mp h with e|h;·(refine bB (Prod.mk.inj e) λc d=>?_;(clear e;subst c d));rw[bindC,rG r _ _ a.1,if_neg b];exact if_pos rfl
  ·dsimp only[bindC];exact vN r _ x u a.2 h b
theorem jF{x:ao}:∀(a:List (ao×eK))(n:Nat)(acc:List (ao×aq)),(acc.lookup x).isSome=ac\/a.lookup x=aa .cell->((cellsFrom n a acc).lookup x).isSome=ac
  |[],n,acc,h=>by rcases h with h|h;exact h;exact bn h|(y,k)::r,n,acc,h=>by
    dsimp only[cellsFrom];split;·refine jF r (n+1) _ ?_;dsimp only[aW];cases b:x==y with
      |true=>exact .inl rfl|false=>rw[aW,b]at h;exact h
    · rename_i c;refine jF r n acc (h.imp_right λh=>?_);dsimp only[aW]at h;refine xB (x==y) (λb=>?_) λb=>?_;·rw[b]at h;exact h
      ·rw[b]at h;(injection h with h;subst h);exact absurd rfl c
theorem oY:∀(a:List (ao×eK))(n:Nat)(acc:List (ao×aq)),((cellsFrom n a acc).map (·.1)).Perm (((a.filter λp=>p.2==.cell).map (·.1))++acc.map (·.1))
 |[],n,acc=>.refl _|(y,k)::r,n,acc=>by
  rw[cellsFrom,List.filter_cons];split;·refine(oY r (n+1) _).trans ?_;simp only[aK,List.cons_append];exact List.perm_middle
  ·exact oY r n acc
end
noncomputable def kJ(L:aq)(cells:List (ao×aq))(g:Gh):Gh:=λa=>if a=L then aa .loc else match cells.find? (λp=>p.2==a)with
 |aa p=>aa (.qz p.1)|ak=>g a
section
variable{P:PG}{K:bt}{w:aJ}{rest:Array n7×Drawn×cQ}{kept:aq->Option i3}{g:Gh}{s s':ax}{Sm:V->Cell->Prop}{Ol:List CA}{cells:Cs}{frames:List Env}{hd:Option al}{lf:Bool}
theorem HS.lt(H:HS K rest kept g s){a:aq}{t:Tag}(e:g a=aa t):a<s.heap.objs.size:=by refine aQ ((H.tag a t e).1.has) λo b=>bp b
theorem DS{j:eJ}{dep:Nat}{C:Vs}{ys:List al}{qn:ao}{fo:Option aq}{cd:al}{env:Env}{Z:Prop}(H:HS K rest kept g s)(hC:fN Sm w s.heap g Ol cells)(hf:Sq frames kept)(Q:Ig hd g)(R:lf=ac\/hd=ak)(F:env=newEnv j s.heap.objs.size mainGlobals (cellsFrom (s.heap.objs.size+1) j.names []) qn fo cd ak builtinsNs)(hk:j.kind=.function)(O:j.names.lookup ("__debug__":ao)=ak)(S:(j.names.map (·.1)).Nodup)(YH:(C.map (·.1)).Nodup)(YD:∀p∈C.map (·.1),j.names.lookup p=aa .local\/j.names.lookup p=aa .cell)(hv:iR w ⟨g,Ol⟩ (C.map (·.2)) ys)(I:InCallC s env.locals (bindL env.kindOf ((C.map (·.1)).zip ys) λz9=>ak) env.cells (bindC env.kindOf ((C.map (·.1)).zip ys) λz9=>ak) s')(Kk:∀g',jJ g g'->dh ⟨K,w,rest,kept,env::frames,hd,dep,Sm,env,s.heap.objs.size,j,lf⟩->SI ⟨K,w,rest,kept,env::frames,hd,dep,Sm,env,s.heap.objs.size,j,lf⟩ ⟨g',Ol⟩ C cells s'->Z):Z:=by
  have r:env.locals=s.heap.objs.size:=by subst F;rfl
  have q:env.cells=cellsFrom (s.heap.objs.size+1) j.names []:=by subst F;rfl
  have d:∀x,env.kindOf x=j.names.lookup x:=λx=>by subst F;rfl
  (refine ej I.toInCall.same λh' tk z4=>?_;subst z4);have keep:∀b o,s.heap.get? b=aa o->h'.get? b=aa o:=I.toInCall.keep;have T:h'.Ns s.heap.objs.size (bindL env.kindOf ((C.map (·.1)).zip ys) λz9=>ak):=r▸I.toInCall.ns;have f:∀p∈env.cells,s.heap.objs.size<p.2:=λp hq=>r▸I.above p.1 p.2 hq;have L:(env.cells.map (·.1)).Nodup:=by rw[q];refine(oY j.names (s.heap.objs.size+1) []).nodup_iff.mpr ?_;rw[og,bf];exact(List.filter_sublist.map _).nodup S
  have J:∀p∈env.cells,∃o u,h'.get? p.2=aa o/\o.data=.cell u:=λp hq=>by refine aE (I.cell p.1 p.2 (gN L hq)) λo ho hd=>cM o _ ⟨ho,hd⟩
  have W:∀p∈env.cells,∀N∈env.cells,p.2=N.2->p=N:=by
    have ap:=I.apart;intro p E N YE e;have nd:(env.cells.map (·.2)).Nodup:=by rw[List.Nodup,List.pairwise_map];exact ap
    clear f J L I ap q;generalize env.cells=l at*;induction l with
    |nil=>cases E|cons y l ih=>
      rw[aK,d9]at nd;rcases aD.mp E with n|n<;>rcases aD.mp YE with A|A;·exact n.symm▸A.symm▸rfl
      ·exact absurd (by refine n▸e.symm▸de A) nd.1
      ·exact absurd (by refine A▸e▸de n) nd.1
      ·exact ih n A nd.2
  have Kz:∀{a},s.heap.objs.size<=a->K.lookup a=ak:=λ{a}h=>by induction e:K.lookup a with
    |none=>rfl|some o=>exact absurd (bp (H.K a o e)) (Nat.not_lt.mpr h)
  have B:∀{a p},env.cells.find? (λp=>p.2==a)=aa p->p∈env.cells/\p.2=a:=λe=>⟨ja e,gz (List.find?_some (p:=λp:ao×aq=>p.2==_) e)⟩;have Y:∀{a t},g a=aa t->kJ s.heap.objs.size env.cells g a=aa t:=λ{a t}e=>by have lt:=H.lt e;unfold kJ;refine(if_neg (bP lt)).symm▸?_;induction D:env.cells.find? (λp=>p.2==a)with
    |none=>exact e|some p=>refine bB (B D) λn A=>?_;have :=f p n;replace this:=A▸this;exact absurd lt (Nat.not_lt.mpr (dQ this))
  have qz:∀p∈env.cells,kJ s.heap.objs.size env.cells g p.2=aa (.qz p.1):=λp E=>by unfold kJ;refine(if_neg (bX (f p E))).symm▸?_;induction D:env.cells.find? (λN=>N.2==p.2)with
    |none=>exact absurd (beq_self_eq_true p.2) (by have :=List.find?_eq_none.mp D p E;simpa using this)|some N=>refine bB (B D) λn A=>(W N n p E A).symm▸rfl
  have le:(⟨g,Ol⟩:G).le ⟨kJ s.heap.objs.size env.cells g,Ol⟩:=⟨λa t e z9=>Y e,λz9 z9 e=>e⟩;have X:(⟨g,[]⟩:G).le ⟨kJ s.heap.objs.size env.cells g,Ol⟩:=⟨λa t e z9=>Y e,λi p e=>by induction i using bN<;>exact bn e⟩;refine Kk _ le.f ⟨by subst F;rfl,by subst F;rfl,by subst F;exact hk,r,λx=>.inl (d x),λx hx=>by show(env.cells.lookup x).isSome=ac;refine q.symm▸jF j.names _ [] (.inr ((d x).symm.trans hx)),(d _).trans O,(cM env frames ⟨rfl,rfl⟩),λe M=>?_,R⟩ ⟨⟨H.rest,λa o e=>keep _ _ (H.K a o e),λa t e=>?_,λa k e=>Y (H.kp a k e)⟩,if_pos rfl,⟨_,T,λx v e=>?_⟩,λp E=>⟨qz p E,J p E⟩,hC.1,λi c p e1 e2=>(hC.2 i c p e1 e2).to X (λa b e=>Y e) (λb o e=>⟨(H.tag b _ e).1,keep _ _ (H.tag b _ e).1⟩) (λa b o z9=>keep a o),λh e=>let⟨a,l,z⟩:=Q h e;(cM a l (z.mono le.f))⟩
  · (clear hC Q R O S r Kk L W Y qz X;rcases aD.mp M with rfl|M);·exact⟨by subst F;show j.kind≠.module;refine hk.symm▸?_;decide,s.heap.objs.size,by subst F;rfl,.inl rfl⟩
    ·refine bB (hf e M) λn z1=>c8 z1 λa m A h3=>⟨n,a,A,.inr ⟨m,h3⟩⟩
  · have e:kJ s.heap.objs.size env.cells g a=aa t:=e;unfold kJ at e;by_cases ha:a=s.heap.objs.size;·replace e:=(if_pos ha)▸e;(injection e with e;subst e);refine ha.symm▸d0 T λo z3 z5 z z8=>⟨⟨o,z⟩,Kz (a8 _)⟩
    · replace e:=(if_neg ha)▸e;refine xO (env.cells.find? (λp=>p.2==a)) (λD=>?_) λp D=>?_;·replace e:=D▸e;exact⟨(H.tag a t e).1.keep (keep a),(H.tag a t e).2⟩
      ·rw[D]at e;(injection e with e;subst e);refine bB (B D) λn A=>c8 (J p n) λo u z z6=>?_;have :=f p n;rw[A]at z this;exact⟨⟨o,z⟩,Kz (dQ this)⟩
  · refine aE (AE hv e) λu M hu=>?_;have hx:x∈C.map (·.1):=(fO (C.map (·.1)) ys).subset (aG.mpr ⟨_,M,rfl⟩);have U:(((C.map (·.1)).zip ys).map (·.1)).Nodup:=(fO _ _).nodup YH;rcases YD x hx with h|h;·exact .inl ⟨(d x).trans h,u,vM _ _ x u U M ((d x).trans h),hu.mono le⟩
    ·refine aQ (bu.mp (jF j.names (s.heap.objs.size+1) [] (.inr h))) λc hc=>?_;replace hc:=q.symm▸hc;refine aE (I.cell x c hc) λo ho hd=>?_;rw[vN _ _ x u U M (by refine(d x).symm▸h.symm▸?_;decide)]at hd;exact .inr ⟨(d x).trans h,c,o,u,hc,ho,hd,hu.mono le⟩
end
def jH(w:aJ)(h:bz)(g:Gh)(p:CA):Cell->Prop
 |.lst _ l=>Ic w h g l p.1|.inst C fs=>NX w h ⟨g,[]⟩ C fs p|.dead v=>TR w g v (.ref p.1)|.dict _=>False|.ch _=>False
def pV(Sm:V->Cell->Prop)(w:aJ)(h:bz)(g:Gh)(p:CA):Cell->Prop
 |.ch x=>∃c,Sm x c/\jH w h g p c|c=>jH w h g p c
section
variable{P:PG}{Γ:Cx}{q:G}{ev:Vs}{cs:Cs}{s:ax}{w:aJ}{h:bz}{g g':Gh}{Sm:V->Cell->Prop}{p:CA}{c:Cell}
theorem Y0{g g':Gh}(l:jJ g g'):(⟨g,[]⟩:G).le ⟨g',[]⟩:=⟨l,λz9 z9 e=>e⟩
theorem jH.mono(l:jJ g g')(x:jH w h g p c):jH w h g' p c:=by induction c with
 |lst b k=>obtain⟨f,n,a,r⟩:=x;exact⟨f,n,a,eA.mono l _ _ r⟩|inst C j=>obtain⟨o,d,n,a,i,e,r⟩:=x;exact⟨o,d,n,a,i,e,qe.mono (Y0 l) r⟩|dead v=>exact TR.mono l _ _ x|dict=>exact x|ch=>exact x
theorem pV.mono(l:jJ g g')(x:pV Sm w h g p c):pV Sm w h g' p c:=by induction c with
 |ch v=>refine aE x λc d e=>⟨c,d,e.mono l⟩|lst b f=>exact jH.mono (c:=.lst b f) l x|inst C a=>exact jH.mono (c:=.inst C a) l x|dead v=>exact jH.mono (h:=h) (c:=.dead v) l x|dict=>exact x
theorem jH.cell{i:Nat}(x:jH w h g p c)(t:∀b,shape c=aa b->g p.1=aa (.cell i ae)/\(b=ac->g p.2=aa (.cell i ac))):g5 w h ⟨g,[]⟩ i p c:=by induction c with
 |lst b l=>exact⟨(t ae rfl).1,x⟩|inst C a=>exact⟨(t ac rfl).1,(t ac rfl).2 rfl,x⟩|dead v=>exact x|dict=>exact x.elim|ch=>exact x.elim
theorem pV.cell(j:fa P Sm){i:Nat}(x:pV Sm w h g p c)(t:∀b,shape c=aa b->g p.1=aa (.cell i ae)/\(b=ac->g p.2=aa (.cell i ac))):io Sm w h ⟨g,[]⟩ i p c:=by induction c with
 |ch v=>refine aE x λc a f=>⟨c,a,f.cell λb e=>t b (by rw[(j.ok v c a).1]at e;exact e)⟩|lst b l=>exact jH.cell (c:=.lst b l) x t|inst C d=>exact jH.cell (c:=.inst C d) x t|dead v=>exact jH.cell (h:=h) (c:=.dead v) x t|dict=>exact x.elim
theorem LF(H:fa P Γ.Sm){i:Nat}{k:Cell->Cs->Prop}{Z:Prop}(a:OA i c cs k)(I:SI Γ q ev cs s)(D:cs[i]?=aa c)(L:q.ca[i]?=aa p)(K:∀o cs' q',k o cs'->q.le q'->SI Γ q' ev cs' s->pV Γ.Sm Γ.w s.heap q'.g p o->Z):Z:=by have x:=I.cr i c p D L;clear D;induction c with
 |dead v=>exact K _ cs q a (.refl _) I x|lst b l=>exact K _ cs q a (.refl _) I x.2|ch v=>refine aE x λc m B=>?_;have z:=(H.ok v c m).2;refine K _ cs q a (.refl _) I ⟨c,m,?_⟩;clear m;induction c with
  |lst b l=>exact B.2|inst C j=>
   obtain⟨o,d,n,y,A,u,r⟩:=B.2.2;have N:(j.any λf=>pG f.2)=ae:=by rw[List.any_eq_false];intro f J;refine(z.2.2.2.1 f J).symm▸λe=>cy e
   exact⟨o,d,n,y,A,u,wc (q:=q) (q':=⟨q.g,[]⟩) (λz9 z9 e z9=>e) N r⟩|_=>exact z.elim
 |inst C j=>(refine fi x λt S Q=>?_;obtain⟨o,d,n,y,A,u,r⟩:=Q);refine f9.fields.each (λl h=>⟨h.1,h.2.mono l⟩) (λl h=>⟨h.1,TR.mono l _ _ h.2⟩) j d _ _ _ Z a I r λF cs' q' a M E O R=>K _ cs' q' a M E ⟨o,d,n,y,A,u,qe.wU (sR.of O)⟩|dict l=>exact a.elim
theorem yu(B:fa P Γ.Sm)(n:Nat):∀{i:Nat}{cs:Cs}{q:G}{k:Cs->Cs->Prop}{a:List CA}{Z:Prop},xV n i cs k->SI Γ q ev cs s->a.length=n->(∀(j:Nat)(p:CA),a[j]?=aa p->q.ca[i+j]?=aa p)->(∀d cs' q',k d cs'->q.le q'->SI Γ q' ev cs' s->bG (pV Γ.Sm Γ.w s.heap q'.g) a d->Z)->Z:=by induction n with
 |zero=>intro i cs q k a Z b I f m K;induction a using ai with
  |nil=>exact K [] cs q b (.refl _) I rfl|cons=>cases f
 |succ n C=>intro i cs q k a Z b I f m K;induction a using ai with
  |nil=>cases f|cons p a=>refine xW b λc r b=>LF B b I r (m 0 p rfl) λo A F b t v y=>C b v (g9 f) (λj D e=>by have :=m (j+1) D e;refine(show i+1+j=i+(j+1)from by exact ph _ _).symm▸t.c _ _ this) λos l E b u x z=>?_;exact K _ l E b (t.trans u) x (bl.mk o os rfl (y.mono u.f) z)
theorem ra(u:fa P Γ.Sm){i:Cs}{d:List CA}{g':Gh}(I:SI Γ q ev cs s)(A:fq (cs.take d.length) i=ac)(C:∀(j:Nat)(p:CA),d[j]?=aa p->q.ca[j]?=aa p)(b:bG (pV Γ.Sm Γ.w s.heap g') d i)(z:∀a j b,q.g a=aa (.cell j b)->j<d.length->g' a=aa (.cell j b)):fN Γ.Sm Γ.w s.heap g' d i:=by
 refine⟨b.len,λj o p l n=>?_⟩;refine aE (b.get n) λH m x=>?_;rw[l]at m;(injection m with m;subst m);have r:j<d.length:=(aP.mp n).1;refine x.cell u λB y=>?_;obtain⟨k,t⟩:∃k,(cs.take d.length)[j]?=aa k:=⟨_,bg (by refine(qV A).symm▸(aP.mp l).1)⟩;have f:=su A t l;rw[List.getElem?_take,if_pos r]at t;have D:shape k=aa B:=by unfold ir at f;clear l x;induction o with
  |dead v=>exact bn y|_=>dsimp only at f;induction e:shape k with
   |none=>replace f:=e▸f;exact cy f|some a=>replace f:=e▸f;dsimp only at f;replace f:=y▸f;dsimp only at f;exact(gz f).symm▸rfl
 refine bB (lJ u (I.cr j k p t (C j p n)) D) λE F=>⟨z _ _ _ E r,λe=>z _ _ _ (F e) r⟩
theorem ru(o:fa P Γ.Sm){f:List CA}{v:V}{x:al}{QQ:Cs->b0->Prop}{Z:Prop}(I:SI Γ q ev cs s)(y:VR Γ.w q v x)(r:∀(j:Nat)(p:CA),f[j]?=aa p->q.ca[j]?=aa p)(i:i0 f.length v cs QQ)(K:∀d k q',QQ d (.v k)->q.le q'->HS Γ.K Γ.rest Γ.kept q'.g s->fN Γ.Sm Γ.w s.heap q'.g f d->TR Γ.w q'.g k x->Z):Z:=by refine f9 v x cs _ q Z i I y λk B D i l t A z9=>yu o f.length i t rfl (λj p e=>by rw[dk];exact l.c _ _ (r j p e)) λd C z i m n b=>xG i λu i=>K d k z i (l.trans m) n.hs (ra o n u (λj p e=>m.c _ _ (l.c _ _ (r j p e))) b λa j b e z9=>e) (TR.mono m.f _ _ A)
theorem DU(r:fa P Γ.Sm){k:List CA}{v:V}{x:al}{m:Bool}{QQ:Cs->b0->Prop}{Z:Prop}(I:SI Γ q ev cs s)(y:VR Γ.w q v x)(t:∀(j:Nat)(p:CA),k[j]?=aa p->q.ca[j]?=aa p)(f:xY m k.length v cs QQ)(K:∀d H q',QQ d (.v H)->q.le q'->HS Γ.K Γ.rest Γ.kept q'.g s->fN Γ.Sm Γ.w s.heap q'.g k d->TR Γ.w q'.g H x->Z)(L:∀d b l q' D xs n,QQ d (.fresh b l)->q.le q'->HS Γ.K Γ.rest Γ.kept q'.g s->fN Γ.Sm Γ.w s.heap q'.g k d->x=.ref D->Off Γ.K q'.g D->s.heap.get? D=aa (eo xs n)->eA Γ.w q'.g l xs->Z):Z:=by induction v using V.casesOn with
 |ptr i=>
  refine rE f (λC f=>?_) λz9 f=>ru r I y t f K;rw[af]at C;have O:=aj C.1;refine yu r k.length f I rfl (λj p e=>by rw[dk];exact t j p e) λd M W f A o b=>xG f λT f=>ri o (y.mono A) f λp X l xs n E N F S R f=>?_;have u:i<M.length:=by have :=(aP.mp E).1;refine o.len.symm▸this
  refine fi ((o.tJ E).IA (D:=p.1) (dB i ae .any ⟨F,gj u⟩)) λJ B U=>?_;refine L d m l _ p.1 xs n f (A.trans B) J.hs ?_ N U S (eA.mono B.f _ _ R);refine ra r o T (λj p e=>A.c _ _ (t j p e)) (bG.imp (λz9 z9 h=>h.mono B.f) b) λa j b e Q=>(la λz=>?_).trans e;replace e:=(aF.mp z)▸e;have e:W.g p.1=aa (.cell j b):=e;replace e:=F▸e;cases e;exact absurd Q (Nat.not_lt.mpr O)|_=>exact ru r I y t f K
end
section
variable{P:PG}{K:bt}{w:aJ}{Sm:V->Cell->Prop}{sp:Spec}{dep:Nat}{s:ax}
theorem HS.noLimit(j:bo P K w){b:Array n7×Drawn×cQ}{a:aq->Option i3}{g:Gh}(H:HS K b a g s):s.heap.NoLimit:=by refine hY j.LV λo d c e f h i=>⟨_,(dB o d c ⟨H.K _ _ e,f,h,λz9=>rfl⟩),i⟩
abbrev dD(P:PG)(sp:Spec):Spec:=λlf f args Q X=>wp (P.fn f) λF=>binds F.params F.pO args 0 λenv cs=>(wv P sp vt).Ss ⟨env,F.scope,lf⟩ F.body cs (xa F.keep cs.length Q) (λC z9 z9=>X C)
theorem qA(ok:bo P K w)(hS:fa P Sm)(hc:dP K w Sm sp dep):dP K w Sm (dD P sp) (dep+2):=by
  intro y r k hd lf f args xs cells E g A s Q X R h hf hh Zz Zw Tf YO YP ha hC H ht hV hF hX;refine xK λZ1 GL=>xW h λF eF h=>d0 (ok.fn f F eF) λo fd D ho c=>c8 (Eu (w:=w) (q:=⟨g,E⟩) (c.dt g) ha h (λi p e=>by rw[dk];exact e)) λe0 z h B=>GL ?_;obtain rfl:=B.c;have Y:EP s.heap fd.defaults D:=by
    rcases c.df with⟨e1,e2⟩|⟨T,oT,n,e1,e2,e3⟩;·exact .inl ⟨e1,e2⟩
    ·exact .inr (dB T oT n ⟨e1,H.K _ _ e2,e3⟩)
  have YX:D.length=F.pO.length:=(c.dt g).len;refine codeAny_call_function (by show A.depth<1000;lia) (H.K _ _ ho) c.data (by refine c.scope.symm▸c.co) (by refine c.scope.symm▸c.gen) c.body (codeRec_of H.K c.code) ?_;refine nB (s:=s) (N:=F.params) c.pos c.args c.W9 c.va c.Xa Y c.nd (by refine YX.symm▸c.dl) B.l1 B.l2 _ _ _ _ ?_;refine c.qz.symm▸c.scope.symm▸c.glob.symm▸c.bi.symm▸?_;have Z:∀x∈F.params.zip (xs++D.drop (xs.length+D.length-F.params.length)),x.1∈F.params:=λx L=>(List.of_mem_zip L).1;refine wpAny_with_toks (n:=1) ht (wpAny_newFunctionEnv_cells c.kind (λx L=>?_) λq he s' hi MF=>?_)
  · rcases c.pk x.1 (Z x L)with h|h;·exact .inl h
    ·exact .inr ⟨h,jF _ _ _ (.inr h)⟩
  · refine DS (Sm:=Sm) (w:=w) (dep:=dep+1) H hC YP YO Tf he c.kind c.M2 c.nn (by refine B.n.symm▸c.nd) (λp hp=>c.pk p (by refine B.n▸hp)) B.v (by rw[B.n];exact hi) λg' lg cx I=>?_;refine⟨(H.noLimit ok).keeps hi.toInCall.keep,codeAny_func ?_⟩;have W:jh ⟨K,w,y,r,q::k,hd,dep+1,Sm,q,s.heap.objs.size,F.scope,lf⟩ (A.deeper q):=⟨by show A.frames.map _=_;rw[hf];rfl,hh,by show A.depth+1+4*(dep+1)<990;lia,by show A.units+3+16*(dep+1)+200<9900;lia⟩;have kw:Kw P ⟨K,w,y,r,q::k,hd,dep+1,Sm,q,s.heap.objs.size,F.scope,lf⟩ sp dep:=⟨⟨ok,cx,hS⟩,rfl,hc⟩;have hl:z.length=E.length:=hC.1;refine((Ou vt _ kw).Ss ⟨g',E⟩ e0 F.body z _ _ h).use W I MF (λfl x Y6 N q1 s1 m L I1 M t1=>?_) λC e Y6 N q1 s1 m f I1 M=>?_
    · have U:∀{v u},VR w q1 v u->i0 z.length v N Q->R (.ok (.ret u)) s1:=λ{v u}hu h=>by rw[hl]at h;exact ru hS I1 hu (λj p e=>M.c _ _ e) h λd v' q' hq l2 S O t2=>hV d v' q'.g s1 u hq S (λa t e f=>l2.f _ _ (M.f _ _ (lg a t e f) f) f) O t2
      induction fl with
      |next=>subst L;exact U (v:=.none) rfl m|ret v=>
        (refine aE L λu z1 hu=>?_;(clear L;subst z1));refine xO F.keep (λG=>?_) λb G=>?_
        ·have m:(match F.keep with
            |ak=>i0 z.length v N Q|aa b=>xY b z.length v N Q):=m;rw[G]at m;exact U hu m
        ·have m:(match F.keep with
            |ak=>i0 z.length v N Q|aa b=>xY b z.length v N Q):=m;rw[G,hl]at m;refine DU hS I1 hu (λj p e=>M.c _ _ e) m (λd v' q' hq l2 S O t2=>hV d v' q'.g s1 u hq S (λa t e f=>l2.f _ _ (M.f _ _ (lg a t e f) f) f) O t2) λd b' l q' D' Wp n' hq l2 S O eu of YG t2=>?_;clear hu;subst eu;exact hF d b' l q'.g s1 D' Wp n' hq S (λa t e f=>l2.f _ _ (M.f _ _ (lg a t e f) f) f) O of YG t2|brk=>exact m.elim|cont=>exact m.elim
    ·refine v5 cx W I1 f λh' J F'=>hX C q1.g _ e m J.hs (λa t e f=>M.f _ _ (lg a t e f) f) F'
theorem dP.pick{sp i:Spec}{d k:Nat}(h:dP K w Sm sp d)(hd:d<=k)(p:∀lf f args Q X,i lf f args Q X->sp lf f args Q X):dP K w Sm i k:=λe c a j lf f args q b l g A s Q X R m n o r t=>h e c a j lf f args q b l g A s Q X R (p _ _ _ _ _ m) n o (by lia) (by lia)
end
section
variable{P:PG}{K:bt}{w:aJ}{Sm:V->Cell->Prop}{sp:Spec}{dep:Nat}
def N1(Sm:V->Cell->Prop)(a c:Cell):Prop:=match a with
 |.ch x=>Sm x c|a=>c=a
def V8(Sm:V->Cell->Prop)(a b:Arg):Prop:=match a with
 |.v v=>b=.v v|.c k=>∃k',b=.c k'/\N1 Sm k k'
abbrev nV(Sm:V->Cell->Prop):List Arg->List Arg->Prop:=bG (V8 Sm)
abbrev rT(Sm:V->Cell->Prop):Cs->Cs->Prop:=bG (N1 Sm)
abbrev AP(Sm:V->Cell->Prop)(sp:Spec):Spec:=λlf f args Q X=>∀gv,nV Sm args gv->sp lf f gv (λPS r=>∃outs,rT Sm outs PS/\Q outs r) X
theorem NO{f β:Type}{R:Nat->f->β->Prop}{l:List f}:∀{n:Nat},(∀(i:Nat)(a:f),l[i]?=aa a->∃b,R (n+i) a b)->∃m:List β,m.length=l.length/\∀(i:Nat)(a:f)(b:β),l[i]?=aa a->m[i]?=aa b->R (n+i) a b:=by induction l with
 |nil=>exactλz9=>⟨[],rfl,λi a b e=>by induction i using bN<;>exact bn e⟩|cons a l q=>intro n h;refine aQ (h 0 a rfl) λb g=>aE (q (n:=n+1) λi a e=>by obtain⟨b,g⟩:=h (i+1) a e;exact⟨b,by refine(show n+1+i=n+(i+1)from by exact ph _ _).symm▸g⟩) λm o p=>?_;refine⟨b::m,congrArg (·+1) o,λi j k c d=>?_⟩;induction i using bN with
  |zero=>(injection c with c;subst c);(injection d with d;subst d);exact g|succ i=>have :=p i j k c d;rw[show n+1+i=n+(i+1)from by exact ph _ _]at this;exact this
theorem bG.PZ{c β:Type}{R:c->β->Prop}{l:List c}:∀{m:List β},m.length=l.length->(∀(i:Nat)(a:c)(b:β),l[i]?=aa a->m[i]?=aa b->R a b)->bG R l m:=by induction l with
 |nil=>intro m h _;exact List.length_eq_zero_iff.mp h|cons a l f=>intro m h r;induction m using ai with
  |nil=>cases h|cons b m=>exact bl.mk b m rfl (r 0 a b rfl rfl) (f (g9 h) λi a b d e=>r (i+1) a b d e)
theorem rB{h:bz}{g:Gh}{l:List CA}{d:Cs}(C:fN Sm w h g l d):∃j,rT Sm d j/\((∀x c,Sm x c->shape c=aa (s7 x))->fN Sm w h g l j):=by
 refine aE (NO (β:=Cell) (R:=λi c k=>N1 Sm c k/\((∀x c,Sm x c->shape c=aa (s7 x))->∀p,l[i]?=aa p->io Sm w h ⟨g,[]⟩ i p k)) (l:=d) (n:=0) λi c e=>by obtain⟨p,o⟩:∃p,l[i]?=aa p:=⟨_,bg (by refine C.1▸(aP.mp e).1)⟩;have x:=C.2 i c p e o;rw[dk];clear e;induction c with
  |ch v=>refine aE x λk s t=>⟨k,s,λy A f=>?_⟩;rw[o]at f;(injection f with f;subst f);clear s;induction k with
   |ch=>exact t.elim|_=>exact t
  |_=>exact⟨_,rfl,λz9 A f=>by rw[o]at f;(injection f with f;(clear o;subst f));exact x⟩) λm r u=>?_;refine⟨m,bG.PZ r λi a b n q=>(u i a b n q).1,λy=>⟨r.trans C.1,λi c p n q=>?_⟩⟩;obtain⟨a,z⟩:∃a,d[i]?=aa a:=⟨_,bg (by refine r▸(aP.mp n).1)⟩;have :=(u i a c z n).2 y p (by rw[dk];exact q);rw[dk]at this;exact this
theorem sQ{g:Gh}{args:List Arg}{xs:List al}{d:Cs}{k:List CA}(a:fR w g args xs d k):∀{b:Cs},rT Sm d b->∃c,nV Sm args c/\fR w g c xs b k:=by induction a with
 |nil=>intro b h;subst h;exact⟨[],rfl,.nil⟩|v t _ j=>intro b h;refine aE (j h) λc f i=>⟨_,bl.mk _ _ rfl rfl f,.v t i⟩|c _ j=>intro b h;obtain⟨l,o,e,m,n⟩:=h;subst e;refine aE (j n) λc f i=>⟨_,bl.mk (.c l) _ rfl ⟨l,rfl,m⟩ f,.c i⟩
theorem mJ(o:fa P Sm){h:bz}{g:Gh}{k:List CA}{e d:Cs}(a:rT Sm e d)(C:fN Sm w h g k d):fN Sm w h g k e:=by refine⟨a.len.symm.trans C.1,λi c p m n=>?_⟩;refine aE (a.get m) λf j x=>?_;have y:=C.2 i f p j n;clear m;induction c with
 |ch v=>have x:Sm v f:=x;have z:=(o.ok v f x).2;refine⟨f,x,?_⟩;clear j;induction f with
  |lst b l=>exact y|inst C q=>exact y|_=>exact z.elim
 |_=>(clear j;subst x);exact y
theorem EG(E:fa P Sm)(h:dP K w Sm sp dep):dP K w Sm (AP Sm sp) dep:=by
 intro m j i hd lf f T O y u g A s Q X R L hf hh F M J I G ha hC H ht hV hF hX;refine aE (rB hC) λd Y Z=>aE (sQ ha Y) λa U W=>h m j i hd lf f a O d u g A s _ X R (L a U) hf hh F M J I G W (Z λx c e=>(E.ok x c e).1) H ht (λk v z N x S r q p t=>aE S λo B C=>hV o v z N x C r q (mJ E B p) t) (λk b l z N D O n S r q p=>aE S λo B C=>hF o b l z N D O n C r q (mJ E B p)) hX
def bq(K:bt)(w:aJ)(Sm:V->Cell->Prop)(f:aq)(c:aS)(dep:Nat):Prop:=dP K w Sm (λlf f' args Q X=>f'=f/\c lf args Q X) dep
theorem bq.of(a:fa P Sm)(h:dP K w Sm sp dep){f:aq}{c:aS}(b:∀lf args Q X,c lf args Q X->AP Sm sp lf f args Q X):bq K w Sm f c dep:=(EG a h).pick (a8 _) λlf g args Q X d=>bB d λe z=>by subst e;exact b _ _ _ _ z
theorem bq.up{f:aq}{c:aS}{d a:Nat}(h:bq K w Sm f c d)(hd:d<=a):bq K w Sm f c a:=dP.pick h hd λz9 z9 z9 z9 z9 z=>z
theorem uS(y:bo P K w)(r:fa P Sm){tab:aq->Option aS}{D:Nat}(u:∀f c,tab f=aa c->bq K w Sm f c D):∀d,dP K w Sm (aN P tab d) (D+2*d):=λd=>by induction d with
 |zero=>exactλz9 z9 z9 z9 z9 z9 z9 z9 z9 z9 z9 z9 z9 z9 z9 z9 h=>h.elim|succ d x=>
  have B:=qA y r x;intro k j b n m f a q i l g A s Q X R h o p t v;have h:(match tab f with
   |aa s=>s m a Q X|ak=>dD P (aN P tab d) m f a Q X):=h;refine xO (tab f) (λe=>?_) λc e=>?_;·rw[e]at h;exact B k j b n m f a q i l g A s Q X R h o p ‹_› ‹_›
  ·rw[e]at h;exact u f c e k j b n m f a q i l g A s Q X R ⟨rfl,h⟩ o p (by lia) (by lia)
end
section
set_option exponentiation.threshold 5000
abbrev pg:=T.pg
noncomputable def nt:aq->Option aS:=λz9=>ak
noncomputable def xr(cs:List Int)(g s n:Int):Cell:=.lst ac [.lst (cs.map V.int),.int g,.int s,.int n]
structure nU(m:Int)(cs:List Int)(g s n:Int):Prop where
 len:cs.length<=1000
 g0:0<=g
 g1:g.natAbs<2^3000
 s1:s.natAbs<2^60
 n0:0<=n
 nm:n<=m
noncomputable def bm(m:Int):Bool:=decide (m<=2^1000)
section
variable{lf:Bool}{cs:List Int}{g s n k:Int}{Q:Cs->b0->Prop}{X:aq->Prop}
noncomputable def r4(s n:Int):Int:=(s*16807+n*n+23).fmod 2147483647
def D8(cs:List Int)(g s n k:Int)(Q:Cs->b0->Prop):Prop:=br (decide (0<g)) (gd (decide (k≠0)) (gd (decide (k≠0)&&small k) (Q [xr cs (g.fdiv k) s (n+1)] (.v (.int (g.fmod k)))))) (gd (small s&&small 16807) (gd (small n&&small n) (gd (fits (cs.map V.int).length) (br (decide (n<((cs.map V.int).length:Int))) (ro (cs.map V.int) n λv=>sY .Mod (view [xr cs g (r4 s n) (n+1)] v) (.int k) [xr cs g (r4 s n) (n+1)] λv c=>i0 1 v c Q) (gd (decide ((0:Int)<=3/\(3:Int)<=1000000/\((r4 s n).fdiv 3).natAbs<2^64)) (gd (decide (k≠0)) (Q [xr cs g (r4 s n) (n+1)] (.v (.int ((((r4 s n).fdiv 3)^3).fmod k))))))))))
theorem Hq:dD pg (aN pg nt 0) lf 1500 [.c (xr cs g s n),.v (.int k)] Q X=D8 cs g s n k Q:=by kernel_rfl
theorem aB{b:Bool}{A:Prop}(h:b=ac)(a:A):gd b A:=by subst h;exact a
theorem ge{b:Bool}{A B:Prop}(h:b=ac)(a:A):br b A B:=by subst h;exact a
theorem dO{b:Bool}{A B:Prop}(h:b=ae)(a:B):br b A B:=by subst h;exact a
theorem AY{b:Type}{o:Option b}{a:b}{A:b->Prop}(h:o=aa a)(x:A a):wp o A:=by subst h;exact x
theorem fits_of{n:Nat}(h:n<=1000000):fits n=ac:=aV h
theorem m4{i:Int}{a:Nat}(h:i.natAbs<2^a)(b:a<=4000):small i=ac:=decide_eq_true (bd h (Nat.pow_le_pow_right (by decide) b))
theorem Dd(l:List Int){n:Int}(a:0<=n)(h:n<l.length)(d:l.length<=1000000):∃c,itemAt (l.map V.int) n=aa (.int c):=by
 obtain⟨j,rfl⟩:∃j:Nat,n=j:=⟨n.toNat,by exact(iG a).symm⟩;have b:j<l.length:=by exact nI h
 refine⟨l[j],?_⟩;dsimp only[itemAt];rw[az,fits_of d];have :seqIndex? (j:Int) l.length=aa j:=by dsimp only[seqIndex?];simp only[show¬((j:Int)<0)by exact ku.mpr a,if_false];simp[b]
 refine this.symm▸?_;show(l.map V.int)[j]?=_;simp[b]
theorem D7{m:Int}(x:nU m cs g s n)(q:bm m=ac)(r:0<k)(k1:k<=2^70)(h:∀g' t d,nU (m+1) cs g' t (n+1)->0<=d->d<k->Q [xr cs g' t (n+1)] (.v (.int d))):D8 cs g s n k Q:=by
  have q:m<=2^1000:=of_decide_eq_true q;have f:decide (k≠0)=ac:=decide_eq_true (by lia);obtain⟨j,u,v,l,w,A⟩:=x;have b:∀a:Int,0<=a.fmod k/\a.fmod k<k:=λa=>⟨dm a r,fU a r⟩;unfold D8;by_cases p:0<g;·refine ge (decide_eq_true p) (aB f (aB (by(refine f.symm▸?_;rw[m4 (a:=71) (by lia) (by decide)]);rfl) (h _ _ _ ⟨j,Int.fdiv_nonneg ‹_› (Oe ‹_› rfl),?_,l,by lia,by lia⟩ (b g).1 (b g).2)));have e:g.fdiv k=g/k:=eV _ (Oe ‹_› rfl);refine e.symm▸?_;have B:g/k<=g:=Int.ediv_le_self _ ‹_›;have C:0<=g/k:=Int.ediv_nonneg ‹_› (Oe ‹_› rfl);lia
  · have z:0<=r4 s n/\r4 s n<2147483647:=⟨dm _ (by decide),fU _ (by decide)⟩;have o:nU (m+1) cs g (r4 s n) (n+1):=⟨j,u,v,by lia,by lia,by lia⟩;refine dO (decide_eq_false p) (aB (by refine(m4 (a:=60) l (by decide)).symm▸rfl) (aB (by rw[m4 (a:=1001) (by lia) (by decide)];rfl) (aB (fits_of (by rw[az];exact nT ‹_› rfl)) ?_)));by_cases i:n<(cs.length:Int);·refine aQ (Dd cs w i (nT ‹_› rfl)) λc y=>ge (decide_eq_true (by rw[az];exact i)) (k5 y ?_);refine aB f (h _ _ _ o (b c).1 (b c).2)
    ·refine dO (decide_eq_false (by rw[az];exact i)) (aB (decide_eq_true ⟨by decide,by decide,?_⟩) (aB f (h _ _ _ o (b _).1 (b _).2)));have e:(r4 s n).fdiv 3=r4 s n/3:=eV _ (by decide);refine e.symm▸?_;lia
end
end
noncomputable def tk(k x:ao)(w a:V):V:=.inst 1386 [("kind",.str k),("text",.str x),("worth",w),("at",a)]
noncomputable def cJ(L:List V)(n:Int):Cell:=.inst 1484 [("tokens",.lst L),("at",.int n)]
def i8(k x s:ao):Bool:=ag k "sign"&&ag x s
abbrev s0:=aN pg nt 0
abbrev s1:=aN pg nt 1
abbrev s2:=aN pg nt 2
def fnOf(a:aq):Fn:=match pg.fn a with
 |aa F=>F|ak=>⟨[],[],[],default,ak⟩
abbrev ym(sp:Spec)(f:aq)(i:Nat)(env:Vs)(lf:Bool)(cs:Cs)(Q:Cs->b0->Prop)(X:aq->Prop):Prop:=(wv pg sp (vt-i)).Ss ⟨env,(fnOf f).scope,lf⟩ ((fnOf f).body.drop i) cs (xa ak cs.length Q) (λC z9 z9=>X C)
section
variable{lf:Bool}{L:List V}{n:Int}{k x s:ao}{w a:V}{Q:Cs->b0->Prop}{X:aq->Prop}
theorem Lj(h:itemAt L n=aa (tk k x w a))(b:Q [cJ L n] (.v (tk k x w a))):dD pg s2 lf 1411 [.c (cJ L n)] Q X:=by rw[show dD pg s2 lf 1411 [.c (cJ L n)] Q X=ro L n (λv=>i0 1 v [cJ L n] Q)from by kernel_rfl];exact k5 h b
theorem Li{C:aq}{fs:Vs}(h:itemAt L n=aa (tk k x w (.inst C fs)))(b:Q [cJ L n] (.v (.inst C fs))):dD pg s2 lf 1481 [.c (cJ L n)] Q X:=by rw[show dD pg s2 lf 1481 [.c (cJ L n)] Q X=ro L n (λv=>qF pg (view [cJ L n] v) "at" λv=>i0 1 v [cJ L n] Q)from by kernel_rfl];exact k5 h b
theorem PA(h:itemAt L n=aa (tk k x w a))(d:bO k=ac)(c:Q [cJ L n] (.v (.bool (ag k "end")))):dD pg s2 lf 1439 [.c (cJ L n)] Q X:=by rw[show dD pg s2 lf 1439 [.c (cJ L n)] Q X=ro L n (λv=>qF pg (view [cJ L n] v) "kind" λv=>E7 .Eq (view [cJ L n] v) (.str "end") λb=>i0 1 (.bool b) [cJ L n] Q)from by kernel_rfl];refine k5 h ?_;rw[show(qF pg (view [cJ L n] (tk k x w a)) "kind" λv=>E7 .Eq (view [cJ L n] v) (.str "end") λb=>i0 1 (.bool b) [cJ L n] Q)=gd (bO k&&bO "end") (Q [cJ L n] (.v (.bool (ag k "end"))))from by kernel_rfl];exact aB (by refine d.symm▸?_;kernel_rfl) c
theorem Ct(h:itemAt L n=aa (tk k x w a))(d:bO k=ac)(g:ag k "sign"=ac->bO x=ac)(f:bO s=ac)(b:Q [cJ L n] (.v (.bool (i8 k x s)))):dD pg s2 lf 1432 [.c (cJ L n),.v (.str s)] Q X:=by
 rw[show dD pg s2 lf 1432 [.c (cJ L n),.v (.str s)] Q X=ro L n (λv=>uz pg [cJ L n] v "is_sign" λm=>sj s2 lf v m [.str s] [cJ L n] (λv c=>i0 1 v c Q) (λC z9=>X C))from by kernel_rfl];refine k5 h ?_;rw[show(uz pg [cJ L n] (tk k x w a) "is_sign" λm=>sj s2 lf (tk k x w a) m [.str s] [cJ L n] (λv c=>i0 1 v c Q) (λC z9=>X C))=gd (bO k&&bO "sign") (br (ag k "sign") (gd (bO x&&bO s) (Q [cJ L n] (.v (.bool (ag x s))))) (Q [cJ L n] (.v (.bool (ag k "sign")))))from by kernel_rfl];refine aB (by refine d.symm▸?_;kernel_rfl) ?_;unfold i8 at b;induction e:ag k "sign"with
 |true=>replace b:=e▸b;exact aB (by refine(g e).symm▸f.symm▸?_;rfl) b|false=>replace b:=e▸b;exact b
theorem Lg(h:itemAt L n=aa (tk k x w a))(c:bO k=ac)(d:ag k "end"=ae)(b:Q [cJ L (n+1)] (.v (tk k x w a))):dD pg s2 lf 1425 [.c (cJ L n)] Q X:=by rw[show dD pg s2 lf 1425 [.c (cJ L n)] Q X=ro L n (λv=>ym s2 1425 1 [("self",.ptr 0),("token",v)] lf [cJ L n] Q X)from by kernel_rfl];refine k5 h ?_;rw[show ym s2 1425 1 [("self",.ptr 0),("token",tk k x w a)] lf [cJ L n] Q X=gd (bO k&&bO "end") (br (!ag k "end") (Q [cJ L (n+1)] (.v (tk k x w a))) (Q [cJ L n] (.v (tk k x w a))))from by kernel_rfl];exact aB (by refine c.symm▸?_;kernel_rfl) (ge (by refine d.symm▸?_;rfl) b)
theorem Lk(h:itemAt L n=aa (tk "name" x w a))(b:Q [cJ L (n+1)] (.v (.str x))):dD pg s2 lf 1474 [.c (cJ L n)] Q X:=by rw[show dD pg s2 lf 1474 [.c (cJ L n)] Q X=ro L n (λv=>ym s2 1474 1 [("self",.ptr 0),("token",v)] lf [cJ L n] Q X)from by kernel_rfl];refine k5 h ?_;rw[show ym s2 1474 1 [("self",.ptr 0),("token",tk "name" x w a)] lf [cJ L n] Q X=Q [cJ L (n+1)] (.v (.str x))from by kernel_rfl];exact b
theorem F4(c:fits L.length=ac)(d:n+1<(L.length:Int))(h:itemAt L (n+1)=aa (tk k x w a))(b:Q [cJ L n] (.v (tk k x w a))):dD pg s2 lf 1418 [.c (cJ L n),.v (.int 1)] Q X:=by rw[show dD pg s2 lf 1418 [.c (cJ L n),.v (.int 1)] Q X=gd (fits L.length) (br (decide (n+1<(L.length:Int))) (ro L (n+1) λv=>i0 1 v [cJ L n] Q) (ro L (-1) λv=>i0 1 v [cJ L n] Q))from by kernel_rfl];exact aB c (ge (decide_eq_true d) (k5 h b))
theorem Lh{sp:Spec}{b:Bool}(h:∀c e,c [cJ L n] (.v (.bool b))->sp lf 1432 [.c (cJ L n),.v (.str s)] c e)(d:Q [cJ L (cd b (n+1) n)] (.v (.bool b))):dD pg sp lf 1446 [.c (cJ L n),.v (.str s)] Q X:=by refine h _ _ ?_;clear h;induction b with
 |true=>exact bA (by kernel_rfl) d|false=>exact bA (by kernel_rfl) d
end
def bR(k x:ao):Prop:=bO k=ac/\(ag k "sign"=ac->bO x=ac)
noncomputable def mark(kd:ao)(ss:List ao)(pl:V):V:=.tup [.str kd,.tup (ss.map .str),pl]
inductive il(Seg:V->List V->Prop):List V->List V->Prop|rest{ts:List V}:il Seg [.lst ts] ts|tok{k x:ao}{w:V}{C:aq}{fs:Vs}{is ts:List V}:bR k x->il Seg is ts->il Seg (tk k x w (.inst C fs)::is) (tk k x w (.inst C fs)::ts)|seg{kd:ao}{ss:List ao}{pl:V}{items is ts:List V}:Seg (mark kd ss pl) items->il Seg (items++is) ts->il Seg (mark kd ss pl::is) ts
inductive lh(kd:ao)(ss:List ao):List V->Prop|tok{x:ao}{w:V}{C:aq}{fs:Vs}{l:List V}:(ag kd "sign"=ac->x∈ss)->lh kd ss (tk kd x w (.inst C fs)::l)|seg{WG:List ao}{pl:V}{l:List V}:(∀s∈WG,s∈ss)->lh kd ss (mark kd WG pl::l)
abbrev cZ(Seg:V->List V->Prop):Prop:=∀kd ss pl items,Seg (mark kd ss pl) items->lh kd ss items/\ag kd "end"=ae
inductive zz(kd:ao)(ss:List ao)(ts:List V):Prop|mk(x:ao)(w:V)(C:aq)(fs:Vs)(TQ:List V)(e:ts=tk kd x w (.inst C fs)::TQ)(f:bR kd x)(s:ag kd "sign"=ac->x∈ss)
section
variable{Seg:V->List V->Prop}
theorem x7{k x b:ao}{d:List ao}{w a c:V}:tk k x w a≠mark b d c:=λh=>nomatch h
theorem FC{l m:List ao}(h:l.map V.str=m.map V.str):l=m:=by induction l generalizing m with
 |nil=>induction m using ai with
  |nil=>rfl|cons=>cases h
 |cons a l e=>induction m using ai with
  |nil=>cases h|cons b m=>rw[aK,aK]at h;injection h with c d;injection c with c;exact c.symm▸(e d).symm▸rfl
theorem bE{f a:ao}{i c:List ao}{g b:V}(h:mark f i g=mark a c b):f=a/\i=c/\g=b:=by unfold mark at h;injection h with h;injection h with d h;injection h with e h;injection h with j _;injection d with d;injection e with e;exact⟨d,FC e,j⟩
theorem lh.append{a:ao}{b:List ao}{l is:List V}(f:lh a b l):lh a b (l++is):=by induction f with
 |tok h=>exact .tok h|seg h=>exact .seg h
theorem zz.sub{c:ao}{d a:List ao}{ts:List V}(s:∀x∈a,x∈d)(h:zz c a ts):zz c d ts:=by obtain⟨x,w,C,g,b,e,f,i⟩:=h;exact⟨x,w,C,g,b,e,f,λz=>s _ (i z)⟩
theorem il.head(m:cZ Seg){l ts:List V}(h:il Seg l ts):∀{d:ao}{e:List ao},lh d e l->zz d e ts:=by induction h with
 |rest=>intro d e f;cases f|tok j _ _=>intro d e f;generalize b:(tk _ _ _ _::_:List V)=l at f;induction f with
  |tok g=>injection b with a i;unfold tk at a;cases a;exact⟨_,_,_,_,_,rfl,j,g⟩|seg=>injection b with a _;exact absurd a x7
 |seg g _ k=>intro d e f;generalize b:(mark _ _ _::_:List V)=l at f;induction f with
  |tok=>injection b with a _;exact absurd a.symm x7|seg c=>injection b with a i;(refine fi (bE a) λn o p=>?_;(clear a;subst n o p));exact(k (m _ _ _ _ g).1.append).sub c
def Sm(Seg:V->List V->Prop):V->Cell->Prop
 |.lst its,c=>∃pre ts,il Seg its ts/\c=cJ (pre++ts) pre.length/\(pre++ts).length<=5000|.int m,c=>∃cs g s n,c=xr cs g s n/\nU m cs g s n|_,_=>False
theorem ci:fa pg (Sm Seg):=⟨λx c h=>by induction x using V.casesOn with
  |int m=>(refine ut h λr g s n j l=>?_;subst j);exact⟨rfl,rfl⟩|lst p=>
    (refine fY h λq t j l u=>?_;subst l);refine⟨rfl,rfl,by kernel_rfl,by kernel_rfl,λf b=>?_,λa k d=>?_⟩
    · rcases aD.mp b with rfl|b;·rfl
      ·refine(aF.mp b).symm▸rfl
    · have i:∀y:ao,pg.meth 1484 y=ak->ag a y=ae:=λy o=>by induction e:ag a y with
        |false=>rfl|true=>rw[aI.mp e]at d;rw[o]at d;exact bn d
      show cd (ag a "tokens") _ (cd (ag a "at") _ ak)=ak;refine(i "tokens" (by kernel_rfl)).symm▸(i "at" (by kernel_rfl)).symm▸?_;rfl|_=>exact h.elim⟩
theorem gU{pre ts:List V}{t:V}(h:(pre++t::ts).length<=5000):itemAt (pre++t::ts) pre.length=aa t:=by
 dsimp only[itemAt];refine(fits_of (nT ‹_› rfl)).symm▸?_;have :seqIndex? (pre.length:Int) (pre++t::ts).length=aa pre.length:=by dsimp only[seqIndex?];simp;lia
 refine this.symm▸?_;show(pre++t::ts)[pre.length]?=_;simp
end
noncomputable def Ca:Arg->Option V
 |.c (.ch x)=>aa x|_=>ak
noncomputable def QP:V->Option (List V)
 |.lst l=>aa l|_=>ak
def Rx(args:List Arg):Option (List V×List Arg):=match args with
 |[]=>ak|a::as=>match Ca a with
  |aa x=>(QP x).map λl=>(l,as)|ak=>ak
def p9(as:List Arg):Option ao:=match one? as with
 |aa (.v (.str s))=>aa s|_=>ak
def kdOf:List V->Option ao
 |v::_=>dX v|[]=>ak
noncomputable def T2:List V->Option (List V)
 |[_,.tup ss,_]=>aa ss|_=>ak
abbrev cur(its:List V):Cs:=[.ch (.lst its)]
noncomputable def Mx:V->Bool
 |.lst _=>ae|_=>ac
def kQ(args:List Arg)(K:List V->V->List V->List Arg->Prop):Prop:=wp (Rx args) λp=>match p.1with
 |[]=>False|it::is=>gd (Mx it) (K (it::is) it is p.2)
noncomputable def De:V->Option (ao×ao×V×V)
 |.inst _ [(_,.str k),(_,.str x),(_,w),(_,a)]=>aa (k,x,w,a)|_=>ak
noncomputable def UL:V->Option (List V)
 |.tup l=>aa l|_=>ak
def fM(it:V)(T:ao->ao->V->V->Prop)(M:List V->Prop):Prop:=match De it with
 |aa p=>T p.1 p.2.1 p.2.2.1 p.2.2.2|ak=>(match UL it with
  |aa l=>M l|ak=>False)
theorem xq{b:V}{T c:ao->ao->V->V->Prop}{M:List V->Prop}(h:fM b T M)(k:∀x y w a,T x y w a->c x y w a):fM b c M:=by unfold fM at*;revert h;induction De b with
 |some p=>exact k _ _ _ _|none=>exact id
def IQ:aS:=λz9 args Q z9=>kQ args λc it is as=>gd as.isEmpty (fM it (λk x w a=>Q (cur c) (.v (tk k x w a))) λl=>wp (kdOf l) λkd=>∀x w C fs,Q (cur c) (.v (tk kd x w (.inst C fs))))
def yg:aS:=λz9 args Q z9=>kQ args λc it is as=>gd as.isEmpty (fM it (λk x w a=>∀C fs,a=.inst C fs->Q (cur c) (.v (.inst C fs))) λl=>∀C fs,Q (cur c) (.v (.inst C fs)))
def wV(l:List V)(s:ao):Bool:=match T2 l with
 |aa ss=>!ss.any (dj s)|ak=>ae
def IP:aS:=λz9 args Q z9=>kQ args λc it is as=>wp (p9 as) λs=>gd (bO s) (fM it (λk x w a=>Q (cur c) (.v (.bool (i8 k x s)))) λl=>gd (wV l s) (Q (cur c) (.v (.bool ae))))
def IO:aS:=λz9 args Q z9=>kQ args λc it is as=>wp (p9 as) λs=>gd (bO s) (fM it (λk x w a=>br (i8 k x s) (Q (cur is) (.v (.bool ac))) (Q (cur c) (.v (.bool ae)))) λl=>gd (wV l s) (Q (cur c) (.v (.bool ae))))
def Pj:aS:=λz9 args Q z9=>kQ args λc it is as=>gd as.isEmpty (fM it (λk x w a=>Q (cur c) (.v (.bool (ag k "end")))) λl=>Q (cur c) (.v (.bool ae)))
def IM:aS:=λz9 args Q z9=>kQ args λc it is as=>gd as.isEmpty (fM it (λk x w a=>gd (!ag k "end") (Q (cur is) (.v (tk k x w a)))) λl=>False)
def IR:aS:=λz9 args Q z9=>kQ args λc it is as=>gd as.isEmpty (fM it (λk x w a=>gd (ag k "name") (Q (cur is) (.v (.str x)))) λl=>False)
theorem curA_eq{args:List Arg}{p:List V×List Arg}(h:Rx args=aa p):args=.c (.ch (.lst p.1))::p.2:=by induction args using ai with
 |nil=>exact bn h|cons a b=>induction a with
  |v=>exact bn h|c k=>induction k with
   |ch x=>induction x using V.casesOn with
    |lst l=>(injection h with h;subst h);rfl|_=>exact bn h
   |_=>exact bn h
theorem strA_eq{b:List Arg}{s:ao}(h:p9 b=aa s):b=[.v (.str s)]:=by
 unfold p9 at h;refine xO (one? b) (λe=>?_) λa e=>?_;·rw[e]at h;exact bn h
 ·rw[e]at h;refine(one_eq e).symm▸?_;clear e;induction a with
  |c=>exact bn h|v v=>induction v using V.casesOn<;>(first|exact bn h|exact cy h|(injection h with h;subst h));rfl
section
variable{Seg:V->List V->Prop}{lf:Bool}{args gv:List Arg}{Q:Cs->b0->Prop}{X:aq->Prop}
theorem nM{b a:List Arg}(h:nV (Sm Seg) b a)(e:b.isEmpty=ac):a=[]:=by replace h:=(aX.mp e)▸h;exact h
theorem zx{c a:List Arg}{s:ao}(h:nV (Sm Seg) c a)(e:p9 c=aa s):a=[.v (.str s)]:=by rw[strA_eq e]at h;(refine aE h.one λb f d=>?_;(clear h;subst f));subst d;rfl
theorem gS(n:cZ Seg){K:List V->V->List V->List Arg->Prop}{Z:Prop}(h:kQ args K)(c:nV (Sm Seg) args gv)(k:∀its i is b a pre k x w C fs ts,K its i is b->nV (Sm Seg) b a->gv=.c (cJ (pre++tk k x w (.inst C fs)::ts) pre.length)::a->(pre++tk k x w (.inst C fs)::ts).length<=5000->bR k x->its=i::is->il Seg its (tk k x w (.inst C fs)::ts)->((i=tk k x w (.inst C fs)/\il Seg is ts)\/∃o u,i=mark k o u/\ag k "end"=ae/\(ag k "sign"=ac->x∈o))->Z):Z:=by refine xW h λp e h=>?_;replace c:=(curA_eq e)▸c;cases c with|mk v a q c d=>subst q;clear e;obtain⟨y,rfl,s⟩:=c;obtain⟨pre,ts,r,rfl,m⟩:=s;obtain⟨its,b⟩:=p;cases r with
 |rest=>exact cy ((k7 h).1)|tok g f=>exact k _ _ _ b a pre _ _ _ _ _ _ (k7 h).2 d rfl m g rfl (.tok g f) (.inl ⟨rfl,f⟩)|seg j f=>obtain⟨x,w,C,fs,l,rfl,g,t⟩:=(il.seg j f).head n (.seg λz9 h=>h);exact k _ _ _ b a pre _ x w C fs l (k7 h).2 d rfl m g rfl (.seg j f) (.inr (cM _ _ ⟨rfl,(n _ _ _ _ j).2,t⟩))
theorem gK{its pre ts:List V}{r:b0}(h:il Seg its ts)(b:(pre++ts).length<=5000)(c:Q (cur its) r):∃a,rT (Sm Seg) a [cJ (pre++ts) pre.length]/\Q a r:=⟨cur its,bl.mk _ [] rfl (cM pre ts ⟨h,rfl,b⟩) rfl,c⟩
theorem pa{is pre ts:List V}{t:V}{r:b0}(h:il Seg is ts)(b:(pre++t::ts).length<=5000)(c:Q (cur is) r):∃a,rT (Sm Seg) a [cJ (pre++t::ts) (pre.length+1)]/\Q a r:=⟨cur is,bl.mk _ [] rfl (cM (pre++[t]) ts ⟨h,by simp,by simpa using b⟩) rfl,c⟩
theorem yC{a:List ao}{d:V}{k x s:ao}(h:wV [.str k,.tup (a.map .str),d] s=ac)(c:ag k "sign"=ac->x∈a):i8 k x s=ae:=by unfold i8;induction e:ag k "sign"with
 |false=>rfl|true=>induction b:ag x s with
  |false=>rfl|true=>have h:(!(a.map V.str).any (dj s))=ac:=h;rw[aL,List.any_eq_false]at h;exact absurd b (h (.str x) (de (c e)))
theorem Ke(f:cZ Seg)(h:IQ lf args Q X):AP (Sm Seg) (dD pg s2) lf 1411 args Q X:=λgv d=>by
 refine gS f h d λo s r q g p k x w C j v h a e b m i c l=>xG h λn h=>e.symm▸(nM a n).symm▸Lj (gU b) (gK c b ?_);clear f d a e b m i c n;rcases l with⟨rfl,_⟩|⟨u,t,rfl,_⟩;·exact h
 ·exact h x w C j
theorem Kd(g:cZ Seg)(h:yg lf args Q X):AP (Sm Seg) (dD pg s2) lf 1481 args Q X:=λgv f=>by
 refine gS g h f λo s r q i p k x w C c v h a e b m j d l=>xG h λn h=>e.symm▸(nM a n).symm▸Li (gU b) (gK d b ?_);clear g f a e b m j d n;rcases l with⟨rfl,_⟩|⟨u,t,rfl,_⟩;·exact h C c rfl
 ·exact h C c
theorem Kc(j:cZ Seg)(h:IP lf args Q X):AP (Sm Seg) (dD pg s2) lf 1432 args Q X:=λgv g=>by
 refine gS j h g λq y v t l r k x w C u B h a e c b m f n=>xW h λs d h=>xG h λi h=>?_;rw[e,zx a d];refine Ct (gU c) b.1 b.2 i (gK f c ?_);clear j g a e c b m f d i;rcases n with⟨rfl,_⟩|⟨A,z,rfl,_,p⟩;·exact h
 ·refine xG (show gd _ _ from h) λo h=>(yC o p).symm▸h
theorem OJ(g:cZ Seg)(h:Pj lf args Q X):AP (Sm Seg) (dD pg s2) lf 1439 args Q X:=λgv d=>by
 refine gS g h d λo t s q i p k x w C r y h a e b f j c l=>xG h λn h=>e.symm▸(nM a n).symm▸PA (gU b) f.1 (gK c b ?_);clear g d a e b f j c n;rcases l with⟨rfl,_⟩|⟨v,u,rfl,m,_⟩;·exact h
 ·refine m.symm▸h
theorem Ka(d:cZ Seg)(h:IM lf args Q X):AP (Sm Seg) (dD pg s2) lf 1425 args Q X:=λgv b=>by
 refine gS d h b λp u t r f q k x w C s z h a e c m g i j=>xG h λn h=>e.symm▸(nM a n).symm▸?_;clear d b a e g i n;rcases j with⟨rfl,o⟩|⟨y,v,rfl,_⟩;·refine xG (show gd _ _ from h) λl h=>Lg (gU c) m.1 (by simpa using l) (pa o c h)
 ·exact h.elim
theorem Kf(d:cZ Seg)(h:IR lf args Q X):AP (Sm Seg) (dD pg s2) lf 1474 args Q X:=λgv b=>by
 refine gS d h b λp u t r f q k x w C s z h a e c m g i j=>xG h λn h=>e.symm▸(nM a n).symm▸?_;clear d b a e m g i n;rcases j with⟨rfl,o⟩|⟨y,v,rfl,_⟩;·refine xG (show gd _ _ from h) λl h=>?_;cases aI.mp l;exact Lk (gU c) (pa o c h)
 ·exact h.elim
theorem Kb(m:cZ Seg)(h:IO lf args Q X):AP (Sm Seg) (dD pg (aN pg nt 3)) lf 1446 args Q X:=λgv j=>by
  refine gS m h j λf E v B n y k x w C D H h a e b d o i p=>xW h λs g h=>xG h λl h=>e.symm▸(zx a g).symm▸Lh (b:=i8 k x s) (λz A t=>Ct (gU b) d.1 d.2 l t) ?_;clear m j a e d o g l;rcases p with⟨rfl,q⟩|⟨G,F,rfl,_,u⟩
  · refine rE (show br (i8 k x s) (Q (cur v) (.v (.bool ac))) (Q (cur f) (.v (.bool ae)))from h) (λc h=>?_) λc h=>?_;·refine c.symm▸pa q b h
    ·refine c.symm▸gK i b h
  ·refine xG (show gd _ _ from h) λr h=>(yC r u).symm▸gK i b h
def HY(args:List Arg):Option (Int×Int):=match p7 args with
 |aa p=>(match Ca p.1with
  |aa (.int m)=>(match p.2with
   |.v (.int k)=>aa (m,k)|_=>ak)|_=>ak)|ak=>ak
def below(K:Int->Prop):Nat->Prop
 |0=>True|n+1=>below K n/\K (iX n)
noncomputable def upTo(th k:Int):Bool:=decide (k<=th)
def Ea(th:Int->Bool)(k:Int)(K:Int->Prop):Prop:=match th k with
 |ac=>below K k.toNat|ae=>∀d,0<=d->d<k->K d
def wF(th:Int->Bool):aS:=λz9 args Q z9=>wp (HY args) λp=>gd ((decide (0<p.2)&&decide (p.2<=2^70))&&bm p.1) (Ea th p.2 λd=>Q [.ch (.int (p.1+1))] (.v (.int d)))
theorem boxA_eq{p:Int×Int}(h:HY args=aa p):args=[.c (.ch (.int p.1)),.v (.int p.2)]:=by
 unfold HY at h;refine xO (p7 args) (λe=>?_) λa e=>?_;·rw[e]at h;exact bn h
 ·rw[e]at h;refine(two_eq e).symm▸?_;obtain⟨a,b⟩:=a;clear e;induction a with
  |v=>exact bn h|c c=>induction c with
   |ch x=>induction x using V.casesOn with
    |int m=>induction b with
     |c=>exact bn h|v v=>induction v using V.casesOn<;>(first|exact bn h|exact cy h|(injection h with h;subst h));rfl
    |_=>exact bn h
   |_=>exact bn h
theorem below_at{K:Int->Prop}{n:Nat}(h:below K n):∀d:Int,0<=d->d<n->K d:=by induction n with
 |zero=>intro d a b;exact absurd b (by show¬(d<0);exact ku.mpr a)|succ n c=>
  intro d a b;by_cases e:d=n;·refine e.symm▸h.2
  ·exact c h.1 d a (by lia)
theorem D9{b:Int->Bool}{k:Int}{K:Int->Prop}(h:Ea b k K):∀d,0<=d->d<k->K d:=λd a c=>by
 unfold Ea at h;refine xB (b k) (λe=>?_) λe=>?_;·rw[e]at h;exact h d a c
 ·rw[e]at h;exact below_at h d a (by lia)
theorem Bg{w:Int->Bool}(h:wF w lf args Q X):AP (Sm Seg) (dD pg s0) lf 1500 args Q X:=λgv a=>by refine xW h λp e h=>xG h λc h=>?_;rw[af,af]at c;rw[boxA_eq e]at a;obtain⟨x,m,q,a,f⟩:=a;subst q;(refine aE a λy i l=>?_;(clear a;subst i));(refine aE f.one λb i j=>?_;(clear f;subst i));subst j;(refine ut l λo g s n i j=>?_;(clear l;subst i));rw[Hq];refine D7 j c.2 (of_decide_eq_true c.1.1) (of_decide_eq_true c.1.2) λr v d k t u=>⟨[.ch (.int (p.1+1))],bl.mk _ [] rfl (mS o r v (n+1) ⟨rfl,k⟩) rfl,D9 h d t u⟩
end
def bM(l:List (aq×aS))(a:aq):Option aS:=T.jr a l
def iE(K:bt)(w:aJ)(S:V->Cell->Prop)(N:Nat)(l:List (aq×aS)):Prop:=∀p∈l,bq K w S p.1 p.2 N
section
variable{K:bt}{w:aJ}{Seg:V->List V->Prop}{S:V->Cell->Prop}
theorem GC{d:Type}{a:Nat}{v:d}{l:List (Nat×d)}(h:T.jr a l=aa v):(a,v)∈l:=by induction l with
 |nil=>exact bn h|cons p r c=>
  obtain⟨b,u⟩:=p;have h:(match a7 a b with
   |ac=>aa u|ae=>T.jr a r)=aa v:=h;refine xB (a7 a b) (λe=>?_) λe=>?_;·rw[e]at h;exact .tail _ (c h)
  ·rw[e]at h;(injection h with h;(clear c;subst h));rw[a9 e];exact .head _
theorem iE.run(b:bo pg K w)(a:fa pg S){N:Nat}{l:List (aq×aS)}(h:iE K w S N l)(d:Nat):dP K w S (aN pg (bM l) d) (N+2*d):=uS b a (λf c e=>h _ (GC e)) d
theorem iE.fn(i:bo pg K w)(b:fa pg S){N M:Nat}{l:List (aq×aS)}(h:iE K w S N l)(d:Nat)(a:N+2*d<=M){f:aq}{c:aS}(g:∀lf args Q X,c lf args Q X->aN pg (bM l) d lf f args Q X):bq K w S f c M:=(h.run i b d).pick a λlf k args Q X j=>bB j λe z=>by subst e;exact g _ _ _ _ z
theorem iE.nil{N:Nat}:iE K w S N []:=λz9 h=>nomatch h
theorem iE.cons{N:Nat}{f:aq}{c:aS}{l:List (aq×aS)}(h:bq K w S f c N)(b:iE K w S N l):iE K w S N ((f,c)::l):=λp a=>by
 rcases aD.mp a with rfl|a;·exact h
 ·exact b p a
theorem iE.up{N M:Nat}{l:List (aq×aS)}(h:iE K w S N l)(a:N<=M):iE K w S M l:=λp b=>(h p b).up a
theorem tA(b:bo pg K w)(a:fa pg S)(d:Nat):dP K w S (aN pg nt d) (2*d):=by have :=uS b a (tab:=nt) (D:=0) (λz9 z9 e=>bn e) d;rwa[dk]at this
def l0:List (aq×aS):=[(1411,IQ),(1425,IM),(1432,IP),(1439,Pj),(1446,IO),(1474,IR),(1481,yg),(1500,wF (upTo 11))]
noncomputable def lD(th:Int->Bool):List (aq×aS):=[(1500,wF th)]
theorem mi(a:bo pg K w){b:Int->Bool}:iE K w (Sm Seg) 8 (lD b):=.cons ((bq.of ci (qA a ci (tA a ci 0)) λz9 z9 z9 z9=>Bg).up (by decide)) .nil
theorem gu(i:bo pg K w)(b:cZ Seg):iE K w (Sm Seg) 8 l0:=by have e:=ci (Seg:=Seg);have B:∀d,dP K w (Sm Seg) (dD pg (aN pg nt d)) (2*d+2):=λd=>qA i e (tA i e d);have F:∀{d f c},d<=3->(∀g a Q X,c g a Q X->AP (Sm Seg) (dD pg (aN pg nt d)) g f a Q X)->bq K w (Sm Seg) f c 8:=λj h=>(bq.of e (B _) h).up (by lia);exact .cons (F (d:=2) (by decide) λz9 z9 z9 z9=>Ke b) (.cons (F (d:=2) (by decide) λz9 z9 z9 z9=>Ka b) (.cons (F (d:=2) (by decide) λz9 z9 z9 z9=>Kc b) (.cons (F (d:=2) (by decide) λz9 z9 z9 z9=>OJ b) (.cons (F (d:=3) (by decide) λz9 z9 z9 z9=>Kb b) (.cons (F (d:=2) (by decide) λz9 z9 z9 z9=>Kf b) (.cons (F (d:=2) (by decide) λz9 z9 z9 z9=>Kd b) (.cons (F (d:=0) (by decide) λz9 z9 z9 z9=>Bg) .nil)))))))
end
inductive TT where|n(i:Int)|s(x:ao)|m(x:ao)|r(x:ao)
noncomputable def TT.row:TT->V
 |.n i=>.tup [.str "number",.int i]|.s x=>.tup [.str "sign",.str x]|.m x=>.tup [.str "name",.str x]|.r x=>.tup [.str "register",.str x]
def bw(l:List TT):List V:=l.map TT.row
abbrev cq(l:List TT):V:=.lst (bw l)
def plainT(w:Int):List TT:=cd (decide (w<0)) [.s "-",.n (0-w)] [.n w]
inductive dE(w:Int):List TT->Prop|w0:dE w (plainT w)|w1:dE w ([.m "k",.s "+"]++plainT (w-37))|w2:dE w (plainT (w.fdiv 8)++[.s "*",.n 8,.s "+",.n (w.fmod 8)])|w3:dE w ([.s "~"]++plainT (-1-w))|w4:dE w (([.n (w.fmod 16),.s "+",.s "("]++plainT (w.fdiv 16))++[.s "<<",.n 4,.s ")"])|w5:dE w (plainT (w+100)++[.s "-",.n 100])
inductive gZ(w:Int)(name:ao):List TT->Prop|num{l}:ag name ""=ac->dE w l->gZ w name l|ahead(n:ag name ""=ae):gZ w name ([.m name,.s "+"]++plainT w)|behind{l}(h:dE w l)(n:ag name ""=ae):gZ w name (l++[.s "+",.m name])|near(n:ag name ""=ae):gZ w name ([.m "near",.s "+"]++plainT (w-4))
def GT(args:List Arg):Option Int:=match one? args with
 |aa (.v (.int k))=>aa k|_=>ak
def jd(a b:List V)(A:List V->Prop):Prop:=gd (fits (a.length+b.length)) (A (a++b))
def wA:aS:=λlf args Q z9=>wp (GT args) λw=>Q [] (.v (cq (plainT w)))
def qo:aS:=λlf args Q z9=>gd (!lf) (wp (HY args) λp=>gd (bm p.1) (∀l,dE p.2 l->Q [.ch (.int (p.1+1))] (.v (cq l))))
theorem intA_eq{args:List Arg}{k:Int}(h:GT args=aa k):args=[.v (.int k)]:=by
 unfold GT at h;refine xO (one? args) (λe=>?_) λa e=>?_;·rw[e]at h;exact bn h
 ·rw[e]at h;refine(one_eq e).symm▸?_;clear e;induction a with
  |c=>exact bn h|v v=>induction v using V.casesOn<;>(first|exact bn h|exact cy h|(injection h with h;subst h));rfl
theorem bK{b:Bool}{A:Prop}(h:gd (!b) A):b=ae/\A:=by refine xG h λe h=>⟨by simpa using e,h⟩
theorem dY(w:Int):(plainT w).length<=2:=by
 unfold plainT;cases decide (w<0);·exact eT 1
 ·exact a8 2
theorem cP{a b:List TT}(h:a.length+b.length<=1000){A:List V->Prop}(c:A (bw (a++b))):jd (bw a) (bw b) A:=by delta jd bw;rw[az,az,fits_of (nT ‹_› rfl),<-cN];exact c
section
variable{K:bt}{w:aJ}{Seg:V->List V->Prop}{lf:Bool}{m z:Int}{args:List Arg}{Q:Cs->b0->Prop}{X:aq->Prop}
theorem Cy:aN pg (bM l0) 2 lf 1526 [.v (.int z)] Q X=br (decide (z<0)) (Q [] (.v (cq [.s "-",.n (0-z)]))) (Q [] (.v (cq [.n z]))):=by kernel_rfl
theorem zr(h:wA lf args Q X):aN pg (bM l0) 2 lf 1526 args Q X:=by refine xW h λz e h=>?_;rw[intA_eq e,Cy];unfold plainT at h;induction a:decide (z<0)with
 |true=>rw[a]at h;exact h|false=>rw[a]at h;exact h
def l1:List (aq×aS):=(1526,wA)::l0
theorem yM(a:bo pg K w)(b:cZ Seg):iE K w (Sm Seg) 12 l1:=.cons ((gu a b).fn a ci 2 (by decide) λz9 z9 z9 z9=>zr) ((gu a b).up (by decide))
theorem LT:aN pg (bM l1) 2 ae 1533 [.c (.ch (.int m)),.v (.int z)] Q X=gd (bm m) ((((((True/\Q [.ch (.int (m+1))] (.v (cq (plainT z))))/\jd (bw [.m "k",.s "+"]) (bw (plainT (z-37))) λl=>Q [.ch (.int (m+1))] (.v (.lst l)))/\jd (bw (plainT (z.fdiv 8))) (bw [.s "*",.n 8,.s "+",.n (z.fmod 8)]) λl=>Q [.ch (.int (m+1))] (.v (.lst l)))/\jd (bw [.s "~"]) (bw (plainT (-1-z))) λl=>Q [.ch (.int (m+1))] (.v (.lst l)))/\jd (bw [.n (z.fmod 16),.s "+",.s "("]) (bw (plainT (z.fdiv 16))) λl=>jd l (bw [.s "<<",.n 4,.s ")"]) λl=>Q [.ch (.int (m+1))] (.v (.lst l)))/\jd (bw (plainT (z+100))) (bw [.s "-",.n 100]) λl=>Q [.ch (.int (m+1))] (.v (.lst l))):=by kernel_rfl
theorem rD(h:qo lf args Q X):aN pg (bM l1) 2 lf 1533 args Q X:=by
 (refine bB (bK h) λd h=>?_;subst d);refine xW h λp e h=>xG h λc h=>?_;rw[boxA_eq e,LT];have n:=dY;have L:∀{a b:List TT},a.length<=100->b.length<=100->a.length+b.length<=1000:=by lia
 refine aB c ⟨⟨⟨⟨⟨⟨trivial,h _ .w0⟩,?_⟩,?_⟩,?_⟩,?_⟩,?_⟩;·exact cP (by have :=n (p.2-37);show 2+_<=_;exact nL ‹_› rfl) (h _ .w1)
 ·exact cP (by have :=n (p.2.fdiv 8);show _+4<=_;exact nR ‹_› rfl) (h _ .w2)
 ·exact cP (by have :=n (-1-p.2);show 1+_<=_;exact nL ‹_› rfl) (h _ .w3)
 ·exact cP (by have :=n (p.2.fdiv 16);show 3+_<=_;exact nL ‹_› rfl) (cP (by have :=n (p.2.fdiv 16);rw[aw];show 3+_+3<=_;lia) (h _ .w4))
 ·exact cP (by have :=n (p.2+100);show _+2<=_;exact nR ‹_› rfl) (h _ .w5)
end
def lb(m:Int)(Q:Cs->b0->Prop):Cs->b0->Prop:=λouts r=>∃j,outs=[.ch (.int j)]/\j<=m/\Q [.ch (.int m)] r
theorem bI{a b:Int}(h:bm b=ac)(c:a<=b):bm a=ac:=decide_eq_true (bx c (of_decide_eq_true h))
section
variable{K:bt}{w:aJ}{Seg:V->List V->Prop}{lf:Bool}{m z:Int}{args:List Arg}{Q:Cs->b0->Prop}{X:aq->Prop}{r:b0}
theorem gc{j k:Int}(h:Q [.ch (.int k)] r)(a:j<=k):lb k Q [.ch (.int j)] r:=⟨j,rfl,a,h⟩
theorem Es{h:bz}{g:Gh}{d:List CA}{j m:Int}(l:j<=m)(C:fN (Sm Seg) w h g d [.ch (.int j)]):fN (Sm Seg) w h g d [.ch (.int m)]:=by refine⟨C.1,λi c p b k=>?_⟩;induction i using bN with
 |succ i=>exact bn b|zero=>(injection b with b;subst b);(refine aE (C.2 0 _ p rfl k) λc e x=>ut e λf g s n o a=>?_;(clear e;subst o));exact⟨_,(mS f g s n ⟨rfl,⟨a.len,a.g0,a.g1,a.s1,a.n0,bx a.nm l⟩⟩),x⟩
theorem iE.vw(ok:bo pg K w){N M:Nat}{l:List (aq×aS)}(h:iE K w (Sm Seg) N l)(d:Nat)(Z:N+2*d<=M){f:aq}{c:aS}(hc:∀lf args Q X,c lf args Q X->∃m,aN pg (bM l) d lf f args (lb m Q) X):bq K w (Sm Seg) f c M:=by
 refine bq.up ?_ Z;intro p k a hd lf U args S i B g A s Q X R⟨e,z⟩hf hh E O J G F ha W H ht hV Y hX;subst e;obtain⟨m,z⟩:=hc _ _ _ _ z;exact h.run ok ci d p k a hd lf U args S i B g A s _ X R z hf hh E O J G F ha W H ht (λo v C P x T y u q t=>cz T λj e I L=>by subst e;exact hV _ v C P x L y u (Es I q) t) (λo b l C P D S n T y u q=>cz T λj e I L=>by subst e;exact Y _ b l C P D S n L y u (Es I q)) hX
def R8(args:List Arg):Option (Int×List Arg):=match args with
 |[]=>ak|a::as=>match Ca a with
  |aa (.int m)=>aa (m,as)|_=>ak
theorem boxB_eq{p:Int×List Arg}(h:R8 args=aa p):args=.c (.ch (.int p.1))::p.2:=by induction args using ai with
 |nil=>exact bn h|cons a b=>induction a with
  |v=>exact bn h|c k=>induction k with
   |ch x=>induction x using V.casesOn<;>(first|exact bn h|exact cy h|(injection h with h;subst h));rfl|_=>exact bn h
def iL(args:List Arg)(k:Int)(K:Int->List Arg->Prop):Prop:=wp (R8 args) λp=>gd (bm (p.1+k)) (K p.1 p.2)
theorem db{k:Int}{K:Int->List Arg->Prop}{Z:Prop}(h:iL args k K)(z:∀m a,args=.c (.ch (.int m))::a->bm (m+k)=ac->K m a->Z):Z:=by refine xW h λp e h=>xG h λb h=>z p.1 p.2 (boxB_eq e) b h
noncomputable def sa:Arg->Option Int
 |.v (.int i)=>aa i|_=>ak
noncomputable def Si:Arg->Option ao
 |.v (.str i)=>aa i|_=>ak
noncomputable def Sj:Arg->Option Bool
 |.v (.bool i)=>aa i|_=>ak
theorem argI_eq{a:Arg}{x:Int}(h:sa a=aa x):a=.v (.int x):=by induction a with
 |c=>exact bn h|v v=>induction v using V.casesOn<;>(first|exact bn h|exact cy h|(injection h with h;subst h));rfl
theorem argS_eq{a:Arg}{x:ao}(h:Si a=aa x):a=.v (.str x):=by induction a with
 |c=>exact bn h|v v=>induction v using V.casesOn<;>(first|exact bn h|exact cy h|(injection h with h;subst h));rfl
theorem argB_eq{a:Arg}{x:Bool}(h:Sj a=aa x):a=.v (.bool x):=by induction a with
 |c=>exact bn h|v v=>induction v using V.casesOn<;>(first|exact bn h|exact cy h|(injection h with h;subst h));rfl
def a2{α β:Type}(f:Arg->Option α)(g:Arg->Option β)(as:List Arg):Option (α×β):=match p7 as with
 |aa p=>(match f p.1with
  |aa a=>(g p.2).map λb=>(a,b)|ak=>ak)|ak=>ak
theorem JU{i β:Type}{f:Arg->Option i}{g:Arg->Option β}{d:List Arg}{p:i×β}(h:a2 f g d=aa p):∃a b,d=[a,b]/\f a=aa p.1/\g b=aa p.2:=by unfold a2 at h;induction e:p7 d with
 |none=>replace h:=e▸h;exact bn h|some q=>
  replace h:=e▸h;dsimp only at h;refine xO (f q.1) (λc=>?_) λa c=>?_;·replace h:=c▸h;exact bn h
  ·replace h:=c▸h;(refine aE (aM.mp h) λb j k=>?_;(clear h;subst k));exact cM q.1 q.2 ⟨two_eq e,c,j⟩
def FU:aS:=λlf args Q z9=>gd (!lf) (iL args 2 λm as=>wp (a2 sa Si as) λp=>gd (ag p.2 ""||ag p.2 "alpha") (∀l,gZ p.1 p.2 l->Q [.ch (.int (m+2))] (.v (cq l))))
def l2:List (aq×aS):=(1533,qo)::l1
theorem C6(a:bo pg K w)(b:cZ Seg):iE K w (Sm Seg) 16 l2:=.cons ((yM a b).fn a ci 2 (by decide) λz9 z9 z9 z9=>rD) ((yM a b).up (by decide))
theorem FA:aN pg (bM l2) 2 ae 1540 [.c (.ch (.int m)),.v (.int z),.v (.str "")] Q X=gd (bm m) (∀l,dE z l->Q [.ch (.int (m+1))] (.v (cq l))):=by kernel_rfl
theorem Fz:aN pg (bM l2) 2 ae 1540 [.c (.ch (.int m)),.v (.int z),.v (.str "alpha")] Q X=gd (bm m) (((True/\jd (bw [.m "alpha",.s "+"]) (bw (plainT z)) λl=>Q [.ch (.int (m+1))] (.v (.lst l)))/\gd (bm (m+1)) (∀l,dE z l->jd (bw l) (bw [.s "+",.m "alpha"]) λl=>Q [.ch (.int (m+1+1))] (.v (.lst l))))/\jd (bw [.m "near",.s "+"]) (bw (plainT (z-4))) λl=>Q [.ch (.int (m+1))] (.v (.lst l))):=by kernel_rfl
theorem dE.len{l:List TT}(h:dE z l):l.length<=10:=by have n:=dY;induction h with
 |w0=>have :=n z;exact nT ‹_› rfl|w1=>have :=n (z-37);rw[aw];show 2+_<=_;omega|w2=>have :=n (z.fdiv 8);rw[aw];show _+4<=_;omega|w3=>have :=n (-1-z);rw[aw];show 1+_<=_;omega|w4=>have :=n (z.fdiv 16);rw[aw,aw];show 3+_+3<=_;omega|w5=>have :=n (z+100);rw[aw];show _+2<=_;exact nR ‹_› rfl
theorem Eh(h:FU lf args Q X):∃m,aN pg (bM l2) 2 lf 1540 args (lb m Q) X:=by
  refine bB (bK h) λo j=>?_;clear h;subst o;refine db j λm s e d h=>xW h λp i h=>xG h λk h=>?_;(refine fY (JU i) λa b q f g=>?_;(clear i;subst q));refine e.symm▸(argI_eq f).symm▸(argS_eq g).symm▸?_;obtain⟨z,t⟩:=p;simp only[aZ,aI]at k;refine⟨m+2,?_⟩;have n:=dY;clear j e f g;rcases k with rfl|rfl;·rw[FA];exact aB (bI d (iZ rfl)) λl c=>gc (h l (.num rfl c)) (qu rfl)
  · rw[Fz];refine aB (bI d (iZ rfl)) ⟨⟨⟨trivial,?_⟩,aB (bI d (qu rfl)) λl c=>?_⟩,?_⟩;·exact cP (by have :=n z;show 2+(plainT z).length<=_;exact nL ‹_› rfl) (gc (h _ (.ahead (by kernel_rfl))) (qu rfl))
    ·exact cP (by have :=c.len;show _+2<=_;exact nR ‹_› rfl) (gc (h _ (.behind c (by kernel_rfl))) (pH rfl))
    ·exact cP (by have :=n (z-4);show 2+(plainT (z-4)).length<=_;exact nL ‹_› rfl) (gc (h _ (.near (by kernel_rfl))) (qu rfl))
def qm:aS:=λlf args Q z9=>iL args 1 λm as=>gd as.isEmpty (Q [.ch (.int (m+1))] (.v (.str ""))/\Q [.ch (.int (m+1))] (.v (.str "alpha")))
theorem zS:aN pg (bM l0) 2 lf 1547 [.c (.ch (.int m))] Q X=gd (bm m) (((True/\Q [.ch (.int (m+1))] (.v (.str "")))/\Q [.ch (.int (m+1))] (.v (.str "")))/\Q [.ch (.int (m+1))] (.v (.str "alpha"))):=by kernel_rfl
theorem rC(h:qm lf args Q X):aN pg (bM l0) 2 lf 1547 args Q X:=by refine db h λm c e b h=>xG h λa h=>?_;rw[e,aX.mp a,zS];exact aB (bI b (iZ rfl)) ⟨⟨⟨trivial,h.1⟩,h.1⟩,h.2⟩
end
noncomputable def z0(nm kd:ao)(num sz:Int):V:=.inst 1070 [("name",.str nm),("kind",.str kd),("number",.int num),("size",.int sz)]
structure RG where
 nm:ao
 kd:ao
 num:Int
 sz:Int
noncomputable def g4(a b:ao)(c d:Int):RG:=⟨a,b,c,d⟩
def RG.v(r:RG):V:=z0 r.nm r.kd r.num r.sz
def gQ:List RG:=[g4 "rax" "gpr" 0 64,g4 "rcx" "gpr" 1 64,g4 "rdx" "gpr" 2 64,g4 "rbx" "gpr" 3 64,g4 "rsp" "gpr" 4 64,g4 "rbp" "gpr" 5 64,g4 "rsi" "gpr" 6 64,g4 "rdi" "gpr" 7 64,g4 "r8" "gpr" 8 64,g4 "r9" "gpr" 9 64,g4 "r10" "gpr" 10 64,g4 "r11" "gpr" 11 64,g4 "r12" "gpr" 12 64,g4 "r13" "gpr" 13 64,g4 "r14" "gpr" 14 64,g4 "r15" "gpr" 15 64,g4 "eax" "gpr" 0 32,g4 "ecx" "gpr" 1 32,g4 "edx" "gpr" 2 32,g4 "ebx" "gpr" 3 32,g4 "esp" "gpr" 4 32,g4 "ebp" "gpr" 5 32,g4 "esi" "gpr" 6 32,g4 "edi" "gpr" 7 32,g4 "r8d" "gpr" 8 32,g4 "r9d" "gpr" 9 32,g4 "r10d" "gpr" 10 32,g4 "r11d" "gpr" 11 32,g4 "r12d" "gpr" 12 32,g4 "r13d" "gpr" 13 32,g4 "r14d" "gpr" 14 32,g4 "r15d" "gpr" 15 32,g4 "ax" "gpr" 0 16,g4 "cx" "gpr" 1 16,g4 "dx" "gpr" 2 16,g4 "bx" "gpr" 3 16,g4 "sp" "gpr" 4 16,g4 "bp" "gpr" 5 16,g4 "si" "gpr" 6 16,g4 "di" "gpr" 7 16,g4 "r8w" "gpr" 8 16,g4 "r9w" "gpr" 9 16,g4 "r10w" "gpr" 10 16,g4 "r11w" "gpr" 11 16,g4 "r12w" "gpr" 12 16,g4 "r13w" "gpr" 13 16,g4 "r14w" "gpr" 14 16,g4 "r15w" "gpr" 15 16,g4 "al" "gpr" 0 8,g4 "cl" "gpr" 1 8,g4 "dl" "gpr" 2 8,g4 "bl" "gpr" 3 8,g4 "spl" "gpr" 4 8,g4 "bpl" "gpr" 5 8,g4 "sil" "gpr" 6 8,g4 "dil" "gpr" 7 8,g4 "r8b" "gpr" 8 8,g4 "r9b" "gpr" 9 8,g4 "r10b" "gpr" 10 8,g4 "r11b" "gpr" 11 8,g4 "r12b" "gpr" 12 8,g4 "r13b" "gpr" 13 8,g4 "r14b" "gpr" 14 8,g4 "r15b" "gpr" 15 8,g4 "ah" "high" 4 8,g4 "ch" "high" 5 8,g4 "dh" "high" 6 8,g4 "bh" "high" 7 8,g4 "xmm0" "xmm" 0 128,g4 "xmm1" "xmm" 1 128,g4 "xmm2" "xmm" 2 128,g4 "xmm3" "xmm" 3 128,g4 "xmm4" "xmm" 4 128,g4 "xmm5" "xmm" 5 128,g4 "xmm6" "xmm" 6 128,g4 "xmm7" "xmm" 7 128,g4 "xmm8" "xmm" 8 128,g4 "xmm9" "xmm" 9 128,g4 "xmm10" "xmm" 10 128,g4 "xmm11" "xmm" 11 128,g4 "xmm12" "xmm" 12 128,g4 "xmm13" "xmm" 13 128,g4 "xmm14" "xmm" 14 128,g4 "xmm15" "xmm" 15 128,g4 "rip" "rip" 0 64,g4 "fs" "segment" 4 16,g4 "gs" "segment" 5 16]
def MJ:List RG:=gQ.take 64
def highs:List RG:=(gQ.drop 64).take 4
abbrev Go:Type:=(Cs->b0->Prop)->(aq->Prop)->Prop
def Be(r:RG):Go:=λQ z9=>Q [] (.v r.v)
def Ri(r:RG):Go:=aN pg nt 8 ae 1137 [.v (.str r.nm)]
def U4(r:RG):Go:=aN pg nt 4 ae 1095 [.v (.int r.num),.v (.int r.sz)]
def Q3(r:RG):Go:=aN pg nt 4 ae 1102 [.v (.int r.num)]
theorem Hb:gQ.map Ri=gQ.map Be:=by kernel_rfl
theorem G2:MJ.map U4=MJ.map Be:=by kernel_rfl
theorem Dt:highs.map Q3=highs.map Be:=by kernel_rfl
def MH(l:List RG)(kd:ao)(n z:Int):Bool:=l.any λr=>decide (r.num=n)&&decide (r.sz=z)&&ag r.kd kd
theorem G3:((cU 16).all λn=>([8,16,32,64]:List Int).all λz=>MH MJ "gpr" (n:Int) z)=ac:=by kernel_rfl
theorem Du:((cU 4).all λn=>MH highs "high" ((n:Int)+4) 8)=ac:=by kernel_rfl
theorem za{l:List RG}{a:ao}{n z:Int}(h:MH l a n z=ac):∃r∈l,r.num=n/\r.sz=z/\r.kd=a:=by refine aE (fb.mp h) λr b h=>?_;rw[af,af,decide_eq_true_iff,decide_eq_true_iff,aI]at h;exact⟨r,b,h.1.1,h.1.2,h.2⟩
def gw(nm kd:ao)(n z:Int):Prop:=(⟨nm,kd,n,z⟩:RG)∈gQ
noncomputable def kz(z:Int):Bool:=decide (z=8)||decide (z=16)||decide (z=32)||decide (z=64)
def MB(args:List Arg):Option (Int×Int):=match p7 args with
 |aa (.v (.int a),.v (.int b))=>aa (a,b)|_=>ak
def FW:aS:=λlf args Q z9=>gd (!lf) (wp (MB args) λp=>gd (decide (0<=p.1)&&decide (p.1<=15)&&kz p.2) (∀nm,gw nm "gpr" p.1 p.2->Q [] (.v (z0 nm "gpr" p.1 p.2))))
def IT:aS:=λlf args Q z9=>gd (!lf) (wp (GT args) λn=>gd (decide (4<=n)&&decide (n<=7)) (∀nm,gw nm "high" n 8->Q [] (.v (z0 nm "high" n 8))))
theorem int2_eq{args:List Arg}{p:Int×Int}(h:MB args=aa p):args=[.v (.int p.1),.v (.int p.2)]:=by
 unfold MB at h;refine xO (p7 args) (λe=>?_) λa e=>?_;·rw[e]at h;exact bn h
 ·rw[e]at h;refine(two_eq e).symm▸?_;obtain⟨a,b⟩:=a;clear e;induction a with
  |c=>exact bn h|v a=>induction a using V.casesOn with
   |int i=>induction b with
    |c=>exact bn h|v b=>induction b using V.casesOn<;>(first|exact bn h|exact cy h|(injection h with h;subst h));rfl
   |_=>exact bn h
theorem i7{z:Int}(h:kz z=ac):z∈([8,16,32,64]:List Int):=by
 unfold kz at h;simp only[aZ,decide_eq_true_iff]at h;rcases h with((rfl|rfl)|rfl)|rfl;·exact .head _
 ·exact .tail _ (.head _)
 ·exact .tail _ (.tail _ (.head _))
 ·exact .tail _ (.tail _ (.tail _ (.head _)))
section
variable{K:bt}{w:aJ}{Seg:V->List V->Prop}{lf:Bool}{args:List Arg}{Q:Cs->b0->Prop}{X:aq->Prop}
theorem El(h:FW lf args Q X):aN pg nt 4 lf 1095 args Q X:=by
 refine bB (bK h) λi j=>?_;clear h;subst i;refine xW j λp e h=>xG h λc k=>(int2_eq e).symm▸?_;obtain⟨n,z⟩:=p;simp only[af,decide_eq_true_iff]at c;have t:=am.mp (am.mp G3 n.toNat (gi.mpr (by lia))) z (i7 c.2);refine xP (za t) λr g b d f=>?_;have b:r.num=n:=by refine b.symm▸iG c.1.1
 have v:=congrFun (congrFun (aH.mp G2 r g) Q) X;have l:=k r.nm (by have :=hG g;dsimp only[gw];refine f▸b▸d▸this);show aN pg nt 4 ae 1095 [.v (.int n),.v (.int z)] Q X;have a:Be r Q X:=by show Q [] (.v (z0 r.nm r.kd r.num r.sz));refine b.symm▸d.symm▸f.symm▸l
 replace a:=v.symm▸a;have a:aN pg nt 4 ae 1095 [.v (.int r.num),.v (.int r.sz)] Q X:=a;replace a:=d▸b▸a;exact a
theorem Np(h:IT lf args Q X):aN pg nt 4 lf 1102 args Q X:=by
 refine bB (bK h) λi j=>?_;clear h;subst i;refine xW j λn e h=>xG h λc k=>(intA_eq e).symm▸?_;simp only[af,decide_eq_true_iff]at c;have t:=am.mp Du (n-4).toNat (gi.mpr (by lia));refine xP (za t) λr g b d f=>?_;have b:r.num=n:=by refine b.symm▸?_;lia
 have v:=congrFun (congrFun (aH.mp Dt r g) Q) X;have l:=k r.nm (by have :=dM (hG g);unfold gw;refine f▸b▸d▸this);have a:Be r Q X:=by show Q [] (.v (z0 r.nm r.kd r.num r.sz));refine b.symm▸d.symm▸f.symm▸l
 rw[<-v]at a;have a:aN pg nt 4 ae 1102 [.v (.int r.num)] Q X:=a;replace a:=b▸a;exact a
end
def bT(z:Int):ao:=cd (decide (z=8)) "b" (cd (decide (z=16)) "w" (cd (decide (z=32)) "l" "q"))
def tn:aS:=λlf args Q z9=>gd (!lf) (iL args 1 λm as=>wp (a2 sa Sj as) λp=>gd (kz p.1) (Q [.ch (.int (m+1))] (.v (.str (bT p.1)))/\br p.2 True (Q [.ch (.int (m+1))] (.v (.str "")))))
def Ql(m:Int)(b:Bool)(z:Int):Go:=aN pg (bM l0) 2 ae 1519 [.c (.ch (.int m)),.v (.int z),.v (.bool b)]
def Qk(m:Int)(b:Bool)(z:Int):Go:=λQ X=>br b (Q [.ch (.int m)] (.v (.str (bT z)))) (gd (bm m) ((True/\Q [.ch (.int (m+1))] (.v (.str "")))/\Q [.ch (.int (m+1))] (.v (.str (bT z)))))
theorem Mh(m:Int)(b:Bool):([8,16,32,64]:List Int).map (Ql m b)=([8,16,32,64]:List Int).map (Qk m b):=by kernel_rfl
noncomputable def Aa(r:V):V:=.inst 800 [("kind",.str "reg"),("register",r)]
def oz(nm kd:ao)(n z:Int):V:=.tup [cq [.r nm],Aa (z0 nm kd n z)]
def r6(kd:ao):Bool:=ag kd "gpr"||ag kd "high"
def uU:aS:=λlf args Q z9=>gd (!lf) (iL args 1 λm as=>wp (one? as) λa=>wp (sa a) λz=>gd (kz z) (∀nm kd n,gw nm kd n z->r6 kd=ac->Q [.ch (.int (m+1))] (.v (oz nm kd n z))))
section
variable{K:bt}{w:aJ}{Seg:V->List V->Prop}{lf:Bool}{m z:Int}{args:List Arg}{Q:Cs->b0->Prop}{X:aq->Prop}
theorem vH(h:tn lf args Q X):∃m,aN pg (bM l0) 2 lf 1519 args (lb m Q) X:=by refine bB (bK h) λi j=>?_;clear h;subst i;refine db j λm n e k h=>xW h λp f h=>xG h λg h=>?_;(refine fY (JU f) λa b l c d=>?_;(clear f;subst l));refine e.symm▸(argI_eq c).symm▸(argB_eq d).symm▸?_;have v:=congrFun (congrFun (aH.mp (Mh m p.2) p.1 (i7 g)) (lb (m+1) Q)) X;refine⟨m+1,?_⟩;show Ql m p.2 p.1 _ X;refine v.symm▸?_;unfold Qk;obtain⟨z,b⟩:=p;clear g c d v;induction b with
 |true=>exact gc h.1 (iZ rfl)|false=>exact aB (bI k (iZ rfl)) ⟨⟨trivial,gc h.2 (qu rfl)⟩,gc h.1 (qu rfl)⟩
def l3:List (aq×aS):=(1095,FW)::(1102,IT)::lD (upTo 11)
theorem bq.run(g:bo pg K w)(d:Nat){M:Nat}(a:2*d<=M){f:aq}{c:aS}(b:∀lf args Q X,c lf args Q X->aN pg nt d lf f args Q X):bq K w (Sm Seg) f c M:=(tA g ci d).pick a λlf i args Q X h=>bB h λe z=>by subst e;exact b _ _ _ _ z
theorem QM(a:bo pg K w):iE K w (Sm Seg) 8 l3:=.cons (bq.run a 4 (by decide) λz9 z9 z9 z9=>El) (.cons (bq.run a 4 (by decide) λz9 z9 z9 z9=>Np) (mi a))
def Y1(m d z:Int)(Q:Cs->b0->Prop):Prop:=gd (decide (0<=d)&&decide (d<=15)&&ac) (∀nm,gw nm "gpr" d z->Q [.ch (.int (m+1))] (.v (oz nm "gpr" d z)))
def YV(m d:Int)(Q:Cs->b0->Prop):Prop:=gd (decide (4<=d-12)&&decide (d-12<=7)) (∀nm,gw nm "high" (d-12) 8->Q [.ch (.int (m+1))] (.v (oz nm "high" (d-12) 8)))
def Ps(m z:Int):Go:=aN pg (bM l3) 3 ae 1554 [.c (.ch (.int m)),.v (.int z)]
def Uh(m z:Int):Go:=λQ X=>gd (bm m) (∀d:Int,0<=d->d<cd (decide (z=8)) 20 16->br (decide (d<16)) (Y1 m d z Q) (YV m d Q))
theorem K9(m:Int):([8,16,32,64]:List Int).map (Ps m)=([8,16,32,64]:List Int).map (Uh m):=by kernel_rfl
theorem RM(h:uU lf args Q X):aN pg (bM l3) 3 lf 1554 args Q X:=by
  refine bB (bK h) λn f=>?_;clear h;subst n;refine db f λm r e q h=>xW h λa o h=>xW h λz k h=>xG h λl h=>e.symm▸(one_eq o).symm▸(argI_eq k).symm▸?_;have v:=congrFun (congrFun (aH.mp (K9 m) z (i7 l)) Q) X;show Ps m z Q X;refine v.symm▸aB (bI q (iZ rfl)) λd f b=>?_;by_cases g:d<16;·refine ge (decide_eq_true g) (aB ?_ λj i=>h j "gpr" d i (by kernel_rfl));refine(decide_eq_true f).symm▸(decide_eq_true (show d<=15 by lia)).symm▸?_;rfl
  · have p:z=8:=by
      refine xB (decide (z=8)) (λc=>?_) λc=>?_;·rw[c]at b;exact absurd b g
      ·exact of_decide_eq_true c
    clear k l v;subst p;have b:d<20:=b;refine dO (decide_eq_false g) (aB ?_ λj i=>h j "high" (d-12) i (by kernel_rfl));refine(decide_eq_true (show 4<=d-12 by lia)).symm▸(decide_eq_true (show d-12<=7 by lia)).symm▸?_;rfl
end
def m7:Option RG->V
 |ak=>.none|aa r=>r.v
noncomputable def Uf:Option RG->List TT
 |ak=>[]|aa r=>[.r r.nm]
def Tb(i:Option RG)(s:Int)(k:Bool):List TT:=match i with
 |ak=>[]|aa r=>[.s ",",.r r.nm]++cd k [.s ",",.n s] []
def eD(b i:Option RG)(s:Int)(k:Bool):List TT:=[.s "("]++Uf b++Tb i s k++[.s ")"]
def Cg:aS:=λlf args Q z9=>gd (!lf) (iL args 1 λm as=>∃b i s,as=[.v (m7 b),.v (m7 i),.v (.int s)]/\∀k,(decide (1<s)=ac->k=ac)->Q [.ch (.int (m+1))] (.v (cq (eD b i s k))))
section
variable{lf:Bool}{m s:Int}{b i:Option RG}{args:List Arg}{Q:Cs->b0->Prop}{X:aq->Prop}
def Ar(m s:Int)(b i:Option RG):Go:=aN pg (bM l0) 2 ae 1561 [.c (.ch (.int m)),.v (m7 b),.v (m7 i),.v (.int s)]
def Dj(m s:Int)(b i:Option RG):Go:=λQ X=>match i with
 |ak=>Q [.ch (.int m)] (.v (cq (eD b ak s ac)))|aa r=>br (decide (1<s)) (Q [.ch (.int m)] (.v (cq (eD b (aa r) s ac)))) (gd (bm m) ((True/\Q [.ch (.int (m+1))] (.v (cq (eD b (aa r) s ae))))/\Q [.ch (.int (m+1))] (.v (cq (eD b (aa r) s ac)))))
theorem tP(b i:RG):[Ar m s ak ak,Ar m s (aa b) ak,Ar m s ak (aa i),Ar m s (aa b) (aa i)]=[Dj m s ak ak,Dj m s (aa b) ak,Dj m s ak (aa i),Dj m s (aa b) (aa i)]:=by kernel_rfl
theorem inn_eq:Ar m s b i Q X=Dj m s b i Q X:=by have d:RG:=⟨"","",0,0⟩;induction b with
 |none=>induction i with
  |none=>exact congrFun (congrFun (bj (tP d d)).1 Q) X|some i=>exact congrFun (congrFun (bj (bj (bj (tP d i)).2).2).1 Q) X
 |some b=>induction i with
  |none=>exact congrFun (congrFun (bj (bj (tP b d)).2).1 Q) X|some i=>exact congrFun (congrFun (bj (bj (bj (bj (tP b i)).2).2).2).1 Q) X
theorem HQ(h:Cg lf args Q X):∃m,aN pg (bM l0) 2 lf 1561 args (lb m Q) X:=by refine bB (bK h) λc d=>?_;clear h;subst c;refine db d λm j e f h=>d0 h λb i s a h=>e.symm▸a.symm▸⟨m+1,?_⟩;show Ar m s b i _ X;refine inn_eq.symm▸?_;clear a;induction i with
 |none=>exact gc (h ac λz9=>rfl) (iZ rfl)|some i=>show br (decide (1<s)) _ _;induction g:decide (1<s)with
  |true=>exact gc (h ac λz9=>rfl) (iZ rfl)|false=>exact aB (bI f (iZ rfl)) ⟨⟨trivial,gc (h ae λz=>cy (g.symm.trans z)) (qu rfl)⟩,gc (h ac λz9=>rfl) (qu rfl)⟩
end
def rA{α:Type}(f:α->Prop)(l:List α):Prop:=l.foldl (λP a=>P/\f a) True
theorem jE{d:Type}{f:d->Prop}{l:List d}(h:∀a∈l,f a):rA f l:=by
 have c:∀(l:List d)(P:Prop),P->(∀a∈l,f a)->l.foldl (λP a=>P/\f a) P:=by intro l;induction l with
  |nil=>exactλP p z9=>p|cons a l g=>exactλP p h=>g (P/\f a) ⟨p,h a (.head _)⟩ λb e=>h b (.tail _ e)
 exact c l True trivial h
noncomputable def nw:List (List ao):=[["o"],["no"],["b","c","nae"],["ae","nb","nc"],["e","z"],["ne","nz"],["be","na"],["a","nbe"],["s"],["ns"],["p","pe"],["np","po"],["l","nge"],["ge","nl"],["le","ng"],["g","nle"]]
noncomputable def mm:List ao->ao
 |[]=>""|x::_=>x
inductive jg(oW word:ao):Prop|mk(r:List ao)(h:r∈nw)(e:oW=mm r)(w:word∈r)
def IV:aS:=λlf args Q z9=>gd (!lf) (iL args 2 λm as=>gd as.isEmpty (∀oW word,jg oW word->Q [.ch (.int (m+2))] (.v (.tup [.str oW,.str word]))))
section
variable{K:bt}{w:aJ}{Seg:V->List V->Prop}{lf:Bool}{m:Int}{args:List Arg}{Q:Cs->b0->Prop}{X:aq->Prop}
theorem Hy:aN pg (bM (lD (upTo 32))) 2 ae 1589 [.c (.ch (.int m))] Q X=gd (bm m) (rA (λr=>gd (bm (m+1)) (rA (λx=>Q [.ch (.int (m+1+1))] (.v (.tup [.str (mm r),.str x]))) r)) nw):=by kernel_rfl
theorem Nv(h:IV lf args Q X):aN pg (bM (lD (upTo 32))) 2 lf 1589 args Q X:=by refine bB (bK h) λb d=>?_;clear h;subst b;refine db d λm i e a h=>xG h λc h=>?_;rw[e,aX.mp c,Hy];refine aB (bI a (iZ rfl)) (jE λr f=>aB (bI a (qu rfl)) (jE λx g=>?_));have :=h (mm r) x ⟨r,f,rfl,g⟩;rwa[show m+2=m+1+1from by lia]at this
end
section
set_option exponentiation.threshold 300
noncomputable def As(w:Int)(nm:ao):V:=.inst 834 [("kind",.str "imm"),("worth",.int w),("name",.str nm)]
def isNm(nm:ao):Bool:=ag nm ""||ag nm "alpha"
def Pi:aS:=λlf args Q z9=>gd (!lf) (iL args 4 λm as=>wp (one? as) λa=>wp (sa a) λz=>gd (kz z) (∀w nm l,-(2^(z.toNat-1))<=w->w<2^(z.toNat-1)->isNm nm=ac->gZ w nm l->Q [.ch (.int (m+4))] (.v (.tup [cq ([.s "$"]++l),As w nm]))))
section
variable{K:bt}{w:aJ}{Seg:V->List V->Prop}{lf:Bool}{m:Int}{args:List Arg}{Q:Cs->b0->Prop}{X:aq->Prop}
def l4:List (aq×aS):=(1540,FU)::(1547,qm)::lD (upTo 11)
theorem QK(a:bo pg K w)(b:cZ Seg):iE K w (Sm Seg) 20 l4:=.cons ((C6 a b).vw a 2 (by decide) λz9 z9 z9 z9=>Eh) (.cons ((gu a b).fn a ci 2 (by decide) λz9 z9 z9 z9=>rC) ((mi a).up (by decide)))
def QX(m z:Int):Go:=aN pg (bM l4) 3 ae 1582 [.c (.ch (.int m)),.v (.int z)]
def MD(m:Int)(w:Int)(Q:Cs->b0->Prop)(nm:ao):Prop:=gd (bm (m+1+1+2)) (∀l,gZ w nm l->jd (bw [.s "$"]) (bw l) λR=>Q [.ch (.int (m+1+1+2))] (.v (.tup [.lst R,As w nm])))
def UP(m z:Int):Go:=λQ X=>gd (bm m) (∀d:Int,0<=d->d<1*2^z.toNat->gd (bm (m+1+1)) (MD m (d-1*2^(z-1).toNat) Q ""/\MD m (d-1*2^(z-1).toNat) Q "alpha"))
theorem MC(m:Int):([8,16,32,64]:List Int).map (QX m)=([8,16,32,64]:List Int).map (UP m):=by kernel_rfl
theorem RT(h:Pi lf args Q X):aN pg (bM l4) 3 lf 1582 args Q X:=by
 refine bB (bK h) λp i=>?_;clear h;subst p;refine db i λm y e f h=>xK λx g=>xW h λa q h=>xW h λz r h=>xG h λn h=>g ?_;refine e.symm▸(one_eq q).symm▸(argI_eq r).symm▸?_;have v:=congrFun (congrFun (aH.mp (MC m) z (i7 n)) Q) X;show QX m z Q X;refine v.symm▸?_;have o:z.toNat-1+1=z.toNat/\(z-1).toNat=z.toNat-1:=by have :=i7 n;simp only[aD,dW,or_false]at this;lia
 have pw:(2:Int)^z.toNat=2^(z.toNat-1)*2:=by obtain⟨k,t⟩:∃k,z.toNat=k+1:=⟨z.toNat-1,by lia⟩;(refine t.symm▸?_;rw[Nat.add_sub_cancel,Int.pow_succ])
 refine aB (bI f (iZ rfl)) λd i s=>?_;rw[Int.one_mul,pw]at s;have b:∀c,isNm c=ac->MD m (d-1*2^(z-1).toNat) Q c:=λc u=>by
  refine aB (bI f (yV rfl)) λl j=>cP ?_ ?_;·cases j with
   |num _ h=>have :=h.len;show 1+l.length<=_;exact nL ‹_› rfl|ahead=>have :=dY (d-1*2^(z-1).toNat);rw[aw];show 1+(2+_)<=_;lia|behind h=>have :=h.len;rw[aw];show 1+(_+2)<=_;lia|near=>have :=dY (d-1*2^(z-1).toNat-4);rw[aw];show 1+(2+_)<=_;lia
  ·have :=h (d-1*2^(z-1).toNat) c l (by refine o.2.symm▸?_;lia) (by refine o.2.symm▸?_;lia) u j;rwa[show m+4=m+1+1+2from by lia]at this
 exact aB (bI f (pH rfl)) ⟨b "" (by kernel_rfl),b "alpha" (by kernel_rfl)⟩
end
end
section
set_option exponentiation.threshold 300
noncomputable def FZ:RG:=⟨"rip","rip",0,64⟩
noncomputable def gp(nm:ao)(n z:Int):RG:=⟨nm,"gpr",n,z⟩
def hM(b i:Option RG)(s w z:Int)(a nm:ao):V:=.inst 928 [("kind",.str "mem"),("base",m7 b),("index",m7 i),("scale",.int s),("worth",.int w),("size",.int z),("segment",.str a),("name",.str nm)]
def qa(a:ao):List TT:=cd (ag a "") [] [.r a,.s ":"]
def ek(a:ao):Bool:=ag a ""||ag a "fs"||ag a "gs"
noncomputable def Di(s:Int):Bool:=decide (s=1)||decide (s=2)||decide (s=4)||decide (s=8)
noncomputable def hU(w:Int):Bool:=decide (-2147483648<=w)&&decide (w<2147483648)
inductive fw:Option RG->Option RG->Prop|none{i}:fw ak i|Ue:fw (aa FZ) ak|Th{nm n i}(h:gw nm "gpr" n 64):fw (aa (gp nm n 64)) i
inductive j4:Option RG->Int->Prop|none:j4 ak 1|ce{nm n s}(h:gw nm "gpr" n 64)(h4:decide (n=4)=ae)(hs:Di s=ac):j4 (aa (gp nm n 64)) s
inductive Ie(a:ao)(w:Int)(nm:ao):Option RG->Option RG->Int->List TT->Prop|bare{e}(h:gZ w nm e):Ie a w nm ak ak 1 (qa a++e)|sum{b i s k e}(hb:fw b i)(hi:j4 i s)(hk:decide (1<s)=ac->k=ac)(n:(b.isNone&&i.isNone)=ae)(h:gZ w nm e):Ie a w nm b i s ((qa a++e)++eD b i s k)|tail{b i s k}(hb:fw b i)(hi:j4 i s)(hk:decide (1<s)=ac->k=ac)(n:(b.isNone&&i.isNone)=ae)(h1:w=0)(h2:nm=""):Ie a w nm b i s (qa a++eD b i s k)
structure je(a:ao)(b i:Option RG)(s w:Int)(nm:ao)(l:List TT):Prop where
 sg:ek a=ac
 rg:hU w=ac
 nk:isNm nm=ac
 pl:Ie a w nm b i s l
def N9(a:ao)(b i:Option RG)(s w:Int)(nm:ao)(z:Int)(l:List TT):V:=.tup [cq l,hM b i s w z a nm]
def tm:aS:=λlf args Q z9=>gd (!lf) (iL args 16 λm as=>wp (one? as) λx=>wp (sa x) λz=>∀a b i s w nm l,je a b i s w nm l->Q [.ch (.int (m+16))] (.v (N9 a b i s w nm z l)))
section
variable(a:ao)(z:Int)(Q:Cs->b0->Prop)
def Hp(R:List V)(b i:Option RG)(s w:Int)(nm:ao)(m:Int):Prop:=match b.isNone&&i.isNone with
 |ac=>Q [.ch (.int m)] (.v (.tup [.lst R,hM b i s w z a nm]))|ae=>gd (bm (m+1)) (∃b' i' s',[Arg.v (m7 b),.v (m7 i),.v (.int s)]=[.v (m7 b'),.v (m7 i'),.v (.int s')]/\∀k,(decide (1<s')=ac->k=ac)->jd R (bw (eD b' i' s' k)) λR'=>Q [.ch (.int (m+1))] (.v (.tup [.lst R',hM b i s w z a nm])))
def zU(b i:Option RG)(s w:Int)(nm:ao)(m:Int):Prop:=gd (bm (m+2)) (∀l,gZ w nm l->jd (bw (qa a)) (bw l) λR=>Hp a z Q R b i s w nm (m+2))
def S1(b i:Option RG)(s w:Int)(nm:ao)(m:Int):Prop:=match ag nm ""with
 |ae=>zU a z Q b i s w nm m|ac=>gd (bm m) (∀d:Int,0<=d->d<2->br (decide (d=1)) (zU a z Q b i s w nm (m+1)) (Hp a z Q (bw (qa a)) b i s w nm (m+1)))
def PY(b i:Option RG)(s w:Int)(nm:ao)(m:Int):Prop:=match b.isNone&&i.isNone with
 |ac=>zU a z Q b i s w nm m|ae=>br (!decide (w=0)) (zU a z Q b i s w nm m) (S1 a z Q b i s w nm m)
def Ik(b i:Option RG)(s:Int)(nm:ao)(m:Int):Prop:=match b.isNone&&i.isNone with
 |ac=>zU a z Q b i s 0 nm m|ae=>S1 a z Q b i s 0 nm m
def CM(b i:Option RG)(s:Int)(m:Int)(nm:ao):Prop:=gd (bm m) (∀d:Int,0<=d->d<3->br (decide (0<d)) (gd (bm (m+1)) (∀e:Int,0<=e->e<4294967296->PY a z Q b i s (e-2147483648) nm (m+1+1))) (Ik a z Q b i s nm (m+1)))
def zT(b i:Option RG)(s:Int)(m:Int):Prop:=gd (bm (m+1)) (CM a z Q b i s (m+1) ""/\CM a z Q b i s (m+1) "alpha")
def ML(n:Int)(K:ao->Prop):Prop:=gd (decide (0<=n)&&decide (n<=15)&&kz 64) (∀nm,gw nm "gpr" n 64->K nm)
def UK(b:Option RG)(n m:Int):Prop:=ML n λnm=>gd (bm m) (∀d:Int,0<=d->d<4->gd (decide (0<=d/\d<=1000000/\(1:Int).natAbs<2^64)) (zT a z Q b (aa (gp nm n 64)) (1*2^d.toNat) (m+1)))
def Tc(b:Option RG)(m:Int):Prop:=gd (bm m) (∀d:Int,0<=d->d<2->br (decide (d=1)) (gd (bm (m+1)) (∀n:Int,0<=n->n<15->br (decide (n<4)) (UK a z Q b n (m+1+1)) (UK a z Q b (n+1) (m+1+1)))) (zT a z Q b ak 1 (m+1)))
def v7(m:Int):Prop:=gd (bm m) (∀d:Int,0<=d->d<6->br (decide (d=0)) (br (decide (0<d)) (Tc a z Q (aa FZ) (m+1)) (zT a z Q (aa FZ) ak 1 (m+1))) (br (decide (1<d)) (gd (bm (m+1)) (∀n:Int,0<=n->n<16->ML n λnm=>br (decide (0<d)) (Tc a z Q (aa (gp nm n 64)) (m+1+1)) (zT a z Q (aa (gp nm n 64)) ak 1 (m+1+1)))) (br (decide (0<d)) (Tc a z Q ak (m+1)) (zT a z Q ak ak 1 (m+1)))))
end
def l5:List (aq×aS):=(1540,FU)::(1547,qm)::(1561,Cg)::(1095,FW)::lD (λk=>decide (k=5))
section
variable{K:bt}{w:aJ}{Seg:V->List V->Prop}{lf:Bool}{m:Int}{args:List Arg}{Q:Cs->b0->Prop}{X:aq->Prop}
theorem QJ(a:bo pg K w)(b:cZ Seg):iE K w (Sm Seg) 20 l5:=.cons ((C6 a b).vw a 2 (by decide) λz9 z9 z9 z9=>Eh) (.cons ((gu a b).fn a ci 2 (by decide) λz9 z9 z9 z9=>rC) (.cons ((gu a b).vw a 2 (by decide) λz9 z9 z9 z9=>HQ) (.cons (bq.run a 4 (by decide) λz9 z9 z9 z9=>El) ((mi a).up (by decide)))))
theorem Cz(z:Int):aN pg (bM l5) 3 ae 1568 [.c (.ch (.int m)),.v (.int z)] Q X=gd (bm m) (((((True/\v7 "" z Q (m+1))/\v7 "" z Q (m+1))/\v7 "" z Q (m+1))/\v7 "fs" z Q (m+1))/\v7 "gs" z Q (m+1)):=by kernel_rfl
end
theorem gZ.len{z:Int}{nm:ao}{l:List TT}(h:gZ z nm l):l.length<=12:=by have n:=dY;induction h with
 |num _ h=>have :=h.len;exact nT ‹_› rfl|ahead=>have :=n z;rw[aw];show 2+_<=_;exact nL ‹_› rfl|behind h=>have :=h.len;rw[aw];show _+2<=_;exact nR ‹_› rfl|near=>have :=n (z-4);rw[aw];show 2+_<=_;exact nL ‹_› rfl
theorem qY(a:ao):(qa a).length<=2:=by
 unfold qa;cases ag a "";·exact a8 2
 ·exact dp 2
theorem jo(b i:Option RG)(s:Int)(k:Bool):(eD b i s k).length<=7:=by induction b<;>induction i<;>induction k<;>exact aj rfl
section
variable{a nm:ao}{b i:Option RG}{s w z m M:Int}{Q:Cs->b0->Prop}{R:List TT}
theorem D6(g:bm M=ac)(c:m+1<=M)(j:R.length<=100)(d:(b.isNone&&i.isNone)=ac->Q [.ch (.int M)] (.v (N9 a b i s w nm z R)))(f:(b.isNone&&i.isNone)=ae->∀k,(decide (1<s)=ac->k=ac)->Q [.ch (.int M)] (.v (N9 a b i s w nm z (R++eD b i s k)))):Hp a z (lb M Q) (bw R) b i s w nm m:=by unfold Hp;induction e:b.isNone&&i.isNone with
 |true=>exact gc (d e) (yW ‹_› rfl)|false=>refine aB (bI g c) (dB b i s ⟨rfl,λk h=>?_⟩);have :=jo b i s k;exact cP (nA ‹_› ‹_› rfl) (gc (f e k h) c)
abbrev NT(a:ao)(z M:Int)(Q:Cs->b0->Prop):Prop:=∀b i s w nm l,je a b i s w nm l->Q [.ch (.int M)] (.v (N9 a b i s w nm z l))
theorem qk(d:bm M=ac)(r:m+3<=M)(f:ek a=ac)(n:hU w=ac)(j:isNm nm=ac)(g:fw b i)(h:j4 i s)(H:NT a z M Q):zU a z (lb M Q) b i s w nm m:=by refine aB (bI d (Jo ‹_› rfl)) λl c=>?_;have p:=c.len;have q:=qY a;refine cP (nA ‹_› ‹_› rfl) (D6 d (At ‹_› rfl) (by refine aw.symm▸nA ‹_› ‹_› rfl) (λe=>?_) λe k o=>H _ _ _ _ _ _ ⟨f,n,j,.sum g h o e c⟩);clear g;induction b with
 |some=>exact cy e|none=>induction h with
  |ce=>exact cy e|none=>exact H _ _ _ _ _ _ ⟨f,n,j,.bare c⟩
theorem CJ(c:bm M=ac)(v:m+4<=M)(g:ek a=ac)(n:isNm nm=ac)(h:fw b i)(l:j4 i s)(e:(b.isNone&&i.isNone)=ae)(H:NT a z M Q):S1 a z (lb M Q) b i s 0 nm m:=by have o:=λp(f:p+3<=M)=>qk (m:=p) c f g (w:=0) rfl n h l H;unfold S1;induction q:ag nm ""with
 |false=>exact o m (Jo ‹_› rfl)|true=>
  refine aB (bI c (yW ‹_› rfl)) λd t u=>?_;by_cases j:d=1;·exact ge (decide_eq_true j) (o _ (At ‹_› rfl))
  ·refine dO (decide_eq_false j) (D6 c (At ‹_› rfl) (by have :=qY a;exact nT ‹_› rfl) (λz=>cy (e.symm.trans z)) λz9 k r=>H _ _ _ _ _ _ ⟨g,rfl,n,.tail h l r e rfl (aI.mp q)⟩)
theorem ve(c:bm M=ac)(t:m+6<=M)(f:ek a=ac)(j:isNm nm=ac)(g:fw b i)(h:j4 i s)(H:NT a z M Q):CM a z (lb M Q) b i s m nm:=by
  refine aB (bI c (yW ‹_› rfl)) λd l q=>?_;by_cases n:0<d
  · refine ge (decide_eq_true n) (aB (bI c (Jo ‹_› rfl)) λe p r=>?_);have o:hU (e-2147483648)=ac:=by unfold hU;rw[decide_eq_true (sL p rfl),decide_eq_true (by lia)];rfl
    unfold PY;induction k:b.isNone&&i.isNone with
    |true=>exact qk c (Jn ‹_› rfl) f o j g h H|false=>
      by_cases l:e-2147483648=0;·refine l.symm▸CJ c (Jn ‹_› rfl) f j g h k H
      ·exact ge (by refine(decide_eq_false l).symm▸rfl) (qk c (Jn ‹_› rfl) f o j g h H)
  ·refine dO (decide_eq_false n) ?_;unfold Ik;induction k:b.isNone&&i.isNone with
    |true=>exact qk c (At ‹_› rfl) f rfl j g h H|false=>exact CJ c (At ‹_› rfl) f j g h k H
theorem ta(c:bm M=ac)(g:m+7<=M)(d:ek a=ac)(e:fw b i)(f:j4 i s)(H:NT a z M Q):zT a z (lb M Q) b i s m:=aB (bI c (Jo ‹_› rfl)) ⟨ve c (At ‹_› rfl) d (by kernel_rfl) e f H,ve c (At ‹_› rfl) d (by kernel_rfl) e f H⟩
theorem zb{n:Int}{K:ao->Prop}(c:0<=n)(d:n<=15)(h:∀nm,gw nm "gpr" n 64->K nm):ML n K:=aB (by refine(decide_eq_true c).symm▸(decide_eq_true d).symm▸rfl) h
theorem C9{n:Int}(f:0<=n)(g:n<=15)(k:n≠4)(e:bm M=ac)(r:m+8<=M)(l:ek a=ac)(o:∀i,i.isSome=ac->fw b i)(H:NT a z M Q):UK a z (lb M Q) b n m:=zb f g λnm q=>aB (bI e (yW ‹_› rfl)) λd c h=>by
 refine aB (decide_eq_true ⟨c,by lia,by decide⟩) (ta e (At ‹_› rfl) l (o _ rfl) (.ce q (decide_eq_false k) ?_) H);obtain⟨j,rfl⟩:∃j:Nat,d=j:=⟨d.toNat,by exact(iG c).symm⟩;have p:j<4:=by exact nI h
 exact(by decide:∀j:Nat,j<4->Di (1*2^(j:Int).toNat)=ac) j p
theorem Dq(c:bm M=ac)(p:m+10<=M)(e:ek a=ac)(f:∀i,fw b i)(H:NT a z M Q):Tc a z (lb M Q) b m:=by
  refine aB (bI c (yW ‹_› rfl)) λd k l=>?_;by_cases h:d=1
  · refine ge (decide_eq_true h) (aB (bI c (Jo ‹_› rfl)) λn g o=>?_);by_cases j:n<4;·exact ge (decide_eq_true j) (C9 g (yW ‹_› rfl) (by lia) c (Jn ‹_› rfl) e (λi z9=>f i) H)
    ·exact dO (decide_eq_false j) (C9 (pL g rfl) ‹_› (by lia) c (Jn ‹_› rfl) e (λi z9=>f i) H)
  ·exact dO (decide_eq_false h) (ta c (At ‹_› rfl) e (f _) .none H)
theorem E5(c:bm M=ac)(p:m+13<=M)(e:ek a=ac)(H:NT a z M Q):v7 a z (lb M Q) m:=by
  refine aB (bI c (yW ‹_› rfl)) λd k l=>?_;by_cases g:d=0;·exact ge (decide_eq_true g) (dO (decide_eq_false (by lia)) (ta c (At ‹_› rfl) e .Ue .none H))
  · refine dO (decide_eq_false g) ?_;by_cases f:1<d;·exact ge (decide_eq_true f) (aB (bI c (Jo ‹_› rfl)) λn h o=>zb h (by lia) λnm j=>ge (decide_eq_true (Oe ‹_› rfl)) (Dq c (Jn ‹_› rfl) e (λi=>.Th j) H))
    ·exact dO (decide_eq_false f) (ge (decide_eq_true (by lia)) (Dq c (At ‹_› rfl) e (λi=>.none) H))
end
section
variable{lf:Bool}{args:List Arg}{Q:Cs->b0->Prop}{X:aq->Prop}
theorem HO(h:tm lf args Q X):∃m,aN pg (bM l5) 3 lf 1568 args (lb m Q) X:=by refine bB (bK h) λd i=>?_;clear h;subst d;refine db i λm k e c h=>xW h λx f h=>xW h λz g h=>e.symm▸(one_eq f).symm▸(argI_eq g).symm▸⟨m+16,?_⟩;rw[Cz];have b:∀a,ek a=ac->v7 a z (lb (m+16) Q) (m+1):=λa j=>E5 c (pH rfl) j (h a);exact aB (bI c (iZ rfl)) ⟨⟨⟨⟨⟨trivial,b "" (by kernel_rfl)⟩,b "" (by kernel_rfl)⟩,b "" (by kernel_rfl)⟩,b "fs" (by kernel_rfl)⟩,b "gs" (by kernel_rfl)⟩
end
end
section
set_option exponentiation.threshold 300
inductive OP where|ce(r:RG)|d6(w:Int)(nm:ao)|rel(w:Int)(nm:ao)|mem(b i:Option RG)(s w z:Int)(a nm:ao)
noncomputable def wI(w:Int)(nm:ao):V:=.inst 875 [("kind",.str "rel"),("worth",.int w),("name",.str nm)]
def OP.v:OP->V
 |.ce r=>Aa r.v|.d6 w nm=>As w nm|.rel w nm=>wI w nm|.mem b i s w z a nm=>hM b i s w z a nm
structure GR(r:RG)(z:Int):Prop where
 m:r∈gQ
 k:r6 r.kd=ac
 z:r.sz=z
inductive n9(z:Int):List TT->OP->Bool->Prop|ce{r}(h:GR r z):n9 z [.r r.nm] (.ce r) ae|mem{a b i s w nm l}(h:je a b i s w nm l):n9 z l (.mem b i s w z a nm) ac
structure JW(z w:Int)(nm:ao)(l:List TT):Prop where
 lo:-(2^(z.toNat-1))<=w
 hi:w<2^(z.toNat-1)
 nk:isNm nm=ac
 s:gZ w nm l
structure Ln where
 zd:ao
 word:ao
 groups:List (List TT)
 name:ao
 ops:List OP
def Ln.v(l:Ln):V:=.tup [.str l.zd,.str l.word,.lst (l.groups.map cq),.str l.name,.lst (l.ops.map OP.v)]
noncomputable def box(m:Int):Cs:=[.ch (.int m)]
section
variable(z M:Int)
def kD{α:Type}(l:List α)(K:α->Int->Prop):Prop:=gd (bm M) (rA (λx=>K x (M+1)) l)
def kO(n:Int)(K:Int->Int->Prop):Prop:=gd (bm M) (∀d:Int,0<=d->d<n->K d (M+1))
def kR(K:RG->Int->Prop):Prop:=gd (bm (M+1)) (gd (kz z) (∀nm kd n,gw nm kd n z->r6 kd=ac->K ⟨nm,kd,n,z⟩ (M+1)))
def kP(K:ao->Option RG->Option RG->Int->Int->ao->List TT->Int->Prop):Prop:=gd (bm (M+16)) (∀a b i s w nm l,je a b i s w nm l->K a b i s w nm l (M+16))
def kL(UB:Bool)(K:ao->Int->Prop):Prop:=gd (bm (M+1)) (gd (kz z) (K (bT z) (M+1)/\br UB True (K "" (M+1))))
def kE(K:List TT->OP->Bool->Int->Prop):Prop:=gd (bm (M+17)) (gd (kz z) ((∀nm kd n,gw nm kd n z->r6 kd=ac->K [.r nm] (.ce ⟨nm,kd,n,z⟩) ae (M+17))/\∀a b i s w nm l,je a b i s w nm l->K l (.mem b i s w z a nm) ac (M+17)))
def kI(K:Int->ao->List TT->Int->Prop):Prop:=gd (bm (M+4)) (gd (kz z) (∀w nm l,-(2^(z.toNat-1))<=w->w<2^(z.toNat-1)->isNm nm=ac->gZ w nm l->K w nm ([.s "$"]++l) (M+4)))
end
section
variable{z M M':Int}
theorem eX{a:Type}{l:List a}{K:a->Int->Prop}(b:bm M'=ac)(c:M<=M')(H:∀x∈l,K x (M+1)):kD M l K:=aB (bI b c) (jE H)
theorem QO{n:Int}{K:Int->Int->Prop}(a:bm M'=ac)(b:M<=M')(H:∀d,0<=d->d<n->K d (M+1)):kO M n K:=aB (bI a b) H
theorem pF{K:RG->Int->Prop}(c:bm M'=ac)(d:M+1<=M')(e:kz z=ac)(H:∀r,GR r z->K r (M+1)):kR z M K:=aB (bI c d) (aB e λg f n a b=>H ⟨g,f,n,z⟩ ⟨a,b,rfl⟩)
theorem yO{K:ao->Option RG->Option RG->Int->Int->ao->List TT->Int->Prop}(c:bm M'=ac)(d:M+16<=M')(H:∀a b i s w nm l,je a b i s w nm l->K a b i s w nm l (M+16)):kP M K:=aB (bI c d) H
theorem jt{K:ao->Int->Prop}{a:Bool}(b:bm M'=ac)(c:M+1<=M')(d:kz z=ac)(H:∀s,s=bT z\/(a=ae/\s="")->K s (M+1)):kL z M a K:=by refine aB (bI b c) (aB d ⟨H _ (.inl rfl),?_⟩);induction a with
 |true=>exact trivial|false=>exact H _ (.inr ⟨rfl,rfl⟩)
theorem rn{K:List TT->OP->Bool->Int->Prop}(f:bm M'=ac)(g:M+17<=M')(j:kz z=ac)(H:∀R o b,n9 z R o b->K R o b (M+17)):kE z M K:=aB (bI f g) (aB j ⟨λc k n d e=>H _ _ _ (.ce (r:=⟨c,k,n,z⟩) ⟨d,e,rfl⟩),λa b i s w c l h=>H _ _ _ (.mem h)⟩)
theorem Jl{K:Int->ao->List TT->Int->Prop}(e:bm M'=ac)(f:M+4<=M')(g:kz z=ac)(H:∀w nm l,JW z w nm l->K w nm ([.s "$"]++l) (M+4)):kI z M K:=aB (bI e f) (aB g λw nm l a b c d=>H w nm l ⟨a,b,c,d⟩)
end
def yj:aS:=λlf args Q z9=>gd (!lf) (iL args 17 λm as=>wp (one? as) λa=>wp (sa a) λz=>gd (kz z) ((∀nm kd n,gw nm kd n z->r6 kd=ac->Q (box (m+17)) (.v (oz nm kd n z)))/\∀a b i s w nm l,je a b i s w nm l->Q (box (m+17)) (.v (N9 a b i s w nm z l))))
def l6:List (aq×aS):=(1568,tm)::(1554,uU)::lD (upTo 11)
def lK(p:Int->Bool):List (aq×aS):=(1575,yj)::(1582,Pi)::(1589,IV)::(1568,tm)::(1554,uU)::(1540,FU)::(1533,qo)::(1526,wA)::(1547,qm)::(1519,tn)::(1095,FW)::lD p
section
variable{K:bt}{w:aJ}{Seg:V->List V->Prop}{lf:Bool}{m z:Int}{args:List Arg}{Q:Cs->b0->Prop}{X:aq->Prop}
theorem vG(a:bo pg K w)(b:cZ Seg):bq K w (Sm Seg) 1568 tm 26:=(QJ a b).vw a 3 (by decide) λz9 z9 z9 z9=>HO
theorem Ej(a:bo pg K w):bq K w (Sm Seg) 1554 uU 14:=(QM a).fn a ci 3 (by decide) λz9 z9 z9 z9=>RM
theorem Jh(a:bo pg K w)(b:cZ Seg):iE K w (Sm Seg) 26 l6:=.cons (vG a b) (.cons ((Ej a).up (by decide)) ((mi a).up (by decide)))
theorem AF:aN pg (bM l6) 2 ae 1575 [.c (.ch (.int m)),.v (.int z)] Q X=gd (bm m) ((True/\kR z (m+1) λr M=>Q (box M) (.v (oz r.nm r.kd r.num r.sz)))/\kP (m+1) λa b i s w nm l M=>Q (box M) (.v (N9 a b i s w nm z l))):=by kernel_rfl
theorem vI(h:yj lf args Q X):∃m,aN pg (bM l6) 2 lf 1575 args (lb m Q) X:=by
 refine bB (bK h) λf k=>?_;clear h;subst f;refine db k λm u e c h=>xW h λx g h=>xW h λz j h=>xG h λr h=>e.symm▸(one_eq g).symm▸(argI_eq j).symm▸⟨m+17,?_⟩;rw[AF];refine aB (bI c (iZ rfl)) ⟨⟨trivial,?_⟩,?_⟩;·exact aB (bI c (pH rfl)) (aB r λd t n o p=>gc (h.1 d t n o p) (pH rfl))
 ·exact aB (bI c (pH rfl)) λa b i s w d l q=>gc (h.2 a b i s w d l q) (pH rfl)
theorem QC(a:bo pg K w)(b:cZ Seg){p:Int->Bool}:iE K w (Sm Seg) 30 (lK p):=.cons ((Jh a b).vw a 2 (by decide) λz9 z9 z9 z9=>vI) (.cons ((QK a b).fn a ci 3 (by decide) λz9 z9 z9 z9=>RT) (.cons ((mi a).fn a ci 2 (by decide) λz9 z9 z9 z9=>Nv) (.cons ((vG a b).up (by decide)) (.cons ((Ej a).up (by decide)) (.cons ((C6 a b).vw a 2 (by decide) λz9 z9 z9 z9=>Eh) (.cons ((yM a b).fn a ci 2 (by decide) λz9 z9 z9 z9=>rD) (.cons ((gu a b).fn a ci 2 (by decide) λz9 z9 z9 z9=>zr) (.cons ((gu a b).fn a ci 2 (by decide) λz9 z9 z9 z9=>rC) (.cons ((gu a b).vw a 2 (by decide) λz9 z9 z9 z9=>vH) (.cons (bq.run a 4 (by decide) λz9 z9 z9 z9=>El) ((mi a).up (by decide))))))))))))
def d5(k:Int)(L:Ln->Prop):aS:=λlf args Q z9=>gd (!lf) (iL args k λm as=>gd as.isEmpty (∀l,L l->Q (box (m+k)) (.v l.v)))
def out(Q:Cs->b0->Prop)(l:Ln)(M:Int):Prop:=Q (box M) (.v l.v)
theorem gO{f:aq}{k:Int}{L:Ln->Prop}{p:Int->Bool}(h:∀m Q X,bm (m+k)=ac->(∀l M,L l->M<=m+k->out Q l M)->aN pg (bM (lK p)) 3 ae f [.c (.ch (.int m))] Q X)(b:bo pg K w)(o:cZ Seg):bq K w (Sm Seg) f (d5 k L) 36:=(QC b o).vw b 3 (by decide) λlf args Q X a=>by refine bB (bK a) λc g=>?_;clear a;subst c;refine db g λm q e n H=>xG H λd H=>?_;rw[e,aX.mp d];exact⟨m+k,h m _ X n λl M j i=>gc (H l j) i⟩
end
end
section
set_option exponentiation.threshold 300
theorem iu{s z:ao}(h:s=z\/(ae=ae/\s="")):s=z\/s="":=h.imp id And.right
noncomputable def z3:List Int:=[16,32,64]
noncomputable def z4:List Int:=[8,16,32,64]
theorem jM{z:Int}(h:z∈z4):kz z=ac:=am.mp (by rfl:z4.all kz=ac) z h
theorem rX{z:Int}(h:z∈z3):kz z=ac:=jM (.tail _ h)
noncomputable def QA(s:ao)(r:RG)(R:List TT)(o:OP):Ln:=⟨"lea r*,m wlq","lea"++s,[R,[.r r.nm]],"lea",[.ce r,o]⟩
inductive AO:Ln->Prop|mk{z s r a b i sc w nm l}(hz:z∈z3)(hs:s=bT z\/s="")(hr:GR r z)(hp:je a b i sc w nm l):AO (QA s r l (.mem b i sc w 0 a nm))
section
variable{m:Int}{Q:Cs->b0->Prop}{X:aq->Prop}
abbrev EW(p:Int->Bool)(f:aq)(m:Int):Go:=aN pg (bM (lK p)) 3 ae f [.c (.ch (.int m))]
theorem Mi:EW (upTo 11) 1659 m Q X=kD m z3 λz M=>kR z M λr M=>kP M λa b i c w nm l M=>kL z M ae λs M=>out Q (QA s r l (.mem b i c w 0 a nm)) M:=by kernel_rfl
end
section
variable{K:bt}{w:aJ}{Seg:V->List V->Prop}
theorem RQ:bo pg K w->cZ Seg->bq K w (Sm Seg) 1659 (d5 19 AO) 36:=gO (p:=upTo 11) λm Q X c H=>by refine bA Mi (eX c (iZ rfl) λz d=>pF c (pH rfl) (rX d) λr f=>yO c (yV rfl) λa b i j w h l e=>jt c (tQ rfl) (rX d) λs g=>H _ _ (.mk d (iu g) f e) (tQ rfl))
end
noncomputable def vy:ao:="imul rm* bwlq;imul r*,rm* wlq;imul r*,rm*,simm8 wlq;imul r*,rm*,imm32 lq"
def Qw(s:ao)(R:List TT)(r:RG)(c:OP):Ln:=⟨vy,"imul"++s,[R,[.r r.nm]],"imul",[.ce r,.ce r,c]⟩
def Qv(s:ao)(I R:List TT)(r:RG)(o c:OP):Ln:=⟨vy,"imul"++s,[I,R,[.r r.nm]],"imul",[.ce r,o,c]⟩
inductive rO:Ln->Prop|two{z s w nm l r}(hz:z∈z3)(hs:s=bT z\/s="")(hi:JW 32 w nm l)(hr:GR r z):rO (Qw s ([.s "$"]++l) r (.d6 w nm))|three{z s w nm l r R o b}(hz:z∈z3)(hs:s=bT z\/s="")(hi:JW 32 w nm l)(hr:GR r z)(ho:n9 z R o b):rO (Qv s ([.s "$"]++l) R r o (.d6 w nm))
section
variable{m:Int}{Q:Cs->b0->Prop}{X:aq->Prop}
theorem F6:EW (upTo 11) 1652 m Q X=kD m z3 λz M=>kI 32 M λw nm I M=>kR z M λr M=>kL z M ae λs M=>gd (bm M) ((True/\out Q (Qw s I r (.d6 w nm)) (M+1))/\kE z (M+1) λR o b M=>out Q (Qv s I R r o (.d6 w nm)) M):=by kernel_rfl
end
section
variable{K:bt}{w:aJ}{Seg:V->List V->Prop}
theorem Nk:bo pg K w->cZ Seg->bq K w (Sm Seg) 1652 (d5 25 rO) 36:=gO (p:=upTo 11) λm Q X a H=>by
 refine bA F6 ?_;exact eX a (iZ rfl) λz c=>Jl a (pH rfl) rfl λw h l d=>pF a (yV rfl) (rX c) λr e=>jt a (tQ rfl) (rX c) λs f=>aB (bI a (tQ rfl)) ⟨⟨trivial,H _ _ (.two c (iu f) d e) (AR rfl)⟩,rn a (yU rfl) (rX c) λR o b g=>H _ _ (.three c (iu f) d e g) (yU rfl)⟩
end
noncomputable def pK:List ao:=["xchg","test"]
def Jg(nm s:ao)(R:List TT)(r:RG)(o:OP)(t:Bool):Ln:=⟨nm++" rm*,r* bwlq",nm++s,cd t [R,[.r r.nm]] [[.r r.nm],R],nm,[o,.ce r]⟩
inductive sS:Ln->Prop|mk{z nm s r a b i sc w n l}(t:Bool)(hz:z∈z4)(hn:nm∈pK)(hs:s=bT z\/s="")(hr:GR r z)(hp:je a b i sc w n l):sS (Jg nm s l r (.mem b i sc w z a n) t)
section
variable{m:Int}{Q:Cs->b0->Prop}{X:aq->Prop}
theorem He:EW (upTo 11) 1610 m Q X=kD m z4 λz M=>kD M pK λnm M=>kD M [ae,ac] λt M=>kP M λa b i c w n l M=>kR z M λr M=>kL z M ae λs M=>out Q (Jg nm s l r (.mem b i c w z a n) t) M:=by kernel_rfl
end
section
variable{K:bt}{w:aJ}{Seg:V->List V->Prop}
theorem Nu:bo pg K w->cZ Seg->bq K w (Sm Seg) 1610 (d5 21 sS) 36:=gO (p:=upTo 11) λm Q X c H=>by refine bA He (eX c (iZ rfl) λz d=>eX c (qu rfl) λj e=>eX c (pH rfl) λt z9=>yO c (tQ rfl) λa b i k w n l f=>pF c (AR rfl) (jM d) λr g=>jt c (yU rfl) (jM d) λs h=>H _ _ (.mk t d e (iu h) g f) (yU rfl))
end
noncomputable def pb:List (ao×ao):=[("cltq","cdqe"),("cqto","cqo"),("cltd","cdq"),("cwtl","cwde"),("cwtd","cwd"),("cbtw","cbw"),("cdqe","cdqe"),("movsl","movsd"),("stosl","stosd"),("scasl","scasd"),("stosb","stosb"),("lodsq","lodsq"),("cmpsw","cmpsw"),("cmpsl","cmpsd"),("retq","ret"),("leaveq","leave"),("pushf","pushfq"),("movsd","movsd")]
noncomputable def C5(x:ao×ao):Ln:=⟨x.2++" - q",x.1,[],x.2,[]⟩
inductive pc:Ln->Prop|mk{x}(h:x∈pb):pc (C5 x)
section
variable{m:Int}{Q:Cs->b0->Prop}{X:aq->Prop}
theorem EB:EW (upTo 32) 1645 m Q X=kD m pb λx M=>out Q (C5 x) M:=by kernel_rfl
end
section
variable{K:bt}{w:aJ}{Seg:V->List V->Prop}
theorem HV:bo pg K w->cZ Seg->bq K w (Sm Seg) 1645 (d5 1 pc) 36:=gO (p:=upTo 32) λm Q X a H=>by refine bA EB (eX a (iZ rfl) λx b=>H _ _ (.mk b) (qu rfl))
end
noncomputable def exts:List (Int×Int):=[(8,16),(8,32),(8,64),(16,32),(16,64),(32,64)]
noncomputable def Hd:ao:="movzx r*,rm8 wlq;movzx r*,rm16 lq;movsx r*,rm8 wlq;movsx r*,rm16 lq;movsxd r*,rm32 q"
def CO(st:Int)(so:ao):ao:=cd (decide (st=32)) "movsxd" (("mov"++so)++"x")
def QG(st:Int)(so a b:ao)(r:RG)(R:List TT)(o:OP):Ln:=⟨Hd,(("mov"++so)++a)++b,[R,[.r r.nm]],CO st so,[.ce r,o]⟩
noncomputable def Pf:List (ao×Bool):=[("s",ac),("z",ae)]
inductive xE:Ln->Prop|mk{x so b r R o mem}(hx:x∈exts)(Zx:so∈Pf)(hz:so.2=ae->x.1<32)(hb:b=bT x.2\/(so.2=ae/\b=""))(hr:GR r x.2)(ho:n9 x.1 R o mem):xE (QG x.1 so.1 (bT x.1) b r R o)
section
variable{m:Int}{Q:Cs->b0->Prop}{X:aq->Prop}
def MW(Q:Cs->b0->Prop)(x:Int×Int)(so:ao×Bool)(M:Int):Prop:=kR x.2 M λr M=>kE x.1 M λR o z9 M=>kL x.1 M ac λa M=>kL x.2 M so.2 λb M=>out Q (QG x.1 so.1 a b r R o) M
theorem MV:EW (upTo 11) 1617 m Q X=kD m exts λx M=>br (decide (x.1<32)) (kD M Pf λa M=>MW Q x a M) (MW Q x ("s",ac) M):=by kernel_rfl
theorem DZ{x:Int×Int}(h:x∈exts):kz x.1=ac/\kz x.2=ac:=by have :=am.mp (by rfl:(exts.all λx=>kz x.1&&kz x.2)=ac) x h;exact bJ.mp this
theorem ze{m M:Int}{x:Int×Int}{f:ao×Bool}(d:bm (m+23)=ac)(s:M<=m+2)(g:x∈exts)(e:f∈Pf)(p:f.2=ae->x.1<32)(H:∀l M,xE l->M<=m+23->out Q l M):MW Q x f M:=by
 have c:=DZ g;refine pF d (Od ‹_› rfl) c.2 λr n=>rn d (Te ‹_› rfl) c.1 λR o q k=>jt d (by lia) c.1 λa i=>jt d (by lia) c.2 λb j=>?_;rcases i with rfl|⟨h,_⟩;·exact H _ _ (.mk g e p j n k) (by lia)
 ·exact mX h
end
section
variable{K:bt}{w:aJ}{Seg:V->List V->Prop}
theorem RU:bo pg K w->cZ Seg->bq K w (Sm Seg) 1617 (d5 23 xE) 36:=gO (p:=upTo 11) λm Q X a H=>by
 refine bA MV ?_;refine eX a (iZ rfl) λx b=>?_;by_cases e:x.1<32;·exact ge (decide_eq_true e) (eX a (qu rfl) λd c=>ze a (pH rfl) b c (λz9=>e) H)
 ·exact dO (decide_eq_false e) (ze a (qu rfl) b (.head _) (λz=>mX z) H)
end
end
section
set_option exponentiation.threshold 300
noncomputable def p6:List ao:=["add","sub","cmp","mov"]
noncomputable def Hc(nm:ao):ao:=((((((nm++" rm*,r* bwlq;")++nm)++" r*,rm* bwlq;")++nm)++" rm*,imm* bwl;")++nm)++" rm*,simm32 q"
def Ak(nm s:ao)(R2 R1:List TT)(o1 o2:OP):Ln:=⟨Hc nm,nm++s,[R2,R1],nm,[o1,o2]⟩
inductive vT:Ln->Prop|d6{z w nm s n l R o b}(hz:z∈z4)(hn:nm∈p6)(hs:s=bT z\/(b=ae/\s=""))(ho:n9 z R o b)(hi:JW z w n l):vT (Ak nm s ([.s "$"]++l) R o (.d6 w n))|ce{z nm s R o b r}(hz:z∈z4)(hn:nm∈p6)(hs:s=bT z\/s="")(ho:n9 z R o b)(hr:GR r z):vT (Ak nm s [.r r.nm] R o (.ce r))|mem{z nm s r a b i sc w n l}(hz:z∈z4)(hn:nm∈p6)(hs:s=bT z\/s="")(hr:GR r z)(hp:je a b i sc w n l):vT (Ak nm s l [.r r.nm] (.ce r) (.mem b i sc w z a n))
section
variable{m:Int}{Q:Cs->b0->Prop}{X:aq->Prop}
def TJ(Q:Cs->b0->Prop)(z:Int)(nm:ao)(M:Int):Prop:=kE z M λR o b M=>kI z M λw n I M=>kL z M b λs M=>out Q (Ak nm s I R o (.d6 w n)) M
def TH(Q:Cs->b0->Prop)(z:Int)(nm:ao)(M:Int):Prop:=kE z M λR o b M=>kR z M λr M=>kL z M ae λs M=>out Q (Ak nm s [.r r.nm] R o (.ce r)) M
def TG(Q:Cs->b0->Prop)(z:Int)(nm:ao)(M:Int):Prop:=kR z M λr M=>kP M λa b i sc w n l M=>kL z M ae λs M=>out Q (Ak nm s l [.r r.nm] (.ce r) (.mem b i sc w z a n)) M
theorem Kh:EW (upTo 11) 1603 m Q X=kD m z4 λz M=>gd (bm M) (((True/\kD (M+1) p6 (TJ Q z))/\kD (M+1) p6 (TH Q z))/\kD (M+1) p6 (TG Q z)):=by kernel_rfl
end
section
variable{K:bt}{w:aJ}{Seg:V->List V->Prop}
theorem RI:bo pg K w->cZ Seg->bq K w (Sm Seg) 1603 (d5 25 vT) 36:=gO (p:=upTo 11) λm Q X c H=>by
 refine bA Kh ?_;refine eX c (iZ rfl) λz d=>aB (bI c (qu rfl)) ⟨⟨⟨trivial,?_⟩,?_⟩,?_⟩;·exact eX c (pH rfl) λj e=>rn c (tQ rfl) (jM d) λR o b g=>Jl c (AR rfl) (jM d) λw n l k=>jt c (yU rfl) (jM d) λs f=>H _ _ (.d6 d e f g k) (yU rfl)
 ·exact eX c (pH rfl) λj e=>rn c (tQ rfl) (jM d) λR o b g=>pF c (AR rfl) (jM d) λr h=>jt c (yU rfl) (jM d) λs f=>H _ _ (.ce d e (iu f) g h) (yU rfl)
 ·exact eX c (pH rfl) λj e=>pF c (tQ rfl) (jM d) λr h=>yO c (AR rfl) λa b i q w n l p=>jt c (yU rfl) (jM d) λs f=>H _ _ (.mem d e (iu f) h p) (yU rfl)
end
structure VK where
 nm:ao
 size:Int
 gen:Int
noncomputable def Bc:List VK:=[⟨"movq",64,64⟩,⟨"movd",32,32⟩,⟨"movaps",128,0⟩,⟨"movsd",64,0⟩]
def AU:List RG:=(gQ.drop 68).take 16
noncomputable def DY:ao:="movq x,xm64 0;movq xm64,x 0;movq x,rm64 q;movq rm64,x q;movd x,rm32 l;movd rm32,x l;movaps x,xm128 0;movaps xm128,x 0;movsd x,xm64 0;movsd xm64,x 0"
def GJ(nm:ao)(x:RG)(R:List TT)(o:OP)(t:Bool):Ln:=cd t ⟨DY,nm,[[.r x.nm],R],nm,[o,.ce x]⟩ ⟨DY,nm,[R,[.r x.nm]],nm,[.ce x,o]⟩
inductive xD:Ln->Prop|mem{k x a b i sc w n l}(t:Bool)(hk:k∈Bc)(hx:x∈AU)(hp:je a b i sc w n l):xD (GJ k.nm x l (.mem b i sc w k.size a n) t)|ce{k x r}(t:Bool)(hk:k∈Bc)(hg:0<k.gen)(hx:x∈AU)(hr:GR r k.gen):xD (GJ k.nm x [.r r.nm] (.ce r) t)
section
variable{m:Int}{Q:Cs->b0->Prop}{X:aq->Prop}
def J8(Q:Cs->b0->Prop)(k:VK)(x:RG)(M:Int):Prop:=kP M λa b i sc w n l M=>kD M [ae,ac] λt M=>out Q (GJ k.nm x l (.mem b i sc w k.size a n) t) M
def TC(Q:Cs->b0->Prop)(k:VK)(x:RG)(M:Int):Prop:=kR k.gen M λr M=>kD M [ae,ac] λt M=>out Q (GJ k.nm x [.r r.nm] (.ce r) t) M
theorem J7:EW (upTo 16) 1666 m Q X=kD m Bc λk M=>kD M AU λx M=>br (decide (0<k.gen)) (gd (bm M) ((True/\J8 Q k x (M+1))/\TC Q k x (M+1))) (J8 Q k x M):=by kernel_rfl
end
section
variable{K:bt}{w:aJ}{Seg:V->List V->Prop}
theorem RH:bo pg K w->cZ Seg->bq K w (Sm Seg) 1666 (d5 21 xD) 36:=gO (p:=upTo 16) λm Q X c H=>by
  refine bA J7 ?_;refine eX c (iZ rfl) λk e=>eX c (qu rfl) λx g=>?_;have f:∀M,M<=m+3->J8 Q k x M:=λM p=>yO c (Od ‹_› rfl) λa b i q w n l h=>eX c (Od ‹_› rfl) λt z9=>H _ _ (.mem t e g h) (Te ‹_› rfl);by_cases d:0<k.gen
  · have o:kz k.gen=ac:=by have :=am.mp (by rfl:(Bc.all λk=>!decide (0<k.gen)||kz k.gen)=ac) k e;rw[decide_eq_true d]at this;exact this
    exact ge (decide_eq_true d) (aB (bI c (pH rfl)) ⟨⟨trivial,f _ (yV rfl)⟩,pF c (tQ rfl) o λr j=>eX c (tQ rfl) λt z9=>H _ _ (.ce t e d g j) (AR rfl)⟩)
  ·exact dO (decide_eq_false d) (f _ (pH rfl))
end
noncomputable def FJ:List ao:=["rol","ror","rcl","rcr","shl","shr","sar"]
noncomputable def Rl(nm:ao):ao:=((((nm++" rm*,one bwlq;")++nm)++" rm*,uimm8 bwlq;")++nm)++" rm*,cl bwlq"
def Qr(nm w s:ao)(G:List (List TT))(o c:OP):Ln:=⟨Rl nm,w++s,G,nm,[o,c]⟩
def T7(t:Bool)(nm:ao):ao:=cd t "sal" nm
structure EJ(z:Int)(nm w s:ao)(R:List TT)(o:OP)(b:Bool):Prop where
 hz:z∈z4
 hn:nm∈FJ
 hw:w=nm\/(nm="shl"/\w="sal")
 hs:s=bT z\/(b=ae/\s="")
 ho:n9 z R o b
inductive LShift:Ln->Prop|one{z nm w s R o b}(h:EJ z nm w s R o b):LShift (Qr nm w s [R] o (.d6 1 ""))|d6{z nm w s R o b d l}(h:EJ z nm w s R o b)(h0:0<=d)(h1:d<256)(hl:dE d l):LShift (Qr nm w s [[.s "$"]++l,R] o (.d6 d ""))|cl{z nm w s R o b n}(h:EJ z nm w s R o b)(hn:gw n "gpr" 1 8):LShift (Qr nm w s [[.r "cl"],R] o (.ce ⟨n,"gpr",1,8⟩))
section
variable{z m M M':Int}{Q:Cs->b0->Prop}{X:aq->Prop}
def T5(z:Int)(nm w:ao)(K:ao->ao->ao->List TT->OP->Int->Prop)(M:Int):Prop:=kE z M λR o b M=>kL z M b λs M=>K nm w s R o M
def ST(z:Int)(K:ao->ao->ao->List TT->OP->Int->Prop)(M:Int):Prop:=kD M FJ λnm M=>br (ag nm "shl") (kD M [ae,ac] λt M=>T5 z nm (T7 t nm) K M) (T5 z nm nm K M)
def X0(Q:Cs->b0->Prop)(nm w s:ao)(R:List TT)(o:OP)(M:Int):Prop:=out Q (Qr nm w s [R] o (.d6 1 "")) M
def XZ(Q:Cs->b0->Prop)(nm w s:ao)(R:List TT)(o:OP)(M:Int):Prop:=kO M 256 λd M=>gd (bm M) (∀l,dE d l->jd (bw [.s "$"]) (bw l) λl=>Q (box (M+1)) (.v (.tup [.str (Rl nm),.str (w++s),.lst [.lst l,cq R],.str nm,.lst [o.v,As d ""]])))
def XY(Q:Cs->b0->Prop)(nm w s:ao)(R:List TT)(o:OP)(M:Int):Prop:=∀n,gw n "gpr" 1 8->out Q (Qr nm w s [[.r "cl"],R] o (.ce ⟨n,"gpr",1,8⟩)) M
theorem BR:EW (upTo 11) 1596 m Q X=kD m z4 λz M=>gd (bm M) (((True/\ST z (X0 Q) (M+1))/\ST z (XZ Q) (M+1))/\ST z (XY Q) (M+1)):=by kernel_rfl
theorem wx{nm w:ao}{K:ao->ao->ao->List TT->OP->Int->Prop}(c:bm M'=ac)(h:M+18<=M')(a:z∈z4)(d:nm∈FJ)(g:w=nm\/(nm="shl"/\w="sal"))(H:∀nm w s R o b N,EJ z nm w s R o b->N<=M+18->K nm w s R o N):T5 z nm w K M:=rn c (Jo ‹_› rfl) (jM a) λR o b e=>jt c (At ‹_› rfl) (jM a) λs f=>H nm w s R o b _ ⟨a,d,g,f,e⟩ (pH rfl)
theorem ww{K:ao->ao->ao->List TT->OP->Int->Prop}(a:bm M'=ac)(g:M+20<=M')(d:z∈z4)(H:∀nm w s R o b N,EJ z nm w s R o b->N<=M+20->K nm w s R o N):ST z K M:=by refine eX a (yW ‹_› rfl) λnm c=>?_;induction e:ag nm "shl"with
 |true=>refine eX a (Jo ‹_› rfl) λt z9=>?_;induction t with
  |true=>exact wx a (Jn ‹_› rfl) d c (.inr ⟨aI.mp e,rfl⟩) λnm w s R o b N h f=>H _ _ _ _ _ _ _ h (by lia)|false=>exact wx a (Jn ‹_› rfl) d c (.inl rfl) λnm w s R o b N h f=>H _ _ _ _ _ _ _ h (by lia)
 |false=>exact wx a (At ‹_› rfl) d c (.inl rfl) λnm w s R o b N h f=>H _ _ _ _ _ _ _ h (by lia)
end
section
variable{K:bt}{w:aJ}{Seg:V->List V->Prop}
theorem HK:bo pg K w->cZ Seg->bq K w (Sm Seg) 1596 (d5 26 LShift) 36:=gO (p:=upTo 11) λm Q X a H=>by
 refine bA BR ?_;refine eX a (iZ rfl) λz c=>aB (bI a (qu rfl)) ⟨⟨⟨trivial,?_⟩,?_⟩,?_⟩;·exact ww a (yV rfl) c λg w s R o b N h e=>H _ _ (.one h) (by lia)
 ·exact ww a (yV rfl) c λg w s R o b N h e=>QO a (by lia) λd i j=>aB (bI a (by lia)) λl f=>cP (by have :=f.len;show 1+l.length<=_;exact nL ‹_› rfl) (H _ _ (.d6 h i j f) (by lia))
 ·exact ww a (yV rfl) c λg w s R o b N h e n k=>H _ _ (.cl h k) (by lia)
end
end
section
set_option exponentiation.threshold 300
def nx(x y:ao)(K:ao->Prop):Prop:=gd (fits (x.length+y.length)) (K (x++y))
theorem str_len(x y:ao):(x++y).length=x.length+y.length:=by show(x.cps++y.cps).size=_;refine Array.size_append.symm▸?_;rfl
theorem eQ{x y:ao}{K:ao->Prop}(h:x.length+y.length<=1000)(H:K (x++y)):nx x y K:=aB (fits_of (nT ‹_› rfl)) H
theorem jg.len{u v:ao}(h:jg u v):u.length<=3/\v.length<=3:=by obtain⟨r,a,rfl,b⟩:=h;have t:=am.mp (by rfl:(nw.all λr=>aU (mm r).length 3&&r.all λv=>aU v.length 3)=ac) r a;rw[af]at t;exact⟨aj t.1,aj (am.mp t.2 v b)⟩
theorem GH{z:Int}(h:kz z=ac):(bT z).length<=1:=aj (am.mp (by rfl:(([8,16,32,64]:List Int).all λz=>aU (bT z).length 1)=ac) z (i7 h))
noncomputable def lC(a u v s:ao)(F:ao)(G:List (List TT))(ops:List OP):Ln:=⟨F,(a++v)++s,G,a++u,ops⟩
noncomputable def fC(u:ao):ao:=((("set"++u)++" rm8 b;cmov")++u)++" r*,rm* wlq"
inductive mL:Ln->Prop|set{u v s R o b}(hc:jg u v)(hs:s=bT 8\/s="")(ho:n9 8 R o b):mL (lC "set" u v s (fC u) [R] [o])|HA{u v s z r R o b}(hc:jg u v)(hz:z∈z3)(hs:s=bT z\/s="")(hr:GR r z)(ho:n9 z R o b):mL (lC "cmov" u v s (fC u) [R,[.r r.nm]] [.ce r,o])
section
variable{z m M M':Int}{Q:Cs->b0->Prop}{X:aq->Prop}
def cF(u:ao)(K:ao->Prop):Prop:=nx "set" u λs=>nx s " rm8 b;cmov" λs=>nx s u λs=>nx s " r*,rm* wlq" K
def cW(a u v:ao)(z M:Int)(K:ao->Int->Prop):Prop:=nx a v λw=>kL z M ae λs M=>nx w s λz9=>nx a u λz9=>K s M
def Vz(Q:Cs->b0->Prop)(u v F:ao)(M:Int):Prop:=kE 8 M λR o b M=>cW "set" u v 8 M λs M=>out Q (lC "set" u v s F [R] [o]) M
def VA(Q:Cs->b0->Prop)(u v F:ao)(z M:Int):Prop:=kR z M λr M=>kE z M λR o b M=>cW "cmov" u v z M λs M=>out Q (lC "cmov" u v s F [R,[.r r.nm]] [.ce r,o]) M
theorem B4:EW (upTo 11) 1638 m Q X=gd (bm (m+2)) (∀u v,jg u v->cF u λF=>gd (bm (m+2)) ((True/\Vz Q u v F (m+2+1))/\kD (m+2+1) z3 (VA Q u v F))):=by kernel_rfl
theorem JP{a u v:ao}{K:ao->Int->Prop}(d:bm M'=ac)(e:M+1<=M')(c:kz z=ac)(g:a.length<=10)(h:jg u v)(H:∀s,s=bT z\/s=""->K s (M+1)):cW a u v z M K:=by
 have i:=h.len;refine eQ (by lia) (jt d e c λs b=>?_);have b:=iu b;have f:s.length<=1:=by
  rcases b with rfl|rfl;·exact GH c
  ·exact dp _
 exact eQ (by rw[str_len];lia) (eQ (by lia) (H s b))
end
section
variable{K:bt}{w:aJ}{Seg:V->List V->Prop}
theorem HL:bo pg K w->cZ Seg->bq K w (Sm Seg) 1638 (d5 23 mL) 36:=gO (p:=upTo 11) λm Q X a H=>by
 refine bA B4 (aB (bI a (qu rfl)) λu v c=>?_);have g:=c.len;have l1:("set":ao).length=3:=rfl;have l2:(" rm8 b;cmov":ao).length=11:=rfl;have l3:(" r*,rm* wlq":ao).length=11:=rfl;refine eQ (nL g.1 rfl) (eQ (by rw[str_len];lia) (eQ (by rw[str_len,str_len];lia) (eQ (by rw[str_len,str_len,str_len];lia) (aB (bI a (qu rfl)) ⟨⟨trivial,?_⟩,?_⟩))));·exact rn a (yV rfl) rfl λR o b e=>JP a (tQ rfl) rfl (by decide) c λs f=>H _ _ (.set c f e) (tQ rfl)
 ·exact eX a (pH rfl) λz d=>pF a (tQ rfl) (rX d) λr h=>rn a (AR rfl) (rX d) λR o b e=>JP a (yU rfl) (rX d) (by decide) c λs f=>H _ _ (.HA c d f h e) (yU rfl)
end
noncomputable def fT(u:ao):ao:=("j"++u)++" rel32 0;jmp rel32 0;call rel32 0;call rm64 q;loopne rel8 0;jrcxz rel8 0"
noncomputable def Fx(u v:ao):List (ao×ao):=[("j"++u,"j"++v),("jmp","jmp"),("call","callq"),("loopne","loopnz"),("jrcxz","jrcxz"),("j"++u,"j"++v)]
def lT(u:ao)(x:ao×ao)(R:List TT)(o:OP):Ln:=⟨fT u,x.2,[R],x.1,[o]⟩
inductive vV(w:Int):ao->List TT->Prop|sum{l}(h:gZ w "alpha" l):vV w "alpha" l|dot:vV w "" ([.m ".",.s "+"]++plainT w)|num{l}(h:dE w l):vV w "" (l++[.s "+",.m "."])
inductive AN:Ln->Prop|mk{u v x w nm l}(hc:jg u v)(hx:x∈Fx u v)(hw:hU w=ac)(hl:vV w nm l):AN (lT u x l (.rel w nm))
section
variable{m M M':Int}{Q:Cs->b0->Prop}{X:aq->Prop}
def LG(Q:Cs->b0->Prop)(u:ao)(x:ao×ao)(R:List V)(o:OP)(M:Int):Prop:=Q (box M) (.v (.tup [.str (fT u),.str x.2,.lst [.lst R],.str x.1,.lst [o.v]]))
def XQ(Q:Cs->b0->Prop)(u:ao)(x:ao×ao)(w:Int)(M:Int):Prop:=nx ("j"++u) " rel32 0;jmp rel32 0;call rel32 0;call rm64 q;loopne rel8 0;jrcxz rel8 0" λz9=>gd (bm M) ((True/\gd (bm (M+1+2)) (∀l,gZ w "alpha" l->out Q (lT u x l (.rel w "alpha")) (M+1+2)))/\jd (bw [.m ".",.s "+"]) (bw (plainT w)) λR=>gd (bm (M+1)) ((True/\LG Q u x R (.rel w "") (M+1+1))/\gd (bm (M+1+1)) (∀l,dE w l->jd (bw l) (bw [.s "+",.m "."]) λR=>LG Q u x R (.rel w "") (M+1+1+1))))
def XT(u v:ao)(A:Prop):Prop:=nx "j" u λz9=>nx "j" v λz9=>nx "j" u λz9=>nx "j" v λz9=>A
theorem KB:EW (upTo 11) 1631 m Q X=gd (bm (m+2)) (∀u v,jg u v->gd (bm (m+2)) (rA (λx=>XT u v (gd (bm (m+2+1)) (∀d:Int,0<=d->d<4294967296->nx "j" u λz9=>XQ Q u x (d-2147483648) (m+2+1+1)))) (Fx u v))):=by kernel_rfl
end
section
variable{K:bt}{w:aJ}{Seg:V->List V->Prop}
theorem yy{u:ao}{x:ao×ao}{l:List TT}{o:OP}{M:Int}{Q:Cs->b0->Prop}(h:out Q (lT u x l o) M):LG Q u x (bw l) o M:=h
theorem GV{d:Int}(a:0<=d)(b:d<4294967296):hU (d-2147483648)=ac:=by unfold hU;rw[decide_eq_true (sL a rfl),decide_eq_true (by lia)];rfl
theorem RK:bo pg K w->cZ Seg->bq K w (Sm Seg) 1631 (d5 8 AN) 36:=gO (p:=upTo 11) λm Q X b H=>by
 refine bA KB (aB (bI b (qu rfl)) λu v c=>aB (bI b (qu rfl)) (jE λx f=>?_));have a:=c.len;have l1:("j":ao).length=1:=rfl;have l2:(" rel32 0;jmp rel32 0;call rel32 0;call rm64 q;loopne rel8 0;jrcxz rel8 0":ao).length<=100:=aj rfl;refine eQ (by rw[l1];exact nL a.1 rfl) (eQ (by rw[l1];exact nL a.2 rfl) (eQ (by rw[l1];exact nL a.1 rfl) (eQ (by rw[l1];exact nL a.2 rfl) (aB (bI b (pH rfl)) λd g h=>eQ (by rw[l1];exact nL a.1 rfl) (eQ (by rw[str_len,l1];lia) (aB (bI b (yV rfl)) ⟨⟨trivial,?_⟩,?_⟩))))));all_goals have e:=GV g h
 ·exact aB (bI b (AR rfl)) λl a=>H _ _ (.mk c f e (.sum a)) (AR rfl)
 ·refine cP (by have :=dY (d-2147483648);show 2+_<=_;exact nL ‹_› rfl) (aB (bI b (tQ rfl)) ⟨⟨trivial,yy (H _ _ (.mk c f e .dot) (AR rfl))⟩,aB (bI b (AR rfl)) λl a=>cP (by have :=a.len;show _+2<=_;exact nR ‹_› rfl) (yy (H _ _ (.mk c f e (.num a)) (yU rfl)))⟩)
end
noncomputable def AD:ao:="push rm* wq;pop rm* wq;jmp rm* q;call rm* q;jmp rel32 0;call rel32 0"
def Al(nm s:ao)(R:List TT)(o:OP):Ln:=⟨AD,nm++s,[R],nm,[o]⟩
def hJ(v:OP):Bool:=by cases v with
 |mem b i _ _ _ a _=>exact b.isNone&&i.isNone&&ag a ""|_=>exact ae
noncomputable def Lq:List ao:=["push","pop"]
noncomputable def MS:List ao:=["jmp","call"]
inductive vU:Ln->Prop|pp{nm z R o b s}(hn:nm∈Lq)(hz:z∈([64,16]:List Int))(hs:s=bT z\/((b&&decide (z=16))=ae/\s=""))(ho:n9 z R o b):vU (Al nm s R o)|xi{nm R o b s}(t:Bool)(hn:nm∈MS)(hs:s=bT 64\/s="")(ht:hJ o=ac->t=ac)(ho:n9 64 R o b):vU (Al nm s (cd t ([.s "*"]++R) R) o)
section
variable{z m M M':Int}{Q:Cs->b0->Prop}{X:aq->Prop}
def VU(z:Int)(K:List TT->OP->Prop):Prop:=(∀a s w nm l,je a ak ak s w nm l->K l (.mem ak ak s w z a nm))/\(∀a i s w nm l,je a ak (aa i) s w nm l->K l (.mem ak (aa i) s w z a nm))/\∀a b i s w nm l,je a (aa b) i s w nm l->K l (.mem (aa b) i s w z a nm)
theorem NS{K:List TT->OP->Prop}(h:VU z K):∀a b i s w nm l,je a b i s w nm l->K l (.mem b i s w z a nm):=λa b i s w nm l c=>by induction b with
 |some b=>exact h.2.2 _ _ _ _ _ _ _ c|none=>induction i with
  |some i=>exact h.2.1 _ _ _ _ _ _ c|none=>exact h.1 _ _ _ _ _ c
def Pk:aS:=λlf args Q z9=>gd (!lf) (iL args 17 λm as=>wp (one? as) λa=>wp (sa a) λz=>gd (kz z) ((∀nm kd n,gw nm kd n z->r6 kd=ac->Q (box (m+17)) (.v (oz nm kd n z)))/\VU z λl o=>Q (box (m+17)) (.v (.tup [cq l,o.v]))))
def UH:List (aq×aS):=(1575,Pk)::(1519,tn)::lD (upTo 11)
def kX(z M:Int)(K:List TT->OP->Bool->Int->Prop):Prop:=gd (bm (M+17)) (gd (kz z) ((∀nm kd n,gw nm kd n z->r6 kd=ac->K [.r nm] (.ce ⟨nm,kd,n,z⟩) ae (M+17))/\VU z λl o=>K l o ac (M+17)))
theorem Jj{K:List TT->OP->Bool->Int->Prop}(f:bm M'=ac)(g:M+17<=M')(j:kz z=ac)(H:∀R o b,n9 z R o b->K R o b (M+17)):kX z M K:=aB (bI f g) (aB j ⟨λc k n d e=>H _ _ _ (.ce (r:=⟨c,k,n,z⟩) ⟨d,e,rfl⟩),λa s w c l h=>H _ _ _ (.mem h),λa i s w c l h=>H _ _ _ (.mem h),λa b i s w c l h=>H _ _ _ (.mem h)⟩)
def wM(o:OP)(K:Bool->Prop):Prop:=match o with
 |.mem b i _ _ _ a _=>(match b.isNone&&i.isNone with
  |ac=>gd (bO a&&bO "") (K (ag a ""))|ae=>K ae)|_=>K ae
def IF(Q:Cs->b0->Prop)(nm:ao)(z M:Int):Prop:=kX z M λR o b M=>wM o λz9=>kL z M (b&&decide (z=16)) λs M=>out Q (Al nm s R o) M
def KA(Q:Cs->b0->Prop)(nm:ao)(R:List TT)(o:OP)(M:Int):Prop:=jd (bw [.s "*"]) (bw R) λR=>kL 64 M ae λs M=>Q (box M) (.v (.tup [.str AD,.str (nm++s),.lst [.lst R],.str nm,.lst [o.v]]))
def OW(Q:Cs->b0->Prop)(nm:ao)(R:List TT)(o:OP)(M:Int):Prop:=gd (bm M) ((True/\kL 64 (M+1) ae λs M=>out Q (Al nm s R o) M)/\KA Q nm R o (M+1))
def OV(Q:Cs->b0->Prop)(nm:ao)(M:Int):Prop:=kX 64 M λR o b M=>wM o λq=>br q (KA Q nm R o M) (OW Q nm R o M)
def OU(Q:Cs->b0->Prop)(nm:ao)(M:Int):Prop:=br (ag nm "jmp"||ag nm "call") (OV Q nm M) (kD M [64,16] (IF Q nm))
theorem Kx:aN pg (bM UH) 3 ae 1624 [.c (.ch (.int m))] Q X=kD m (Lq++MS) (OU Q):=by kernel_rfl
theorem O5{nm s:ao}{R:List TT}{o:OP}(h:out Q (Al nm s (cd ac ([.s "*"]++R) R) o) M):Q (box M) (.v (.tup [.str AD,.str (nm++s),.lst [.lst (bw ([.s "*"]++R))],.str nm,.lst [o.v]])):=h
theorem B7{a:ao}(h:ek a=ac):bO a=ac:=by unfold ek at h;simp only[aZ,aI]at h;rcases h with(rfl|rfl)|rfl<;>rfl
theorem sC{R:List TT}{o:OP}{b:Bool}{K:Bool->Prop}(c:n9 z R o b)(H:K (hJ o)):wM o K:=by induction c with
 |ce=>exact H|@mem a b i s w f l d=>
  have H:K ((b.isNone&&i.isNone)&&ag a ""):=H;show match b.isNone&&i.isNone with
   |ac=>gd (bO a&&bO "") (K (ag a ""))|ae=>K ae;induction e:b.isNone&&i.isNone with
  |true=>replace H:=e▸H;exact aB (by refine(B7 d.sg).symm▸?_;rfl) H|false=>replace H:=e▸H;exact H
end
section
variable{K:bt}{w:aJ}{Seg:V->List V->Prop}
theorem Fw{z:Int}{R:List TT}{o:OP}{b:Bool}(h:n9 z R o b):R.length<=100:=by induction h with
 |ce=>exact aj rfl|@mem a b i s w f l c=>have d:=qY a;induction c.pl with
  |bare h=>have :=h.len;refine aw.symm▸nA ‹_› ‹_› rfl|@sum b i s k e _ _ _ _ h=>have :=h.len;have :=jo b i s k;refine aw.symm▸aw.symm▸Yh ‹_› ‹_› ‹_› rfl|@tail b i s k=>have :=jo b i s k;refine aw.symm▸nA ‹_› ‹_› rfl
theorem Mm(b:bo pg K w)(g:cZ Seg):iE K w (Sm Seg) 30 UH:=.cons ((Jh b g).vw b 2 (by decide) λu d Q X h=>vI (by refine bB (bK h) λe l=>aB (by refine e.symm▸?_;rfl) (db l λm t k q n=>?_);refine xK λs c=>xW n λa i o=>xW o λz j p=>xG p λr f=>c ?_;refine k.symm▸aB q (AY i (AY j (aB r ⟨f.1,NS f.2⟩))))) (.cons ((gu b g).vw b 2 (by decide) λz9 z9 z9 z9=>vH) ((mi b).up (by decide)))
theorem Ky{m:Int}{Q:Cs->b0->Prop}{X:aq->Prop}(c:bm (m+22)=ac)(H:∀l M,vU l->M<=m+22->out Q l M):aN pg (bM UH) 3 ae 1624 [.c (.ch (.int m))] Q X:=by
 refine bA Kx (eX c (iZ rfl) λa n=>?_);have xi:a∈MS->OV Q a (m+1):=λi=>by refine Jj c (pH rfl) rfl λR o b d=>sC d ?_;have S:∀M,M<=m+20->KA Q a R o M:=λM k=>cP (by have :=Fw d;show 1+_<=_;exact nL ‹_› rfl) (jt c (Od ‹_› rfl) rfl λs f=>O5 (H _ _ (.xi ac i (iu f) (λz9=>rfl) d) (Od ‹_› rfl)));have D:hJ o=ae->∀M,M<=m+19->OW Q a R o M:=λp M k=>aB (bI c (by lia)) ⟨⟨trivial,jt c (Te ‹_› rfl) rfl λs f=>H (Al a s (cd ae ([.s "*"]++R) R) o) _ (.xi ae i (iu f) (λh=>cy (p.symm.trans h)) d) (Te ‹_› rfl)⟩,S _ (Od ‹_› rfl)⟩;induction e:hJ o with
  |true=>exact S _ (pH rfl)|false=>exact D e _ (pH rfl)
 have pp:a∈Lq->kD (m+1) [64,16] (IF Q a):=λi=>by refine eX c (qu rfl) λz j=>?_;have g:kz z=ac:=am.mp (by rfl:(([64,16]:List Int).all kz)=ac) z j;exact Jj c (yV rfl) g λR o b d=>sC d (jt c (tQ rfl) g λs f=>H _ _ (.pp i j f d) (tQ rfl))
 unfold OU;rcases ee.mp n with h|h;·have e:=am.mp (by rfl:(Lq.all λa=>!(ag a "jmp"||ag a "call"))=ac) a h;rw[aL]at e;exact dO e (pp h)
 ·exact ge (am.mp (by rfl:(MS.all λa=>ag a "jmp"||ag a "call")=ac) a h) (xi h)
theorem RJ(c:bo pg K w)(k:cZ Seg):bq K w (Sm Seg) 1624 (d5 22 vU) 36:=(Mm c k).vw c 3 (by decide) λo a Q X b=>by refine bB (bK b) λd g=>?_;clear b;subst d;refine db g λm n e j H=>xG H λf H=>e.symm▸(aX.mp f).symm▸⟨m+22,Ky j λl M i h=>gc (H l i) h⟩
end
end
inductive um(l:Ln):Prop|shift(h:LShift l)|two(h:vT l)|Hf(h:sS l)|ext(h:xE l)|SL(h:vU l)|SN(h:AN l)|yd(h:mL l)|alone(h:pc l)|prod(h:rO l)|S4(h:AO l)|vec(h:xD l)
def lL:List (aq×aS):=(1596,d5 26 LShift)::(1603,d5 25 vT)::(1610,d5 21 sS)::(1617,d5 23 xE)::(1624,d5 22 vU)::(1631,d5 8 AN)::(1638,d5 23 mL)::(1645,d5 1 pc)::(1652,d5 25 rO)::(1659,d5 19 AO)::(1666,d5 21 xD)::lD (upTo 11)
section
variable{K:bt}{w:aJ}{Seg:V->List V->Prop}{m:Int}{Q:Cs->b0->Prop}{X:aq->Prop}
theorem QB(a:bo pg K w)(b:cZ Seg):iE K w (Sm Seg) 36 lL:=.cons (HK a b) (.cons (RI a b) (.cons (Nu a b) (.cons (RU a b) (.cons (RJ a b) (.cons (RK a b) (.cons (HL a b) (.cons (HV a b) (.cons (Nk a b) (.cons (RQ a b) (.cons (RH a b) ((mi a).up (by decide))))))))))))
def kK(m k:Int)(L:Ln->Prop)(Q:Cs->b0->Prop):Prop:=gd (bm (m+k)) (∀l,L l->out Q l (m+k))
theorem GE:aN pg (bM lL) 2 ae 1673 [.c (.ch (.int m))] Q X=gd (bm m) (((((((((((True/\kK (m+1) 26 LShift Q)/\kK (m+1) 25 vT Q)/\kK (m+1) 21 sS Q)/\kK (m+1) 23 xE Q)/\kK (m+1) 22 vU Q)/\kK (m+1) 8 AN Q)/\kK (m+1) 23 mL Q)/\kK (m+1) 1 pc Q)/\kK (m+1) 25 rO Q)/\kK (m+1) 19 AO Q)/\kK (m+1) 21 xD Q):=by kernel_rfl
theorem GG(b:bm (m+27)=ac)(H:∀l M,um l->M<=m+27->out Q l M):aN pg (bM lL) 2 ae 1673 [.c (.ch (.int m))] Q X:=by refine bA GE (aB (bI b (iZ rfl)) ?_);have a:∀{k:Int}{L:Ln->Prop},k<=26->(∀l,L l->um l)->kK (m+1) k L Q:=λe c=>aB (bI b (by lia)) λl d=>H l _ (c l d) (by lia);exact⟨⟨⟨⟨⟨⟨⟨⟨⟨⟨⟨trivial,a (by decide) λz9=>.shift⟩,a (by decide) λz9=>.two⟩,a (by decide) λz9=>.Hf⟩,a (by decide) λz9=>.ext⟩,a (by decide) λz9=>.SL⟩,a (by decide) λz9=>.SN⟩,a (by decide) λz9=>.yd⟩,a (by decide) λz9=>.alone⟩,a (by decide) λz9=>.prod⟩,a (by decide) λz9=>.S4⟩,a (by decide) λz9=>.vec⟩
theorem Nn(c:bo pg K w)(k:cZ Seg):bq K w (Sm Seg) 1673 (d5 27 um) 40:=(QB c k).vw c 2 (by decide) λo a Q X b=>by refine bB (bK b) λd g=>?_;clear b;subst d;refine db g λm n e j H=>xG H λf H=>e.symm▸(aX.mp f).symm▸⟨m+27,GG j λl M i h=>gc (H l i) h⟩
end
structure FD where
 name:ao
 kinds:List ao
 size:Int
noncomputable def slots:List (ao×List ao):=[("fixed",["one","cl"]),("imm",["uimm8","imm8","imm16","imm32","simm32","simm8"]),("rel",["rel32","rel8"]),("rm",["rm8","rm16","rm32","rm64","m","xm64","xm128"]),("reg",["r8","r16","r32","r64","x"])]
def BO(k:ao):ao:=slots.foldr (λp r=>cd (p.2.any (ag k)) p.1 r) ""
def FD.v(f:FD):V:=.inst 631 [("name",.str f.name),("kinds",.tup (f.kinds.map .str)),("opcode",.int 144),("escape",.int 0),("digit",.int (-1)),("size",.int f.size),("must",.int 0),("is_wide",.bool ae),("number",.any),("places",.tup (f.kinds.map λk=>.str (BO k)))]
abbrev ND:=List (ao×List FD)
def Sk(f:FD):ND->ND
 |[]=>[(f.name,[f])]|p::r=>cd (ag p.1 f.name) ((p.1,p.2++[f])::r) (p::Sk f r)
def byName(fs:List FD):ND:=fs.foldl (λd f=>Sk f d) []
def Jc(d:ND):List (V×V):=d.map λp=>(.str p.1,.lst (p.2.map FD.v))
def cg(fs:List FD):V:=.inst 723 [("forms",.lst (fs.map FD.v)),("by_name",.dict (Jc (byName fs))),("by_code",.any)]
def X1(z:Int):ao:=cd (decide (z=8)) "8" (cd (decide (z=16)) "16" (cd (decide (z=32)) "32" "64"))
def F(n:ao)(Ph:List Int)(kinds:List (Bool×ao)):List FD:=Ph.map λz=>⟨n,kinds.map λk=>cd k.1 (k.2++X1 z) k.2,z⟩
abbrev r':Bool×ao:=(ac,"r")
abbrev rU:Bool×ao:=(ac,"rm")
noncomputable def S'(s:ao):Bool×ao:=(ae,s)
def always:List FD:=F "mov" z4 [rU,r']++F "movsd" [32] []++F "hlt" [0] []
def DN(n:ao):List FD:=always++(F n z4 [rU,S' "one"]++F n z4 [rU,S' "uimm8"]++F n z4 [rU,S' "cl"])
def vq(n:ao):List FD:=always++(F n z4 [rU,r']++F n z4 [r',rU]++F n [8,16,32] [rU,(ac,"imm")]++F n [64] [rU,S' "simm32"])
def rs(n:ao):List FD:=always++F n z4 [rU,r']
def G6:List FD:=always++(F "movzx" z3 [r',S' "rm8"]++F "movzx" [32,64] [r',S' "rm16"]++F "movsx" z3 [r',S' "rm8"]++F "movsx" [32,64] [r',S' "rm16"]++F "movsxd" [64] [r',S' "rm32"])
def jV:List FD:=always++(F "push" [16,64] [rU]++F "pop" [16,64] [rU]++F "jmp" [64] [rU]++F "call" [64] [rU]++F "jmp" [0] [S' "rel32"]++F "call" [0] [S' "rel32"])
def gT(d:ao):List FD:=always++(F ("j"++d) [0] [S' "rel32"]++F "jmp" [0] [S' "rel32"]++F "call" [0] [S' "rel32"]++F "call" [64] [S' "rm64"]++F "loopne" [0] [S' "rel8"]++F "jrcxz" [0] [S' "rel8"])
def gC(d:ao):List FD:=always++(F ("set"++d) [8] [S' "rm8"]++F ("cmov"++d) z3 [r',rU])
def oR(n:ao):List FD:=always++F n [64] []
def rr:List FD:=always++(F "imul" z4 [rU]++F "imul" z3 [r',rU]++F "imul" z3 [r',rU,S' "simm8"]++F "imul" [32,64] [r',rU,S' "imm32"])
def Ax:List FD:=always++F "lea" z3 [r',S' "m"]
def xx:Bool×ao:=S' "x"
def oQ:List FD:=always++(F "movq" [0] [xx,S' "xm64"]++F "movq" [0] [S' "xm64",xx]++F "movq" [64] [xx,S' "rm64"]++F "movq" [64] [S' "rm64",xx]++F "movd" [32] [xx,S' "rm32"]++F "movd" [32] [S' "rm32",xx]++F "movaps" [0] [xx,S' "xm128"]++F "movaps" [0] [S' "xm128",xx]++F "movsd" [0] [xx,S' "xm64"]++F "movsd" [0] [S' "xm64",xx])
noncomputable def tY:ao:="add rm*,r* bwlq;add r*,rm* bwlq;add rm*,imm* bwl;jmp rel32 0;jmp rm64 q;push rm* wq;push simm32 q"
def jw:List FD:=always++(F "add" z4 [rU,r']++F "add" z4 [r',rU]++F "add" [8,16,32] [rU,(ac,"imm")]++F "jmp" [0] [S' "rel32"]++F "jmp" [64] [S' "rm64"]++F "push" [16,64] [rU]++F "push" [64] [S' "simm32"])
noncomputable def fX(n:ao):ao:=n++" rm*,r* bwlq"
noncomputable def fA(n:ao):ao:=n++" - q"
noncomputable def MU:ao:="lea r*,m wlq"
def r7:List ao:=nw.map mm
def sets:List (ao×List FD):=FJ.map (λn=>(Rl n,DN n))++p6.map (λn=>(Hc n,vq n))++pK.map (λn=>(fX n,rs n))++r7.map (λd=>(fT d,gT d))++r7.map (λd=>(fC d,gC d))++pb.map (λx=>(fA x.2,oR x.2))++[(Hd,G6),(AD,jV),(vy,rr),(MU,Ax),(DY,oQ),(tY,jw)]
noncomputable def Ja:List (ao×ao):=[("sal","shl"),("loopz","loope"),("loopnz","loopne"),("repe","rep"),("repz","rep"),("repnz","repne")]
noncomputable def EX:List (ao×ao):=[("c","b"),("nae","b"),("nb","ae"),("nc","ae"),("z","e"),("nz","ne"),("na","be"),("nbe","a"),("pe","p"),("po","np"),("nge","l"),("nl","ge"),("ng","le"),("nle","g")]
noncomputable def dV(l:List (ao×ao)):List (V×V):=l.map λp=>(.str p.1,.str p.2)
noncomputable def OL:ao:="sal:shl loopz:loope loopnz:loopne repe:rep repz:rep repnz:repne"
noncomputable def SJ:ao:="c:b nae:b nb:ae nc:ae z:e nz:ne na:be nbe:a pe:p po:np nge:l nl:ge ng:le nle:g"
def jr{α:Type}(x:ao)(l:List (ao×α)):Option α:=l.foldr (λp r=>cd (ag p.1 x) (aa p.2) r) ak
theorem vx(x:ao)(l:List (ao×ao)):eY (.str x) (dV l)=aa ((jr x l).map V.str):=by induction l with
 |nil=>rfl|cons p l a=>show cd (ag p.1 x) (aa (aa (V.str p.2))) (eY (.str x) (dV l))=aa ((cd (ag p.1 x) (aa p.2) (jr x l)).map V.str);refine a.symm▸?_;cases ag p.1 x<;>rfl
theorem EA(x:ao)(l:List (ao×ao)):((dV l).any λp=>dj x p.1)=(jr x l).isSome:=by induction l with
 |nil=>rfl|cons p l a=>show(ag p.1 x||(dV l).any λp=>dj x p.1)=(cd (ag p.1 x) (aa p.2) (jr x l)).isSome;refine a.symm▸?_;cases ag p.1 x<;>rfl
abbrev fV(x:ao)(n:Int):ao:=a6 x ak (aa n)
abbrev EQ(x:ao)(n:Int):ao:=a6 x (aa n) ak
def pA(s:ao)(n:Int)(x:ao):Option ao:=cd (ag (fV x n) s) ((jr (EQ x n) EX).map (s++·)) ak
def gb(x:ao):ao:=(jr x Ja).getD ((pA "j" 1 x).getD ((pA "set" 3 x).getD ((pA "cmov" 4 x).getD x)))
def nz(x:ao):Bool:=aU x.length 1000&&bO (fV x 1)&&bO (fV x 3)&&bO (fV x 4)
def Gb(p:ao×List (ao×ao)):Go:=aN pg nt 2 ae 642 [.v (.str p.1)]
def Ga(p:ao×List (ao×ao)):Go:=λQ X=>Q [] (.v (.dict (dV p.2)))
theorem CC:[(OL,Ja),(SJ,EX)].map Gb=[(OL,Ja),(SJ,EX)].map Ga:=by kernel_rfl
def wB:aS:=λlf args Q z9=>gd (!lf) (wp (p9 args) λs=>cd (ag s OL) (Q [] (.v (.dict (dV Ja)))) (gd (ag s SJ) (Q [] (.v (.dict (dV EX))))))
def FX:aS:=λlf args Q z9=>gd (!lf) (wp (p9 args) λx=>gd (nz x) (Q [] (.v (.str (gb x)))))
section
variable{K:bt}{w:aJ}{Seg:V->List V->Prop}{lf:Bool}{args:List Arg}{Q:Cs->b0->Prop}{X:aq->Prop}
theorem HP(h:wB lf args Q X):aN pg nt 2 lf 642 args Q X:=by
 refine bB (bK h) λb d=>?_;clear h;subst b;refine xW d λs e h=>(strA_eq e).symm▸?_;have v:=λp f=>congrFun (congrFun (aH.mp CC p f) Q) X;refine xB (ag s OL) (λa=>?_) λa=>?_;·rw[a]at h;refine xG (show gd _ _ from h) λc h=>(aI.mp c).symm▸bA (v (SJ,EX) (.tail _ (.head _))) h
 ·rw[a]at h;refine(aI.mp a).symm▸bA (v (OL,Ja) (.head _)) h
def yb(s:ao)(n:Int)(x:ao)(Q:Cs->b0->Prop)(A:Prop):Prop:=gd (fits x.length) (gd (bO (fV x n)&&bO s) (br (ag (fV x n) s) (gd (fits x.length) (br ((dV EX).any λp=>dj (EQ x n) p.1) (gd (fits x.length) (wp (eY (.str (EQ x n)) (dV EX)) λo=>wp o λv=>sY .Add (.str s) (view [] v) [] λv c=>i0 0 v c Q)) A)) A))
theorem Nf(x:ao):aN pg (bM [(642,wB)]) 2 ae 649 [.v (.str x)] Q X=br ((dV Ja).any λp=>dj x p.1) (wp (eY (.str x) (dV Ja)) λo=>wp o λv=>i0 0 v [] Q) (yb "j" 1 x Q (yb "set" 3 x Q (yb "cmov" 4 x Q (Q [] (.v (.str x)))))):=by kernel_rfl
theorem GD{x y:ao}(h:jr x EX=aa y):y.length<=10:=by
 have c:∀l:List (ao×ao),(l.all λp=>aU p.2.length 10)=ac->jr x l=aa y->y.length<=10:=by intro l;induction l with
  |nil=>exactλz9 h=>bn h|cons p l d=>
   intro b a;rw[cn,af]at b;have a:cd (ag p.1 x) (aa p.2) (jr x l)=aa y:=a;refine xB (ag p.1 x) (λe=>?_) λe=>?_;·replace a:=e▸a;exact d b.2 a
   ·rw[e]at a;injection a with a;refine a▸aj b.1
 exact c EX rfl h
theorem qR{s x:ao}{n:Int}{A:Prop}(g:x.length<=1000)(c:bO s=ac)(d:s.length<=10)(b:bO (fV x n)=ac)(h:match pA s n x with
  |aa y=>Q [] (.v (.str y))|ak=>A):yb s n x Q A:=by have f:=fits_of (n:=x.length) (nT ‹_› rfl);refine aB f (aB (by refine b.symm▸c.symm▸rfl) ?_);unfold pA at h;induction e:ag (fV x n) s with
 |false=>replace h:=e▸h;exact h|true=>replace h:=e▸h;refine aB f ?_;rw[EA,vx];induction a:jr (EQ x n) EX with
  |none=>replace h:=a▸h;exact h|some y=>replace h:=a▸h;have :=GD a;exact aB f (aB (b:=isAdd .Add) rfl (aB (fits_of (nA ‹_› ‹_› rfl)) h))
theorem RX(h:FX lf args Q X):aN pg (bM [(642,wB)]) 2 lf 649 args Q X:=by refine bB (bK h) λi j=>?_;clear h;subst i;refine xW j λx e h=>xG h λb h=>?_;rw[strA_eq e,Nf];unfold nz at b;simp only[af]at b;refine bB b λn m=>bB n λo l=>bB o λa k=>?_;have a:=aj a;rw[EA,vx];unfold gb at h;induction c:jr x Ja with
 |some y=>replace h:=c▸h;exact h|none=>replace h:=c▸h;refine qR a rfl (aj rfl) k ?_;induction d:pA "j" 1 x with
  |some y=>rw[d]at h;exact h|none=>rw[d]at h;refine qR a rfl (aj rfl) l ?_;induction f:pA "set" 3 x with
   |some y=>rw[f]at h;exact h|none=>replace h:=f▸h;refine qR a rfl (aj rfl) m ?_;induction g:pA "cmov" 4 x with
    |some y=>replace h:=g▸h;exact h|none=>replace h:=g▸h;exact h
theorem Ef(a:bo pg K w):bq K w (Sm Seg) 649 FX 8:=(iE.cons (bq.run a 2 (a8 4) λz9 z9 z9 z9=>HP) .nil).fn a ci 2 (by decide) λz9 z9 z9 z9=>RX
end
theorem sJ{a:Type}(f:a->V)(x:ao)(l:List (ao×a)):eY (.str x) (l.map λp=>(.str p.1,f p.2))=aa ((jr x l).map f):=by induction l with
 |nil=>rfl|cons p l b=>show cd (ag p.1 x) (aa (aa (f p.2))) (eY (.str x) (l.map λp=>(.str p.1,f p.2)))=aa ((cd (ag p.1 x) (aa p.2) (jr x l)).map f);refine b.symm▸?_;cases ag p.1 x<;>rfl
noncomputable def FB:List (ao×Int):=[("b",8),("w",16),("l",32),("q",64)]
def ef(x:ao):Int:=(jr x FB).getD 0
noncomputable def dI(l:List (ao×Int)):List (V×V):=l.map λp=>(.str p.1,.int p.2)
def Cc:aS:=λlf args Q z9=>wp (p9 args) λx=>Q [] (.v (.int (ef x)))
def PX(o:Option V)(d:V)(K:V->Prop):Prop:=match o with
 |aa v=>K v|ak=>K d
section
variable{K:bt}{w:aJ}{Seg:V->List V->Prop}{lf:Bool}{args:List Arg}{Q:Cs->b0->Prop}{X:aq->Prop}
theorem KG(x:ao):aN pg nt 2 lf 1179 [.v (.str x)] Q X=wp (eY (.str x) (dI FB)) λo=>PX o (.int 0) λv=>i0 0 v [.dict (dI FB)] Q:=by kernel_rfl
theorem RL(h:Cc lf args Q X):aN pg nt 2 lf 1179 args Q X:=by refine xW h λx e h=>?_;rw[strA_eq e,KG,dI,sJ V.int];unfold ef at h;induction a:jr x FB with
 |none=>replace h:=a▸h;exact h|some y=>replace h:=a▸h;exact h
noncomputable def N4:List (ao×ao):=[("cltq","cdqe"),("cqto","cqo"),("cltd","cdq"),("cwtl","cwde"),("cwtd","cwd"),("cbtw","cbw"),("pushf","pushfq"),("popf","popfq")]
noncomputable def uO:List ao:=["movs","cmps","stos","lods","scas"]
def ET(x:ao):ao:=(jr x N4).getD (cd (ag (a6 x (aa (-1)) ak) "l"&&uO.any λs=>ag s (a6 x ak (aa (-1)))) (a6 x ak (aa (-1))++"d") "")
def Oa(x:ao):Bool:=aU x.length 1000&&bO x&&bO (a6 x (aa (-1)) ak)&&bO (a6 x ak (aa (-1)))&&aU (a6 x ak (aa (-1))).length 1000
def Ub:aS:=λlf args Q z9=>gd (!lf) (wp (p9 args) λx=>gd (Oa x) (Q [] (.v (.str (ET x)))))
noncomputable def iU(l:List ao):List V:=l.map .str
def Oy:List V:=iU (N4.map (·.1))
def Wt:List V:=iU (N4.map (·.2))
def L0(x:ao):Go:=aN pg nt 2 ae 1275 [.v (.str x)]
def Yd(x:ao)(Q:Cs->b0->Prop):Prop:=gd (fits x.length) (gd (bO (a6 x (aa (-1)) ak)&&bO "l") (br (ag (a6 x (aa (-1)) ak) "l") (gd (fits x.length) (gd (bO (a6 x ak (aa (-1)))&&(iU uO).all wP) (br ((iU uO).any (dj (a6 x ak (aa (-1))))) (gd (fits x.length) (gd (fits ((a6 x ak (aa (-1))).length+("d":ao).length)) (Q [] (.v (.str (a6 x ak (aa (-1))++"d")))))) (Q [] (.v (.str "")))))) (Q [] (.v (.str "")))))
theorem P9(x:ao):L0 x Q X=gd (bO x&&Oy.all wP) (br (Oy.any (dj x)) (wp (idxOf x 0 Oy) λn=>ro Wt n λv=>i0 0 v [.lst ae Oy,.lst ae Wt] Q) (Yd x Q)):=by kernel_rfl
theorem LZ:(N4.map λp=>L0 p.1 Q X)=N4.map λp=>Q [] (.v (.str p.2)):=by kernel_rfl
theorem uh(x:ao)(l:List ao):(iU l).any (dj x)=l.any λs=>ag s x:=by induction l with
 |nil=>rfl|cons a l b=>show(ag a x||(iU l).any (dj x))=(ag a x||l.any λs=>ag s x);rw[b]
theorem NL{b:Type}(x:ao)(l:List (ao×b)):((l.map (·.1)).any λs=>ag s x)=(jr x l).isSome:=by induction l with
 |nil=>rfl|cons p l a=>show(ag p.1 x||(l.map (·.1)).any λs=>ag s x)=(cd (ag p.1 x) (aa p.2) (jr x l)).isSome;refine a.symm▸?_;cases ag p.1 x<;>rfl
theorem C2{a:Type}{x:ao}{y:a}{l:List (ao×a)}(h:jr x l=aa y):(x,y)∈l:=by induction l with
 |nil=>exact bn h|cons p l b=>
  have h:cd (ag p.1 x) (aa p.2) (jr x l)=aa y:=h;refine xB (ag p.1 x) (λe=>?_) λe=>?_;·replace h:=e▸h;exact .tail _ (b h)
  ·replace h:=e▸h;injection h with h;refine h▸(aI.mp e)▸.head _
theorem Vx(h:Ub lf args Q X):aN pg nt 2 lf 1275 args Q X:=by refine bB (bK h) λg i=>?_;clear h;subst g;refine xW i λx e h=>xG h λb h=>?_;rw[strA_eq e];show L0 x Q X;unfold Oa at b;simp only[af]at b;refine bB b λo m=>bB o λp l=>bB p λz3 k=>bB z3 λn j=>?_;have f:=fits_of (n:=x.length) (by have :=aj n;exact nT ‹_› rfl);unfold ET at h;induction a:jr x N4 with
 |some y=>rw[a]at h;exact bA (aH.mp LZ (x,y) (C2 a)) h|none=>rw[a]at h;rw[P9];refine aB (by refine j.symm▸rfl) (dO (by rw[Oy,uh,NL,a];rfl) ?_);have h:Q [] (.v (.str (cd (ag (a6 x (aa (-1)) ak) "l"&&uO.any λs=>ag s (a6 x ak (aa (-1)))) (a6 x ak (aa (-1))++"d") ""))):=h;refine aB f (aB (by refine k.symm▸rfl) ?_);induction c:ag (a6 x (aa (-1)) ak) "l"with
  |false=>replace h:=c▸h;exact h|true=>replace h:=c▸h;refine aB f (aB (by refine l.symm▸rfl) ?_);rw[uh];induction d:uO.any λs=>ag s (a6 x ak (aa (-1)))with
   |false=>replace h:=d▸h;exact h|true=>replace h:=d▸h;exact aB f (aB (fits_of (by have :=aj m;show _+1<=_;exact nR ‹_› rfl)) h)
end
abbrev W3:=ao×Int×Int
noncomputable def uC(p:W3):V:=.tup [.str p.1,.int p.2.1,.int p.2.2]
noncomputable def w0:W3:=("",0,0)
noncomputable def EU(n:Int)(l:List Int):Bool:=(l.map PyData.int).any λy=>y.eqv (.int n)
def AZ(x:ao):W3:=cd (ag x "movslq") ("movsxd",64,32) (cd (!(ag "movz" (fV x 4)||ag "movs" (fV x 4))||!EU x.length [5,6]) w0 (cd (!EU (ef (a6 x (aa 4) (aa 5))) [8,16]) w0 (cd (decide ((x.length:Int)=5)) (cd (ag (a6 x (aa 3) (aa 4)) "z") ("movzx",0,ef (a6 x (aa 4) (aa 5))) w0) (cd (decide (ef (EQ x 5)<=ef (a6 x (aa 4) (aa 5)))) w0 (("mov"++a6 x (aa 3) (aa 4))++"x",ef (EQ x 5),ef (a6 x (aa 4) (aa 5)))))))
def SD(x:ao):Bool:=aU x.length 1000&&bO x&&bO (fV x 4)&&bO (a6 x (aa 3) (aa 4))&&aU (a6 x (aa 3) (aa 4)).length 1000
section
variable{K:bt}{w:aJ}{Seg:V->List V->Prop}{lf:Bool}{args:List Arg}{Q:Cs->b0->Prop}{X:aq->Prop}
def XI(x:ao)(Q:Cs->b0->Prop):Prop:=gd (fits x.length) (gd (fits x.length) (br (!EU (ef (a6 x (aa 4) (aa 5))) [8,16]) (Q [] (.v (uC w0))) (gd (fits x.length) (br (decide ((x.length:Int)=5)) (gd (fits x.length) (gd (bO (a6 x (aa 3) (aa 4))&&bO "z") (br (ag (a6 x (aa 3) (aa 4)) "z") (Q [] (.v (uC ("movzx",0,ef (a6 x (aa 4) (aa 5)))))) (Q [] (.v (uC w0)))))) (br (decide (ef (EQ x 5)<=ef (a6 x (aa 4) (aa 5)))) (Q [] (.v (uC w0))) (gd (fits x.length) (gd (fits (("mov":ao).length+(a6 x (aa 3) (aa 4)).length)) (gd (fits (("mov"++a6 x (aa 3) (aa 4):ao).length+("x":ao).length)) (Q [] (.v (uC (("mov"++a6 x (aa 3) (aa 4))++"x",ef (EQ x 5),ef (a6 x (aa 4) (aa 5))))))))))))))
theorem Ow(x:ao):aN pg (bM [(1179,Cc)]) 2 ae 1282 [.v (.str x)] Q X=gd (bO x&&bO "movslq") (br (ag x "movslq") (Q [] (.v (uC ("movsxd",64,32)))) (gd (fits x.length) (gd (bO (fV x 4)&&(iU ["movz","movs"]).all wP) (br (!(iU ["movz","movs"]).any (dj (fV x 4))) (Q [] (.v (uC w0))) (gd (fits x.length) (br (!EU x.length [5,6]) (Q [] (.v (uC w0))) (XI x Q))))))):=by kernel_rfl
def T9:aS:=λlf args Q z9=>gd (!lf) (wp (p9 args) λx=>gd (SD x) (Q [] (.v (uC (AZ x)))))
theorem Vt(h:T9 lf args Q X):aN pg (bM [(1179,Cc)]) 2 lf 1282 args Q X:=by refine bB (bK h) λl m=>?_;clear h;subst l;refine xW m λx e h=>xG h λb h=>?_;rw[strA_eq e,Ow];unfold SD at b;simp only[af]at b;refine bB b λr k=>bB r λs p=>bB s λz3 o=>bB z3 λq n=>?_;have f:=fits_of (n:=x.length) (by have :=aj q;exact nT ‹_› rfl);have k:=aj k;unfold AZ at h;refine aB (by refine n.symm▸rfl) ?_;induction c:ag x "movslq"with
 |true=>rw[c]at h;exact h|false=>rw[c]at h;have h:Q [] (.v (uC (cd _ _ _))):=h;refine aB f (aB (by refine o.symm▸rfl) ?_);refine(show((iU ["movz","movs"]).any (dj (fV x 4)))=(ag "movz" (fV x 4)||ag "movs" (fV x 4))from by rw[uh];exact congrArg _ (Bool.or_false _)).symm▸?_;induction d:ag "movz" (fV x 4)||ag "movs" (fV x 4)with
  |false=>rw[d]at h;exact h|true=>rw[d]at h;have h:Q [] (.v (uC (cd (!EU x.length [5,6]) _ _))):=h;refine aB f ?_;induction g:EU x.length [5,6]with
   |false=>rw[g]at h;exact h|true=>rw[g]at h;have h:Q [] (.v (uC (cd (!EU (ef (a6 x (aa 4) (aa 5))) [8,16]) _ _))):=h;refine aB f (aB f ?_);induction i:EU (ef (a6 x (aa 4) (aa 5))) [8,16]with
    |false=>rw[i]at h;exact h|true=>rw[i]at h;have h:Q [] (.v (uC (cd (decide ((x.length:Int)=5)) _ _))):=h;refine aB f ?_;induction j:decide ((x.length:Int)=5)with
     |true=>rw[j]at h;have h:Q [] (.v (uC (cd (ag (a6 x (aa 3) (aa 4)) "z") _ _))):=h;refine aB f (aB (by refine p.symm▸rfl) ?_);induction a:ag (a6 x (aa 3) (aa 4)) "z"with
      |true=>rw[a]at h;exact h|false=>rw[a]at h;exact h
     |false=>rw[j]at h;have h:Q [] (.v (uC (cd (decide (ef (EQ x 5)<=ef (a6 x (aa 4) (aa 5)))) _ _))):=h;induction a:decide (ef (EQ x 5)<=ef (a6 x (aa 4) (aa 5)))with
      |true=>replace h:=a▸h;exact dO rfl (ge rfl h)|false=>replace h:=a▸h;exact dO rfl (dO rfl (aB f (aB (fits_of (by show 3+_<=_;exact nL ‹_› rfl)) (aB (fits_of (by rw[str_len];show 3+_+1<=_;lia)) h))))
theorem BH(a:bo pg K w):bq K w (Sm Seg) 1179 Cc 4:=bq.run a 2 (a8 4) λz9 z9 z9 z9=>RL
theorem Ox(a:bo pg K w):bq K w (Sm Seg) 1282 T9 8:=(iE.cons (BH a) .nil).fn a ci 2 (by decide) λz9 z9 z9 z9=>Vt
theorem Qa(a:bo pg K w):bq K w (Sm Seg) 1275 Ub 4:=bq.run a 2 (a8 4) λz9 z9 z9 z9=>Vx
end
def fH(fs:List FD)(x:ao):List FD:=(jr x (byName fs)).getD []
def jU(fs:List FD)(x:ao):Bool:=(jr x (byName fs)).isSome
def FV:aS:=λlf args Q z9=>gd (!lf) (∃fs x,args=[.v (cg fs),.v (.str x)]/\Q [] (.v (.bool (jU fs x))))
def IU:aS:=λlf args Q z9=>gd (!lf) (∃fs x,args=[.v (cg fs),.v (.str x)]/\gd (aU (fH fs x).length 200) (Q [] (.v (.lst ((fH fs x).map FD.v)))))
theorem LX(d:ND):((Jc d).all λp=>jS p.1)=ac:=am.mpr λp a=>by(refine aE (aG.mp a) λq c b=>?_;(clear a;subst b));rfl
theorem NK(x:ao)(d:ND):((Jc d).any λp=>dj x p.1)=(jr x d).isSome:=by induction d with
 |nil=>rfl|cons p l a=>show(ag p.1 x||(Jc l).any λp=>dj x p.1)=(cd (ag p.1 x) (aa p.2) (jr x l)).isSome;refine a.symm▸?_;cases ag p.1 x<;>rfl
section
variable{K:bt}{w:aJ}{Seg:V->List V->Prop}{lf:Bool}{args:List Arg}{Q:Cs->b0->Prop}{X:aq->Prop}
theorem MG(fs:List FD)(x:ao):aN pg nt 2 ae 687 [.v (cg fs),.v (.str x)] Q X=gd ((Jc (byName fs)).all λp=>jS p.1) (Q [] (.v (.bool ((Jc (byName fs)).any λp=>dj x p.1)))):=by kernel_rfl
theorem Ek(h:FV lf args Q X):aN pg nt 2 lf 687 args Q X:=by refine bB (bK h) λb a=>c8 a λd x e c=>?_;clear h;subst b;clear a;subst e;rw[MG,NK];exact aB (LX _) c
theorem DW(fs:List FD)(x:ao):aN pg nt 2 ae 680 [.v (cg fs),.v (.str x)] Q X=wp (eY (.str x) (Jc (byName fs))) λo=>PX o (.ptr 0) λv=>SG ae .list [v] [.lst ae []] λv c=>i0 0 v c Q:=by kernel_rfl
theorem Nr(h:IU lf args Q X):aN pg nt 2 lf 680 args Q X:=by refine bB (bK h) λg f=>c8 f λb x e c=>?_;clear h;subst g;clear f;subst e;rw[DW,Jc,sJ (λl:List FD=>V.lst (l.map FD.v)) x (byName b)];unfold fH at c;refine xG c λd h=>?_;induction a:jr x (byName b)with
 |none=>rw[a]at h;exact h|some l=>rw[a]at h d;exact aB (fits_of (by have :=aj d;rw[az];show l.length<=_;have :l.length<=200:=this;exact nT ‹_› rfl)) h
noncomputable def lF:List (aq×aS):=[(687,FV),(680,IU)]
theorem QF(a:bo pg K w):iE K w (Sm Seg) 4 lF:=.cons (bq.run a 2 (a8 4) λz9 z9 z9 z9=>Ek) (.cons (bq.run a 2 (a8 4) λz9 z9 z9 z9=>Nr) .nil)
noncomputable def Ay(v:dG):aY×List dG:=by cases v with
 |For t _ b _ _=>exact(t,b)|_=>exact(default,[])
def ID:aY×List dG:=Ay ((fnOf 1287).body[2]?.getD default)
noncomputable def IE(I:V)(x:ao)(z n:Int)(e:Vs):Vs:=([("iset",I),("name",.str x),("size",.int z),("count",.int n)]:Vs)++e
def Fe(k:ao):Bool:=ag (fV k 1) "x"
def TN(k:ao):Bool:=aU k.length 100&&bO (fV k 1)
def Kj:List ao->List Bool->(List Bool->Prop)->Prop
 |[],bs,A=>A bs|k::ks,bs,A=>gd (fits k.length) (gd (bO (fV k 1)&&bO "x") (Kj ks (bs++[Fe k]) A))
def TP(f:FD)(z:Int)(cs:Cs)(A B:Cs->Prop):Prop:=br (decide (f.size=z)) (match f.kinds with
 |[]=>B cs|k::ks=>Kj (k::ks) [] λbs=>wp (nG (view (cs++[.lst ae (bs.map V.bool)]) (.ptr cs.length))) λl=>wp (boolsOf l) λb=>br (!b.any Td) (A (cs++[.lst ae (bs.map V.bool)])) (B (cs++[.lst ae (bs.map V.bool)]))) (B cs)
abbrev WI:=aN pg (bM lF) 1
abbrev OQ(m:Nat)(I:V)(x:ao)(z n:Int)(e:Vs)(l:List V)(cs:Cs)(Q:Fl->Vs->Cs->Prop)(X:XS):Prop:=(wv pg WI m).For ⟨IE I x z n e,(fnOf 1287).scope,ae⟩ ID.1 l ID.2 cs Q X
def TM(m:Nat)(I:V)(x:ao)(z n:Int)(e:Vs)(f:FD)(l:List V)(cs:Cs)(Q:Fl->Vs->Cs->Prop)(X:XS):Prop:=OQ (m+25) I x z n e (f.v::l) cs Q X
def TL(m:Nat)(I:V)(x:ao)(z n:Int)(f:FD)(l:List V)(cs:Cs)(Q:Fl->Vs->Cs->Prop)(X:XS):Prop:=TP f z cs (Q (.ret (.bool ac)) (IE I x z n [("form",f.v)])) λcs=>OQ (m+24) I x z n [("form",f.v)] l cs Q X
noncomputable def Xb(a b c:ao):List (List ao):=[[],[a],[a,b],[a,b,c]]
def TK(u:V)(a b c:ao):List (Vs×List ao):=([[],[("form",u)]]:List Vs).flatMap λe=>(Xb a b c).map λks=>(e,ks)
theorem Fd(m:Nat)(I:V)(x nm a b c:ao)(z n s:Int)(u:V)(l:List V)(cs:Cs)(Q:Fl->Vs->Cs->Prop)(X:XS):((TK u a b c).map λp=>TM m I x z n p.1 ⟨nm,p.2,s⟩ l cs Q X)=(TK u a b c).map λp=>TL m I x z n ⟨nm,p.2,s⟩ l cs Q X:=by kernel_rfl
def Tl(f:FD):Bool:=aU f.kinds.length 3&&f.kinds.all TN
def Kl(z:Int)(f:FD):Bool:=decide (f.size=z)&&(!f.kinds.isEmpty&&!f.kinds.any Fe)
theorem Bd{cs:Cs}{b:Bool}{l:List V}:view (cs++[.lst b l]) (.ptr cs.length)=.lst l:=by show seen ((cs++[Cell.lst b l])[cs.length]?)=_;refine ey.symm▸?_;rfl
theorem AJ(a:List Bool):boolsOf (a.map V.bool)=aa a:=by induction a with
 |nil=>rfl|cons b a c=>show(boolsOf (a.map V.bool)).map (b::·)=_;refine c.symm▸?_;rfl
theorem x3{A:List Bool->Prop}:∀{ks:List ao}{a:List Bool},ks.all TN=ac->A (a++ks.map Fe)->Kj ks a A
 |[],a,_,h=>by rw[og,bf]at h;exact h|k::ks,a,c,h=>by rw[cn,af]at c;refine bB c λb d=>?_;unfold TN at b;rw[af]at b;refine aB (fits_of (by have :=aj b.1;exact nT ‹_› rfl)) (aB (by refine b.2.symm▸rfl) (x3 d ?_));rw[a0];exact h
theorem NM(a:List ao):((a.map Fe).any Td)=a.any Fe:=by refine List.any_map.symm▸?_;rfl
theorem Km{f:FD}{z:Int}{cs:Cs}{A B:Cs->Prop}(e:Tl f=ac)(d:Kl z f=ac->∀cs,A cs)(a:Kl z f=ae->∀cs,B cs):TP f z cs A B:=by unfold Tl at e;rw[af]at e;unfold Kl at d a;unfold TP;cases c:decide (f.size=z)with
 |false=>rw[c]at a;exact a rfl cs|true=>rw[c]at d a;obtain⟨h,b,s⟩:=f;clear c;induction b using ai with
  |nil=>exact a rfl cs|cons k b=>refine x3 e.2 ?_;refine Bd.symm▸?_;show wp (boolsOf _) _;rw[AJ];show br (!(([]++(k::b).map Fe).any Td)) _ _;rw[ed,NM];induction g:(k::b).any Fe with
   |true=>exact a (by show(ac&&!(k::b).any Fe)=ae;refine g.symm▸rfl) _|false=>exact d (by show(ac&&!(k::b).any Fe)=ac;refine g.symm▸rfl) _
theorem x0{I:V}{x:ao}{z n:Int}{Q:Fl->Vs->Cs->Prop}{X:XS}:∀(l:List FD)(e:Vs)(cs:Cs)(m:Nat),l.all Tl=ac->(e=[]\/∃u,e=([("form",u)]:Vs))->(l.any (Kl z)=ac->∀env cs,Q (.ret (.bool ac)) env cs)->(l.any (Kl z)=ae->∀env cs,Q .next env cs)->OQ (m+l.length+25) I x z n e (l.map FD.v) cs Q X
 |[],e,cs,m,_,_,_,h=>h rfl _ _|f::l,e,cs,m,i,r,p,q=>by
  rw[cn,af]at i;have o:∃u a b c,(e,f.kinds)∈TK u a b c:=by
   have g:∃a b c,f.kinds∈Xb a b c:=by have :=aj (bJ.mp i.1).1;revert this;induction f.kinds using ai with
    |nil=>exactλz9=>(dB "" "" "" (.head _))|cons a k=>induction k using ai with
     |nil=>exactλz9=>(dB a "" "" (.tail _ (.head _)))|cons b k=>induction k using ai with
      |nil=>exactλz9=>(dB a b "" (.tail _ (.tail _ (.head _))))|cons c k=>induction k using ai with
       |nil=>exactλz9=>(dB a b c (.tail _ (.tail _ (.tail _ (.head _)))))|cons d k=>exactλh=>absurd (show k.length+4<=3from h) (by lia)
   refine pv g λa b c g=>?_;rcases r with rfl|⟨u,rfl⟩;·exact mS .none a b c (aC.mpr ⟨_,.head _,aG.mpr ⟨_,g,rfl⟩⟩)
   ·exact mS u a b c (aC.mpr ⟨_,.tail _ (.head _),aG.mpr ⟨_,g,rfl⟩⟩)
  refine xM o λu a b c o=>?_;have st:=aH.mp (Fd (m+l.length+1) I x f.name a b c z n f.size u (l.map FD.v) cs Q X) _ o;show OQ (m+(l.length+1)+25) I x z n e (f.v::l.map FD.v) cs Q X;refine(show m+(l.length+1)+25=m+l.length+1+25from by exact rfl).symm▸bA st (Km i.1 (λh cs=>p (by refine fK.symm▸h.symm▸rfl) _ _) λh cs=>?_);refine(show m+l.length+1+24=m+l.length+25from by exact rfl).symm▸x0 l _ cs m i.2 (.inr ⟨_,rfl⟩) (λj=>p (by refine fK.symm▸j.symm▸Bool.or_true _)) λj=>q (by refine fK.symm▸h.symm▸j.symm▸rfl)
def j0(sp:Spec)(f:aq)(i n:Nat)(lf:Bool)(Q:Cs->b0->Prop)(X:aq->Prop):Fl->Vs->Cs->Prop:=λfl env cs=>match fl with
 |.next=>(wv pg sp (vt-i)).Ss ⟨env,(fnOf f).scope,lf⟩ ((fnOf f).body.drop i) cs (xa ak n Q) (λC z9 z9=>X C)|fl=>xa ak n Q fl env cs
noncomputable def uy:List ao:=["movzx","movsx","movsxd"]
noncomputable def zZ:List ao:=["ret","leave"]
def dK(x:ao)(l:List ao):Bool:=l.any λs=>ag s x
def IC(fs:List FD)(x:ao)(z n:Int):Bool:=cd (ag x "ret"||decide (n=0)) (decide (z=64)&&(dK x zZ&&jU fs x)) (!dK x uy&&(fH fs x).any (Kl z))
def oq(fs:List FD)(x:ao):Bool:=bO x&&(aU (fH fs x).length 200&&(fH fs x).all Tl)
def Ua:aS:=λlf args Q z9=>gd (!lf) (∃fs x z n,args=[.v (cg fs),.v (.str x),.v (.int z),.v (.int n)]/\gd (oq fs x) (Q [] (.v (.bool (IC fs x z n)))))
def SK(fs:List FD)(x:ao)(z:Int)(Q:Cs->b0->Prop):Prop:=br (decide (z=64)) (gd (bO x&&(iU zZ).all wP) (br ((iU zZ).any (dj x)) (∃jx x',[Arg.v (cg fs),.v (.str x)]=[.v (cg jx),.v (.str x')]/\Q [] (.v (.bool (jU jx x')))) (Q [] (.v (.bool ((iU zZ).any (dj x))))))) (Q [] (.v (.bool (decide (z=64)))))
def Wz(fs:List FD)(x:ao)(z n:Int)(Q:Cs->b0->Prop)(X:aq->Prop):Prop:=gd (bO x&&(iU uy).all wP) (br ((iU uy).any (dj x)) (Q [] (.v (.bool ae))) (∃jx x',[Arg.v (cg fs),.v (.str x)]=[.v (cg jx),.v (.str x')]/\gd (aU (fH jx x').length 200) (gd (fits ((fH jx x').map FD.v).length) (OQ 396 (cg fs) x z n [] ((fH jx x').map FD.v) [.lst ae (iU uy)] (j0 WI 1287 3 0 ae Q X) (λC z9 z9=>X C)))))
theorem ON(fs:List FD)(x:ao)(z n:Int):aN pg (bM lF) 2 ae 1287 [.v (cg fs),.v (.str x),.v (.int z),.v (.int n)] Q X=gd (bO x&&bO "ret") (br (ag x "ret") (SK fs x z Q) (br (decide (n=0)) (SK fs x z Q) (Wz fs x z n Q X))):=by kernel_rfl
theorem iw(x:ao)(l:List ao):(iU l).any (dj x)=dK x l:=uh x l
theorem Bk{fs:List FD}{x:ao}{z:Int}(c:bO x=ac)(h:Q [] (.v (.bool (decide (z=64)&&(dK x zZ&&jU fs x))))):SK fs x z Q:=by unfold SK;induction a:decide (z=64)with
 |false=>replace h:=a▸h;exact h|true=>replace h:=a▸h;refine aB (by refine c.symm▸rfl) ?_;rw[iw];induction b:dK x zZ with
  |false=>replace h:=b▸h;exact h|true=>replace h:=b▸h;exact cM fs x ⟨rfl,h⟩
theorem Vu(h:Ua lf args Q X):aN pg (bM lF) 2 lf 1287 args Q X:=by
 obtain⟨k,b,x,z,n,e,l⟩:=bK h;clear h;subst k;subst e;refine xG l λg h=>?_;unfold oq at g;simp only[af]at g;refine fi g λd c o=>?_;rw[ON];unfold IC at h;refine aB (by refine d.symm▸rfl) ?_;have R:Q [] (.v (.bool (!dK x uy&&(fH b x).any (Kl z))))->Wz b x z n Q X:=λh=>by refine aB (by refine d.symm▸rfl) ?_;rw[iw];induction a:dK x uy with
  |true=>replace h:=a▸h;exact h|false=>
   replace h:=a▸h;have c:=aj c;refine cM b x ⟨rfl,aB (aV c) (aB (fits_of (by rw[az];exact nT ‹_› rfl)) ?_)⟩;obtain⟨m,p⟩:∃m,396=m+(fH b x).length+25:=⟨396-(fH b x).length-25,by exact nQ c rfl⟩;refine p.symm▸x0 _ _ _ _ o (.inl rfl) (λe f j=>?_) λe f j=>?_;·replace h:=e▸h;exact h
   ·replace h:=e▸h;exact h
 induction i:ag x "ret"with
 |true=>replace h:=i▸h;exact Bk d h|false=>replace h:=i▸h;induction a:decide (n=0)with
  |true=>replace h:=a▸h;exact Bk d h|false=>replace h:=a▸h;exact R h
theorem OO(a:bo pg K w):bq K w (Sm Seg) 1287 Ua 8:=(QF a).fn a ci 2 (by decide) λz9 z9 z9 z9=>Vu
end
def OP.xm:OP->Bool
 |.ce r=>ag r.kd "xmm"|_=>ae
def OP.ok:OP->Bool
 |.ce r=>bO r.kd|_=>ac
def WK:aS:=λlf args Q z9=>gd (!lf) (∃a b:OP,args=[.v (.lst [a.v,b.v])]/\gd (a.ok&&b.ok) (Q [] (.v (.bool (a.xm||b.xm)))))
def Oo(p:OP×OP):Go:=aN pg nt 2 ae 1191 [.v (.lst [p.1.v,p.2.v])]
def Tu:OP->(Bool->Prop)->Prop
 |.ce r,K=>gd (bO r.kd&&bO "xmm") (K (ag r.kd "xmm"))|_,K=>K ae
def On(p:OP×OP):Go:=λQ X=>Tu p.1 λx=>Tu p.2 λy=>Q [] (.v (.bool (x||(y||ae))))
noncomputable def pE(r:RG)(w:Int)(nm:ao)(b i:Option RG)(s z:Int)(a:ao):List OP:=[.ce r,.d6 w nm,.rel w nm,.mem b i s w z a nm]
theorem Om(r r':RG)(w h s g z j:Int)(nm c a d:ao)(b i e f:Option RG):((pE r w nm b i s z a).flatMap λx=>(pE r' h c e f g j d).map λy=>Oo (x,y))=((pE r w nm b i s z a).flatMap λx=>(pE r' h c e f g j d).map λy=>On (x,y)):=by kernel_rfl
theorem fF{C:Prop}(o:OP)(k:∀r w nm b i s z a,o∈pE r w nm b i s z a->C):C:=by have c:RG:=⟨"","",0,0⟩;induction o with
 |ce r=>exact k r 0 "" ak ak 0 0 "" (.head _)|d6 w nm=>exact k c w nm ak ak 0 0 "" (.tail _ (.head _))|rel w nm=>exact k c w nm ak ak 0 0 "" (.tail _ (.tail _ (.head _)))|mem b i s w z a nm=>exact k c w nm b i s z a (.tail _ (.tail _ (.tail _ (.head _))))
theorem jy{d β k:Type}{l:List d}{m:List β}{f g:d->β->k}(h:(l.flatMap λx=>m.map λy=>f x y)=l.flatMap λx=>m.map λy=>g x y):∀x∈l,∀y∈m,f x y=g x y:=by induction l with
 |nil=>exactλz9 h=>nomatch h|cons a l j=>
  rw[List.flatMap_cons,List.flatMap_cons]at h;refine bB (List.append_inj h (by rw[az,az])) λe i=>?_;intro x b y c;clear h;rcases aD.mp b with rfl|b;·exact aH.mp e y c
  ·exact j i x b y c
section
variable{K:bt}{w:aJ}{Seg:V->List V->Prop}{lf:Bool}{args:List Arg}{Q:Cs->b0->Prop}{X:aq->Prop}
theorem AV{o:OP}{A:Bool->Prop}(h:o.ok=ac)(a:A o.xm):Tu o A:=by induction o with
 |ce r=>exact aB (by refine(show bO r.kd=ac from h).symm▸rfl) a|_=>exact a
theorem Vr(h:WK lf args Q X):aN pg nt 2 lf 1191 args Q X:=by refine bB (bK h) λm k=>c8 k λa b e n=>?_;clear h;subst m;clear k;subst e;refine xK λD f=>xG n λd h=>?_;rw[af]at d;refine fF a λr w t l i s z A o=>fF b λr' B g c q u C j p=>?_;have v:=congrFun (congrFun (jy (f:=λx y=>Oo (x,y)) (g:=λx y=>On (x,y)) (Om r r' w B s u z C t g A j l i c q) a o b p) Q) X;refine f (bA v (AV d.1 (AV d.2 (by rw[Bool.or_false];exact h))))
noncomputable def lW:List (aq×aS):=[(687,FV),(1287,Ua),(649,FX),(1179,Cc),(1275,Ub),(1282,T9),(1191,WK)]
theorem Qq(a:bo pg K w):iE K w (Sm Seg) 8 lW:=.cons ((bq.run a 2 (a8 4) λz9 z9 z9 z9=>Ek).up (by decide)) (.cons (OO a) (.cons (Ef a) (.cons ((BH a).up (by decide)) (.cons ((Qa a).up (by decide)) (.cons (Ox a) (.cons ((bq.run a 2 (a8 4) λz9 z9 z9 z9=>Vr).up (by decide)) .nil))))))
abbrev kW(x:ao):ao:=a6 x (aa (-1)) ak
abbrev km(x:ao):ao:=a6 x ak (aa (-1))
def r3(Q:Cs->b0->Prop)(p:W3):Prop:=Q [] (.v (uC p))
def t5(fs:List FD)(x:ao)(ops:List V)(Q:Cs->b0->Prop):Prop:=gd (fits x.length) (br (decide (0<ef (kW x))) (gd (fits x.length) (gd (nz (km x)) (∃jx x' z' n',[Arg.v (cg fs),.v (.str (gb (km x))),.v (.int (ef (kW x))),.v (.int ops.length)]=[.v (cg jx),.v (.str x'),.v (.int z'),.v (.int n')]/\gd (oq jx x') (br (IC jx x' z' n') (r3 Q (gb (km x),ef (kW x),0)) (r3 Q w0))))) (r3 Q w0))
def t4(fs:List FD)(x:ao)(ops:List V)(Q:Cs->b0->Prop):Prop:=gd (nz x) (∃jx x',[Arg.v (cg fs),.v (.str (gb x))]=[.v (cg jx),.v (.str x')]/\br (jU jx x') (r3 Q (gb x,0,0)) (t5 fs x ops Q))
def t3(fs:List FD)(x:ao)(ops:List V)(Q:Cs->b0->Prop):Prop:=match a7 ops.length 2with
 |ac=>gd (SD x) (gd (bO (AZ x).1&&bO "") (br (!ag (AZ x).1 "") (r3 Q (AZ x)) (t4 fs x ops Q)))|ae=>t4 fs x ops Q
def SO(fs:List FD)(x:ao)(ops:List V)(Q:Cs->b0->Prop):Prop:=match ops with
 |[]=>t3 fs x ops Q|_=>r3 Q ("mov",64,0)
def t2(fs:List FD)(x:ao)(ops:List V)(Q:Cs->b0->Prop):Prop:=gd (bO x&&bO "movabs") (br (ag x "movabs") (SO fs x ops Q) (gd (bO x&&bO "movabsq") (br (ag x "movabsq") (SO fs x ops Q) (gd (bO x&&bO "movq") (br (ag x "movq") (∃a b:OP,[Arg.v (.lst ops)]=[.v (.lst [a.v,b.v])]/\gd (a.ok&&b.ok) (br (!(a.xm||b.xm)) (SO fs x ops Q) (t3 fs x ops Q))) (t3 fs x ops Q))))))
def t1(fs:List FD)(x:ao)(ops:List V)(Q:Cs->b0->Prop):Prop:=match ops with
 |[]=>gd (Oa x) (gd (bO (ET x)&&bO "") (br (!ag (ET x) "") (gd (Oa x) (r3 Q (ET x,0,0))) (t2 fs x ops Q)))|_=>t2 fs x ops Q
noncomputable def TB(a b c:V):List (List V):=[[],[a],[a,b],[a,b,c]]
theorem Fu(fs:List FD)(x:ao)(a b c:V):((TB a b c).map λd=>aN pg (bM lW) 2 ae 1294 [.v (cg fs),.v (.str x),.v (.lst d)] Q X)=(TB a b c).map λd=>t1 fs x d Q:=by kernel_rfl
def yR(x:ao)(n:Nat)(xm:Bool):Bool:=!a7 n 0&&(ag x "movabs"||(ag x "movabsq"||(ag x "movq"&&!xm)))
def me(fs:List FD)(x:ao)(n:Nat)(xm:Bool):W3:=cd (a7 n 0&&!ag (ET x) "") (ET x,0,0) (cd (yR x n xm) ("mov",64,0) (cd (a7 n 2&&!ag (AZ x).1 "") (AZ x) (cd (jU fs (gb x)) (gb x,0,0) (cd (decide (0<ef (kW x))&&IC fs (gb (km x)) (ef (kW x)) n) (gb (km x),ef (kW x),0) w0))))
def x6(fs:List FD)(x:ao)(n:Nat):Bool:=aU n 3&&(bO x&&(Oa x&&(bO (ET x)&&(SD x&&(bO (AZ x).1&&(nz x&&(nz (km x)&&(oq fs (gb (km x))&&(!ag x "movq"||a7 n 2)))))))))
def bh(ops:List OP):List V:=ops.map OP.v
def Cb:aS:=λlf args Q z9=>gd (!lf) (∃fs x ops,args=[.v (cg fs),.v (.str x),.v (.lst (bh ops))]/\gd (x6 fs x ops.length&&ops.all OP.ok) (Q [] (.v (uC (me fs x ops.length (ops.any OP.xm))))))
section
variable{fs:List FD}{x:ao}{ops:List V}
theorem O0(d:x.length<=1000)(b:nz (km x)=ac)(c:oq fs (gb (km x))=ac)(h:r3 Q (cd (decide (0<ef (kW x))&&IC fs (gb (km x)) (ef (kW x)) ops.length) (gb (km x),ef (kW x),0) w0)):t5 fs x ops Q:=by have f:=fits_of (n:=x.length) (nT ‹_› rfl);refine aB f ?_;induction e:decide (0<ef (kW x))with
 |false=>replace h:=e▸h;exact h|true=>replace h:=e▸h;refine aB f (aB b (mS fs _ _ _ ⟨rfl,aB c ?_⟩));induction a:IC fs (gb (km x)) (ef (kW x)) ops.length with
  |false=>replace h:=a▸h;exact h|true=>replace h:=a▸h;exact h
theorem O1(b:x.length<=1000)(d:nz x=ac)(a:nz (km x)=ac)(c:oq fs (gb (km x))=ac)(h:r3 Q (cd (jU fs (gb x)) (gb x,0,0) (cd (decide (0<ef (kW x))&&IC fs (gb (km x)) (ef (kW x)) ops.length) (gb (km x),ef (kW x),0) w0))):t4 fs x ops Q:=by refine aB d (cM fs _ ⟨rfl,?_⟩);induction e:jU fs (gb x)with
 |true=>rw[e]at h;exact h|false=>rw[e]at h;exact O0 b a c h
def WA(fs:List FD)(x:ao)(n:Nat):ao×Int×Int:=cd (jU fs (gb x)) (gb x,0,0) (cd (decide (0<ef (kW x))&&IC fs (gb (km x)) (ef (kW x)) n) (gb (km x),ef (kW x),0) w0)
def TW(fs:List FD)(x:ao)(n:Nat):ao×Int×Int:=cd (a7 n 2&&!ag (AZ x).1 "") (AZ x) (WA fs x n)
theorem Ng(h:Cb lf args Q X):aN pg (bM lW) 2 lf 1294 args Q X:=by
 obtain⟨J,fs,x,ops,e,s⟩:=bK h;clear h;subst J;subst e;refine xG s λC h=>?_;unfold x6 at C;simp only[af]at C;obtain⟨⟨m,E,j,D,z,y,t,u,v,k⟩,l⟩:=C;have m:=aj m;have I:x.length<=1000:=by unfold Oa at j;simp only[af]at j;exact aj j.1.1.1.1
 have f:∃a b c,bh ops∈TB a b c:=by revert m;clear s m;induction ops using ai with
  |nil=>exactλz9=>(dB .none .none .none (.head _))|cons a ops=>induction ops using ai with
   |nil=>exactλz9=>(dB a.v .none .none (.tail _ (.head _)))|cons b ops=>induction ops using ai with
    |nil=>exactλz9=>(dB a.v b.v .none (.tail _ (.tail _ (.head _))))|cons c ops=>induction ops using ai with
     |nil=>exactλz9=>(dB a.v b.v c.v (.tail _ (.tail _ (.tail _ (.head _)))))|cons d ops=>exactλh=>absurd (show ops.length+4<=3from h) (by lia)
 obtain⟨a,b,c,f⟩:=f;refine bA (aH.mp (Fu fs x a b c) _ f) ?_;have g:(bh ops).length=ops.length:=az ..;unfold me at h;have q:r3 Q (WA fs x ops.length)->t4 fs x (bh ops) Q:=λh=>O1 I t u v (by refine g.symm▸h);have A:r3 Q (TW fs x ops.length)->t3 fs x (bh ops) Q:=λh=>by delta TW at h;unfold t3;refine g.symm▸?_;induction e:a7 ops.length 2with
  |false=>replace h:=e▸h;exact q h|true=>replace h:=e▸h;refine aB z (aB (by refine y.symm▸rfl) ?_);induction n:ag (AZ x).1 ""with
   |true=>replace h:=n▸h;exact q h|false=>replace h:=n▸h;exact h
 have F:r3 Q (cd (yR x ops.length (ops.any OP.xm)) ("mov",64,0) (TW fs x ops.length))->t2 fs x (bh ops) Q:=λh=>by
  have M:(ag x "movabs"||(ag x "movabsq"||(ag x "movq"&&!ops.any OP.xm)))=ac->SO fs x (bh ops) Q:=λe=>by unfold yR at h;rw[e]at h;clear s m f g q;induction ops using ai with
   |nil=>exact A h|cons a ops=>exact h
  have N:(ag x "movabs"||(ag x "movabsq"||(ag x "movq"&&!ops.any OP.xm)))=ae->t3 fs x (bh ops) Q:=λe=>by unfold yR at h;rw[e,bY]at h;exact A h
  refine aB (by refine E.symm▸rfl) ?_;clear s z y t u v m I f g q A;cases r:ag x "movabs"with
  |true=>exact M (by refine r.symm▸rfl)|false=>refine aB (by refine E.symm▸rfl) ?_;cases n:ag x "movabsq"with
   |true=>exact M (by refine r.symm▸n.symm▸rfl)|false=>refine aB (by refine E.symm▸rfl) ?_;cases B:ag x "movq"with
    |false=>exact N (by refine r.symm▸n.symm▸B.symm▸rfl)|true=>
     replace k:=B▸k;have i:a7 ops.length 2=ac:=k;have i:=a9 i;obtain⟨o,p,rfl⟩:∃o p,ops=[o,p]:=by induction ops using ai with
      |nil=>(first|exact bn i|exact cy i|exact us i|exact mX i|exact absurd i (by decide)|cases i)|cons o ops=>induction ops using ai with
       |nil=>(first|exact bn i|exact cy i|exact us i|exact mX i|exact absurd i (by decide)|cases i)|cons p ops=>induction ops using ai with
        |nil=>exact cM o p rfl|cons=>exact absurd (show _+3=2from i) (by lia)
     have L:(o.ok&&p.ok)=ac:=by have l:(o.ok&&(p.ok&&ac))=ac:=l;rwa[Bool.and_true]at l
     refine cM o p ⟨rfl,aB L ?_⟩;have H:[o,p].any OP.xm=(o.xm||p.xm):=by show(o.xm||(p.xm||ae))=_;rw[Bool.or_false]
     induction G:o.xm||p.xm with
     |true=>exact N (by refine r.symm▸n.symm▸B.symm▸H.symm▸G.symm▸rfl)|false=>exact M (by refine r.symm▸n.symm▸B.symm▸H.symm▸G.symm▸rfl)
 have h:r3 Q (cd (a7 ops.length 0&&!ag (ET x) "") _ _):=h;clear s l k m f g q A;clear m;induction ops using ai with
 |nil=>refine aB j (aB (by refine D.symm▸rfl) ?_);induction e:ag (ET x) ""with
  |true=>replace h:=e▸h;exact F h|false=>replace h:=e▸h;exact aB j h
 |cons o ops=>exact F h
theorem Fv(a:bo pg K w):bq K w (Sm Seg) 1294 Cb 12:=(Qq a).fn a ci 2 (by decide) λz9 z9 z9 z9=>Ng
end
end
def yL:List Arg->Option (List Arg×List V)
 |[]=>ak|a::as=>match a with
  |.v v=>(yL as).map λp=>(.v v::p.1,p.2)|.c c=>match c with
   |.lst b l=>cd (b&&as.all λa=>match a with
    |.v _=>ac|_=>ae) (aa (.v (.lst l)::as,l)) ak|_=>ak
def VH(l:List V)(Q:Cs->b0->Prop):Cs->b0->Prop:=λouts r=>match outs with
 |[]=>(match r with
  |.v v=>gd (flat v) (Q [.lst ac l] (.v v))|_=>False)|_::_=>False
def bor(c:aS):aS:=λlf args Q X=>wp (yL args) λp=>c lf p.1 (VH p.2 Q) X
section
variable{K:bt}{w:aJ}{Sm:V->Cell->Prop}
theorem Ha{g g':Gh}{v:V}{x:al}(h:flat v=ac)(t:TR w g v x):TR w g' v x:=by induction v using V.casesOn<;>first|exact t|exact cy h
theorem Ey{g:Gh}{args:List Arg}{xs:List al}{b:Cs}{c:List CA}(a:fR w g args xs b c)(h:(args.all λa=>match a with
  |.v _=>ac|_=>ae)=ac):b=[]/\c=[]:=by induction a with
 |nil=>exact⟨rfl,rfl⟩|v _ _ d=>exact d h|c _ _=>exact cy h
theorem vQ{g g':Gh}(F:jJ g g'){args:List Arg}{xs:List al}{d:Cs}{i:List CA}(a:fR w g args xs d i):∀{p:List Arg×List V},yL args=aa p->∃q,d=[.lst ac p.2]/\i=[q]/\(TR w g' (.lst p.2) (.ref q.1)->fR w g' p.1 xs [] []):=by induction a with
  |nil=>intro p h;exact bn h|@v v x args xs n y t _ m=>intro p h;(refine aE (aM.mp (show(yL args).map (λp=>(Arg.v v::p.1,p.2))=aa p from h)) λB s A=>?_;subst A);refine cz (m s) λq o r k=>⟨q,o,r,λz=>.v (TR.mono F _ _ t) (k z)⟩|@c c q args xs n y a m=>intro p h;induction c with
    |lst b l=>
      have f:cd (b&&args.all _) (aa (Arg.v (.lst l)::args,l)) ak=aa p:=h;clear h;refine xB (b&&args.all λa=>match a with
        |.v _=>ac|_=>ae) (λe=>?_) λe=>?_;·replace f:=e▸f;exact bn f
      · replace f:=e▸f;rw[af]at e;have u:=e.1;subst u;injection f with f;subst f;have z:=Ey a e.2;rw[z.1,z.2]at a;refine⟨q,by rw[z.1],by rw[z.2],λt=>.v t ?_⟩;have j:∀{args:List Arg}{xs:List al}{d:Cs}{i:List CA},fR w g args xs d i->d=[]->fR w g' args xs d i:=by intro args xs d i a;induction a with
          |nil=>exactλz9=>.nil|v t _ m=>exactλe=>.v (TR.mono F _ _ t) (m e)|c _ _=>exactλe=>nomatch e
        exact j a rfl|_=>exact bn h
theorem bq.bor{f:aq}{c:aS}{d:Nat}(h:bq K w Sm f c d):bq K w Sm f (bor c) d:=by intro B y q hd lf f' args xs N ca g A s Q X R⟨e,z⟩hf hh P W U T S u hC H ht hV hF hX;subst e;refine xW z λp hp z=>cz (vQ (g':=g) (λz9 z9 e z9=>e) u hp) λj ec eq z1=>?_;subst ec;clear hF;subst eq;have cell:=hC.2 0 _ j rfl rfl;obtain⟨tg,ls⟩:g j.1=aa (.cell 0 ae)/\Ic w s.heap g p.2 j.1:=cell;induction ls with|mk J n ho hr=>
  have Y:∀a t,g a=aa t->rW t=ac->a≠j.1:=λa t e f z=>by rw[z,tg]at e;(injection e with e;subst e);exact cy f
  have I:jJ g (upd g j.1 (.fz (eo J n))):=λa t e f=>(cX (Y a t e f)).trans e;refine cz (vQ I u hp) λq1 L E ar=>?_;injection E with E _;subst E;have H1:HS K B y (upd g j.1 (.fz (eo J n))) s:=⟨H.rest,H.K,λa t e=>by
    by_cases u:a=j.1;·subst u;rw[bv]at e;(injection e with e;subst e);exact⟨ho,(H.tag _ _ tg).2⟩
    ·rw[cX u]at e;exact H.tag a t e,λa k e=>(cX λz=>by rw[z]at e;have :=H.kp _ _ e;rw[tg]at this;exact nomatch this).trans (H.kp a k e)⟩;have O:Ig hd (upd g j.1 (.fz (eo J n))):=λv e=>by refine ej (T v e) λa l c=>cM a l (c.mono I)
  refine h B y q hd lf f' p.1 xs [] [] _ A s _ X R ⟨rfl,z⟩ hf hh P W U O S (ar ⟨j.1,J,n,rfl,bv,eA.mono I _ _ hr⟩) ⟨rfl,λi c p e=>bn e⟩ H1 ht (λo v g' M x F m G C' t=>?_) (λo b l g' M D xs n F m G C'=>?_) λC g' M e hx m G fl=>hX C g' M e hx m (λa t e f=>G a t (I a t e f) f) fl;·induction o using ai with
    |cons=>exact F.elim|nil=>
      refine xG (show gd _ _ from F) λfv F=>?_;have r:=G _ _ bv (show rW (.fz (eo J n))=ac from rfl);have Z:∀a k,g' a=aa (.kp k)->a≠j.1:=λa k e z=>by rw[z,r]at e;exact nomatch e
      refine hV _ v (upd g' j.1 (.cell 0 ae)) M x F ⟨m.rest,m.K,λa t e=>?_,λa k e=>(cX (Z a k (m.kp a k e))).trans (m.kp a k e)⟩ (λa t e f=>(cX (Y a t e f)).trans (G a t (I a t e f) f)) ⟨rfl,λi c p L E=>?_⟩ (Ha fv t)
      · by_cases u:a=j.1;·subst u;rw[bv]at e;(injection e with e;subst e);exact⟨⟨_,(m.tag _ _ r).1⟩,(m.tag _ _ r).2⟩
        ·rw[cX u]at e;exact m.tag a t e
      ·induction i using bN with
        |succ i=>exact bn L|zero=>(injection L with L;subst L);(injection E with E;subst E);refine⟨bv,J,n,(m.tag _ _ r).1,eA.mono (λa t e f=>(cX (Y a t e f)).trans (G a t (I a t e f) f)) _ _ hr⟩
  ·induction o using ai with
    |cons=>exact F.elim|nil=>exact F.elim
end
noncomputable def dC:List ao:=["rol","ror","rcl","rcr","shl","shr","sar","shld","shrd"]
def lX:OP->Bool
 |.ce r=>dK r.kd ["gpr","high"]|_=>ae
def dN{α:Type}(nm:ao)(l:List α):List α:=cd (dK nm dC&&aU 2 l.length) l.dropLast l
def K2:aS:=λlf args Q z9=>gd (!lf) (∃o:OP,args=[.v o.v]/\gd o.ok (Q [] (.v (.bool (lX o)))))
def KV:aS:=λlf args Q z9=>gd (!lf) (∃nm vs,args=[.v (.str nm),.v (.lst vs)]/\gd (bO nm&&aU vs.length 3) (Q [] (.v (.lst (dN nm vs)))))
def Ra(o:OP):Go:=aN pg nt 2 ae 1186 [.v o.v]
def U5(o:OP):Go:=λQ X=>match o with
 |.ce r=>gd (bO r.kd&&(iU ["gpr","high"]).all wP) (Q [] (.v (.bool ((iU ["gpr","high"]).any (dj r.kd)))))|_=>Q [] (.v (.bool ae))
section
variable{K:bt}{w:aJ}{Seg:V->List V->Prop}{lf:Bool}{args:List Arg}{Q:Cs->b0->Prop}{X:aq->Prop}
theorem MM(r:RG)(w:Int)(nm:ao)(b i:Option RG)(s z:Int)(a:ao):(pE r w nm b i s z a).map Ra=(pE r w nm b i s z a).map U5:=by kernel_rfl
theorem JO(h:K2 lf args Q X):aN pg nt 2 lf 1186 args Q X:=by obtain⟨d,o,e,a⟩:=bK h;clear h;subst d;subst e;refine xG a λf h=>fF o λr w g b i s z j c=>bA (congrFun (congrFun (aH.mp (MM r w g b i s z j) o c) Q) X) ?_;clear a c;induction o with
 |ce r=>refine aB (by refine(show bO r.kd=ac from f).symm▸rfl) ?_;rw[iw];exact h|_=>exact h
theorem KC(nm:ao)(a:List V):aN pg nt 2 ae 1308 [.v (.str nm),.v (.lst a)] Q X=gd (bO nm&&(iU dC).all wP) (br ((iU dC).any (dj nm)) (gd (fits a.length) (br (decide (1<(a.length:Int))) (gd (fits a.length) (Q [] (.v (.lst (ib a ak (aa (-1)) ak))))) (Q [] (.v (.lst a))))) (Q [] (.v (.lst a)))):=by kernel_rfl
theorem PM(a b:V):ib [a,b] ak (aa (-1)) ak=[a]:=by kernel_rfl
theorem PL(a b c:V):ib [a,b,c] ak (aa (-1)) ak=[a,b]:=by kernel_rfl
theorem JM(h:KV lf args Q X):aN pg nt 2 lf 1308 args Q X:=by obtain⟨k,m,g,e,j⟩:=bK h;clear h;subst k;subst e;refine xG j λi h=>?_;rw[af]at i;have l:=aj i.2;have f:=fits_of (n:=g.length) (nT ‹_› rfl);unfold dN at h;rw[KC,iw];refine aB (by refine i.1.symm▸rfl) ?_;clear j i;cases e:dK m dC with
 |false=>replace h:=e▸h;exact h|true=>replace h:=e▸h;refine aB f ?_;clear f;induction g using ai with
  |nil=>exact h|cons a g=>induction g using ai with
   |nil=>exact h|cons b g=>induction g using ai with
    |nil=>rw[PM];exact h|cons c g=>induction g using ai with
     |nil=>rw[PL];exact h|cons d g=>exact absurd (show g.length+4<=3from l) (by lia)
noncomputable def S5:List (aq×aS):=[(1186,K2),(1308,KV)]
theorem Ml(a:bo pg K w):iE K w (Sm Seg) 4 S5:=.cons (bq.run a 2 (a8 4) λz9 z9 z9 z9=>JO) (.cons (bq.run a 2 (a8 4) λz9 z9 z9 z9=>JM) .nil)
end
abbrev spT:=aN pg (bM S5) 1
noncomputable def wG(x y z:V):List (List V×Int):=[([x],0),([x,y],0),([y,x],1),([x,y,z],0),([y,x,z],1),([y,z,x],2)]
def JK:aY×List dG:=Ay ((fnOf 1315).body[1]?.getD default)
noncomputable def JL(nm:ao)(ops:V)(z s:Int)(at':V)(row:List V)(e:Vs):Vs:=([("name",.str nm),("operands",ops),("size",.int z),("source",.int s),("at",at'),("row",.lst row)]:Vs)++e
abbrev JJ(m:Nat)(nm:ao)(ops:V)(z s:Int)(at':V)(row:List V)(e:Vs)(l:List V)(Q:Fl->Vs->Cs->Prop)(X:XS):Prop:=(wv pg spT m).For ⟨JL nm ops z s at' row e,(fnOf 1315).scope,ae⟩ JK.1 l JK.2 [] Q X
noncomputable def pd(j oW:Int):Vs:=[("place",.int j),("due",.int oW)]
section
variable(m:Nat)(nm:ao)(ops:V)(z s:Int)(C:aq)(fs:Vs)(l:List V)(Q:Fl->Vs->Cs->Prop)(X:XS)
def WZ(o:OP)(oW:Int)(R N:Prop):Prop:=match o with
 |.ce r=>br (!decide (r.sz=oW)) (gd (fits (("register ":ao).length+r.nm.length)) (gd (fits (("register "++r.nm:ao).length+(" against the suffix":ao).length)) R)) N|_=>False
def RE(o:OP)(row:List V)(j oW:Int):Prop:=br (decide (0<oW)) (∃o':OP,[Arg.v o.v]=[.v o'.v]/\gd o'.ok (br (lX o') (WZ o oW (X 87 (JL nm ops z s (.inst C fs) row (pd j oW)) [.dead .any]) (JJ (m+24) nm ops z s (.inst C fs) row (pd j oW) l Q X)) (JJ (m+24) nm ops z s (.inst C fs) row (pd j oW) l Q X))) (JJ (m+24) nm ops z s (.inst C fs) row (pd j oW) l Q X)
def Nd(o:OP)(row:List V)(j:Int):Prop:=br (decide (0<s)) (match decide (0<j)with
 |ac=>RE m nm ops z s C fs l Q X o row j s|ae=>RE m nm ops z s C fs l Q X o row j z) (RE m nm ops z s C fs l Q X o row j z)
def RD(row:List V)(j:Int)(e:Vs):Prop:=JJ (m+25) nm ops z s (.inst C fs) row e (.int j::l) Q X
def Vq(r:RG)(w:Int)(nn:ao)(b i:Option RG)(sc z':Int)(a:ao)(y y':V)(j' d':Int):List (OP×(List V×Int)×Vs):=(pE r w nn b i sc z' a).flatMap λo=>(wG o.v y y').flatMap λp=>[(o,p,[]),(o,p,pd j' d')]
theorem HC(r:RG)(w:Int)(d:ao)(b i:Option RG)(e g:Int)(a:ao)(y f:V)(j' c:Int):((Vq r w d b i e g a y f j' c).map λp=>RD m nm ops z s C fs l Q X p.2.1.1 p.2.1.2 p.2.2)=(Vq r w d b i e g a y f j' c).map λp=>Nd m nm ops z s C fs l Q X p.1 p.2.1.1 p.2.1.2:=by kernel_rfl
end
theorem uX(x:V):∀pre a:List V,pre.length+a.length<=2->∃y z,(pre++x::a,(pre.length:Int))∈wG x y z:=λpre a h=>by induction pre using ai with
 |nil=>induction a using ai with
  |nil=>exact cM .none .none (.head _)|cons y a=>induction a using ai with
   |nil=>exact cM y .none (.tail _ (.head _))|cons z a=>induction a using ai with
    |nil=>exact cM y z (.tail _ (.tail _ (.tail _ (.head _))))|cons=>exact absurd (show 0+(_+3)<=2from h) (by lia)
 |cons y pre=>induction pre using ai with
  |nil=>induction a using ai with
   |nil=>exact cM y .none (.tail _ (.tail _ (.head _)))|cons z a=>induction a using ai with
    |nil=>exact cM y z (.tail _ (.tail _ (.tail _ (.tail _ (.head _)))))|cons=>exact absurd (show 1+(_+2)<=2from h) (by lia)
  |cons z pre=>induction pre using ai with
   |nil=>induction a using ai with
    |nil=>exact cM y z (.tail _ (.tail _ (.tail _ (.tail _ (.tail _ (.head _))))))|cons=>exact absurd (show 2+(_+1)<=2from h) (by lia)
   |cons=>exact absurd (show _+3+_<=2from h) (by lia)
noncomputable def OP.sz:OP->Int
 |.ce r=>r.sz|_=>0
def OP.bR:OP->Bool
 |.ce r=>bO r.kd&&aU r.nm.length 100|_=>ac
theorem OP.qx{o:OP}(h:o.bR=ac):o.ok=ac:=by induction o with
 |ce r=>exact(bJ.mp h).1|_=>rfl
def nv(z s:Int)(j:Nat):Int:=cd (decide (0<s)&&decide (0<(j:Int))) s z
def gf(o:OP)(oW:Int):Bool:=decide (0<oW)&&(lX o&&!decide (o.sz=oW))
def r9(z s:Int):Nat->List OP->Bool
 |_,[]=>ae|j,o::r=>gf o (nv z s j)||r9 z s (j+1) r
noncomputable def uo:Nat->Nat->List V
 |_,0=>[]|i,k+1=>.int (i:Int)::uo (i+1) k
section
variable{nm:ao}{LI:V}{z s:Int}{C:aq}{fs:Vs}{Q:Fl->Vs->Cs->Prop}{X:XS}
theorem LW{o:OP}{a:Int}{R N:Prop}(f:o.bR=ac)(d:lX o=ac)(c:(!decide (o.sz=a))=ac->R)(b:(!decide (o.sz=a))=ae->N):WZ o a R N:=by induction o with
 |ce r=>have i:=aj (bJ.mp f).2;have g:("register ":ao).length=9:=rfl;have h:(" against the suffix":ao).length<=100:=aj rfl;show br (!decide (r.sz=a)) _ _;induction e:!decide (r.sz=a)with
  |true=>exact aB (fits_of (nL ‹_› rfl)) (aB (fits_of (by rw[str_len];lia)) (c e))|false=>exact b e
 |_=>exact cy d
theorem zl:∀(c pre:List OP)(m:Nat)(e:Vs),pre.length+c.length<=3->(pre++c).all OP.bR=ac->(e=[]\/∃j d,e=pd j d)->(r9 z s pre.length c=ac->∀env cs,X 87 env cs)->(r9 z s pre.length c=ae->∀env,Q .next env [])->JJ (m+c.length+25) nm LI z s (.inst C fs) (bh (pre++c)) e (uo pre.length c.length) Q X
 |[],pre,m,e,_,_,_,_,h=>h rfl _|o::c,pre,m,e,v,G,P,E,h=>by
  refine xK λS x=>?_;have v:pre.length+(c.length+1)<=3:=v;refine ej (uX o.v (bh pre) (bh c) (by unfold bh;rw[az,az];exact Nat.le_of_succ_le_succ ‹_›)) λy L H=>fF o λr w J b i K M a I=>?_;have O:∃j d,(o,((bh pre++o.v::bh c,((bh pre).length:Int)):List V×Int),e)∈Vq r w J b i K M a y L j d:=by
   rcases P with rfl|⟨j,d,rfl⟩;·exact cM 0 0 (aC.mpr ⟨o,I,aC.mpr ⟨_,H,.head _⟩⟩)
   ·exact cM j d (aC.mpr ⟨o,I,aC.mpr ⟨_,H,.tail _ (.head _)⟩⟩)
  refine ej O λj d R=>?_;have st:=aH.mp (HC (m+c.length+1) nm LI z s C fs (uo (pre.length+1) c.length) Q X r w J b i K M a y L j d) _ R;refine x ?_;have A:bh (pre++o::c)=bh pre++o.v::bh c:=by unfold bh;refine cN.symm▸rfl
  have N:((bh pre).length:Int)=(pre.length:Int):=by unfold bh;rw[az]
  show JJ (m+(c.length+1)+25) nm LI z s (.inst C fs) (bh (pre++o::c)) e (.int (pre.length:Int)::uo (pre.length+1) c.length) Q X;refine(show m+(c.length+1)+25=m+c.length+1+25from by exact rfl).symm▸A.symm▸?_;have st:RD (m+c.length+1) nm LI z s C fs (uo (pre.length+1) c.length) Q X (bh pre++o.v::bh c) ((bh pre).length:Int) e=Nd (m+c.length+1) nm LI z s C fs (uo (pre.length+1) c.length) Q X o (bh pre++o.v::bh c) ((bh pre).length:Int):=st;rw[N]at st;refine bA st ?_;have D:o.bR=ac:=am.mp G o (an _ (.head _));have next:(gf o (nv z s pre.length)=ae)->∀n,(n=[]\/∃j d,n=pd j d)->JJ (m+c.length+1+24) nm LI z s (.inst C fs) (bh pre++o.v::bh c) n (uo (pre.length+1) c.length) Q X:=λq n u=>by have :=zl c (pre++[o]) m n (by refine aw.symm▸?_;show pre.length+1+c.length<=3;exact nC v) (by rw[a0];exact G) u (λg=>E (by show(gf o (nv z s pre.length)||r9 z s (pre.length+1) c)=ac;(refine q.symm▸?_;rw[fL]);rw[aw]at g;exact g)) (λg=>h (by show(gf o (nv z s pre.length)||r9 z s (pre.length+1) c)=ae;(refine q.symm▸?_;rw[fL]);rw[aw]at g;exact g));rw[aw,a0]at this;refine(show m+c.length+1+24=m+c.length+25from by exact rfl).symm▸A▸this
  have B:∀f,nv z s pre.length=f->RE (m+c.length+1) nm LI z s C fs (uo (pre.length+1) c.length) Q X o (bh pre++o.v::bh c) (pre.length:Int) f:=λf F=>by have p:gf o f=ac->∀env cs,X 87 env cs:=λq=>E (by show(gf o (nv z s pre.length)||_)=ac;refine F.symm▸q.symm▸rfl);unfold gf at next p;replace next:=F▸next;unfold RE;induction k:decide (0<f)with
   |false=>exact next (by refine k.symm▸rfl) _ (.inr (cM _ _ rfl))|true=>refine⟨o,rfl,aB (OP.qx D) ?_⟩;induction l:lX o with
    |false=>exact next (by refine k.symm▸l.symm▸rfl) _ (.inr (cM _ _ rfl))|true=>exact LW D l (λt=>p (by refine k.symm▸l.symm▸t.symm▸rfl) _ _) λt=>next (by refine k.symm▸l.symm▸t.symm▸rfl) _ (.inr (cM _ _ rfl))
  unfold Nd;unfold nv at B;induction k:decide (0<s)with
  |false=>exact B z (by refine k.symm▸rfl)|true=>induction l:decide (0<(pre.length:Int))with
   |true=>exact B s (by refine k.symm▸l.symm▸rfl)|false=>exact B z (by refine k.symm▸l.symm▸rfl)
def iQ(nm:ao)(ops:List OP)(z s:Int):Bool:=r9 z s 0 (dN nm ops)
def K4:aS:=λlf args Q X=>gd (!lf) (∃nm ops z s C fs,args=[.v (.str nm),.v (.lst (bh ops)),.v (.int z),.v (.int s),.v (.inst C fs)]/\gd (bO nm&&(aU ops.length 3&&ops.all OP.bR)) (br (iQ nm ops z s) (X 87) (Q [] (.v .none))))
end
section
variable{K:bt}{w:aJ}{Seg:V->List V->Prop}{lf:Bool}{args:List Arg}{Q:Cs->b0->Prop}{X:aq->Prop}
theorem Nb(nm:ao)(c:List V)(z s:Int)(C:aq)(fs:Vs):aN pg (bM S5) 2 ae 1315 [.v (.str nm),.v (.lst c),.v (.int z),.v (.int s),.v (.inst C fs)] Q X=∃a b,[Arg.v (.str nm),.v (.lst c)]=[.v (.str a),.v (.lst b)]/\gd (bO a&&aU b.length 3) (gd (fits (dN a b).length) (gd (decide ((0:Int)<=0/\(0:Int)<=1000000/\(0:Int)<=(dN a b).length/\((dN a b).length:Int)<=1000000)) (JJ 397 nm (.lst c) z s (.inst C fs) (dN a b) [] ((cU (((dN a b).length:Int)-0).toNat).map λi=>V.int (0+iX i)) (j0 spT 1315 2 0 ae Q X) (λC z9 z9=>X C)))):=by kernel_rfl
theorem qj(nm:ao)(a:List OP):dN nm (bh a)=bh (dN nm a):=by delta dN bh;rw[az];induction dK nm dC&&aU 2 a.length with
 |true=>exact(List.map_dropLast ..).symm|false=>rfl
theorem plc_eq{n:Nat}(h:n<=3):((cU ((n:Int)-0).toNat).map λi=>V.int (0+iX i))=uo 0 n:=by
 rcases n with _|_|_|_|n;·rfl
 ·rfl
 ·rfl
 ·rfl
 ·lia
theorem x8(nm:ao)(a:List OP):(dN nm a).length<=a.length:=by unfold dN;induction dK nm dC&&aU 2 a.length with
 |true=>refine(show cd ac a.dropLast a=a.dropLast from rfl).symm▸List.length_dropLast.symm▸?_;omega|false=>exact a8 _
theorem uL{nm:ao}{a:List OP}(h:a.all OP.bR=ac):(dN nm a).all OP.bR=ac:=by unfold dN;induction dK nm dC&&aU 2 a.length with
 |true=>exact am.mpr λo b=>am.mp h o (List.dropLast_subset _ b)|false=>exact h
theorem RW(h:K4 lf args Q X):aN pg (bM S5) 2 lf 1315 args Q X:=by
 obtain⟨i,b,a,z,s,C,p,e,j⟩:=bK h;clear h;subst i;subst e;refine xG j λg h=>?_;simp only[af]at g;refine fi g λn f k=>?_;have f:=aj f;have q:=x8 b a;rw[Nb];have c:(dN b (bh a)).length=(dN b a).length:=by rw[qj];exact az ..
 refine cM b (bh a) ⟨rfl,aB (by refine n.symm▸(show(bh a).length=a.length from az ..).symm▸aV f) (aB (fits_of (by refine c.symm▸?_;lia)) (aB (decide_eq_true (by refine c.symm▸?_;lia)) ?_))⟩;(refine c.symm▸?_;rw[plc_eq (bC ‹_› ‹_›),qj]);obtain⟨m,l⟩:∃m,397=m+(dN b a).length+25:=⟨397-(dN b a).length-25,by lia⟩;refine l.symm▸?_;unfold iQ at h;refine zl (dN b a) [] m [] (by show 0+_<=3;lia) (uL k) (.inl rfl) (λe d o=>?_) λe d=>?_;·rw[show r9 z s 0 (dN b a)=ac from e]at h;exact h
 ·replace h:=(show r9 z s 0 (dN b a)=ae from e)▸h;exact h
theorem Nc(a:bo pg K w):bq K w (Sm Seg) 1315 K4 8:=(Ml a).fn a ci 2 (by decide) λz9 z9 z9 z9=>RW
end
noncomputable def Ah(b i:Option RG)(s w:Int)(a nm:ao):OP:=.mem b i s w 0 a nm
inductive NU:List FD->ao->List OP->Int->Int->Prop|set{d b i s w a nm}(h:d∈r7):NU (gC d) ("set"++d) [Ah b i s w a nm] 0 8|vr{k b i s w a nm n m}(h:k∈Bc):NU oQ k.nm [.ce ⟨n,"xmm",m,128⟩,Ah b i s w a nm] 1 k.size|vm{k b i s w a nm n m}(h:k∈Bc):NU oQ k.nm [Ah b i s w a nm,.ce ⟨n,"xmm",m,128⟩] 0 k.size
structure Ts where
 fs:List FD
 nm:ao
 ops:List OP
 j:Int
 v:Int
def Ur(b i:Option RG)(s w:Int)(a nm n:ao)(m:Int):List Ts:=r7.map (λd=>⟨gC d,"set"++d,[Ah b i s w a nm],0,8⟩)++(Bc.map (λk=>⟨oQ,k.nm,[.ce ⟨n,"xmm",m,128⟩,Ah b i s w a nm],1,k.size⟩)++Bc.map λk=>⟨oQ,k.nm,[Ah b i s w a nm,.ce ⟨n,"xmm",m,128⟩],0,k.size⟩)
def Ut(e:Ts):Go:=aN pg nt 7 ae 1329 [.v (cg e.fs),.v (.str e.nm),.v (.lst (bh e.ops)),.v (.int e.j)]
def Us(e:Ts):Go:=λQ X=>Q [] (.v (.int e.v))
theorem PV(b i:Option RG)(s w:Int)(a nm n:ao)(m:Int):(Ur b i s w a nm n m).map Ut=(Ur b i s w a nm n m).map Us:=by kernel_rfl
def WM:aS:=λlf args Q z9=>gd (!lf) (∃fs nm ops j v,args=[.v (cg fs),.v (.str nm),.v (.lst (bh ops)),.v (.int j)]/\NU fs nm ops j v/\Q [] (.v (.int v)))
section
variable{K:bt}{w:aJ}{Seg:V->List V->Prop}{lf:Bool}{args:List Arg}{Q:Cs->b0->Prop}{X:aq->Prop}
theorem Vw(h:WM lf args Q X):aN pg nt 7 lf 1329 args Q X:=by
 refine bB (bK h) λo l=>Im l λp t g j v e r q=>?_;clear h;subst o;clear l;subst e;have f:∃b i s w a c n m,(⟨p,t,g,j,v⟩:Ts)∈Ur b i s w a c n m:=by induction r with
  |@set d b i s w a c h=>exact⟨b,i,s,w,a,c,"",0,av _ (aG.mpr ⟨d,h,rfl⟩)⟩|@vr k b i s w a c n m h=>exact⟨b,i,s,w,a,c,n,m,an _ (av _ (aG.mpr ⟨k,h,rfl⟩))⟩|@vm k b i s w a c n m h=>exact⟨b,i,s,w,a,c,n,m,an _ (an _ (aG.mpr ⟨k,h,rfl⟩))⟩
 obtain⟨b,i,s,w,a,c,n,m,f⟩:=f;exact bA (congrFun (congrFun (aH.mp (PV b i s w a c n m) _ f) Q) X) q
end
noncomputable def lM:List (aq×aS):=[(1186,K2),(1308,KV),(1329,WM)]
abbrev SQ:=aN pg (bM lM) 1
noncomputable def Yu(v:dG):List dG:=by cases v with
 |If _ a _ _=>exact a|_=>exact[]
def Jd:aY×List dG:=Ay ((Yu ((fnOf 1336).body[2]?.getD default)).headD default)
noncomputable def yF(I:V)(nm:ao)(ops:V)(j z s:Int)(e:Vs):Vs:=([("iset",I),("name",.str nm),("operands",ops),("place",.int j),("size",.int z),("source",.int s)]:Vs)++e
def zE:Cs:=[.lst ae (iU uy)]
abbrev Qe(m:Nat)(I:V)(nm:ao)(ops:V)(j z s:Int)(e:Vs)(l:List V)(Q:Fl->Vs->Cs->Prop)(X:XS):Prop:=(wv pg SQ m).For ⟨yF I nm ops j z s e,(fnOf 1336).scope,ae⟩ Jd.1 l Jd.2 zE Q X
noncomputable def Jb(u:V):Vs:=[("operand",u)]
section
variable(m:Nat)(I:V)(nm:ao)(ops:V)(j z s:Int)(l:List V)(Q:Fl->Vs->Cs->Prop)(X:XS)
def Yk(o:OP):Prop:=match o with
 |.ce r=>Q (.ret (.int r.sz)) (yF I nm ops j z s (Jb o.v)) zE|_=>False
def Qf(o:OP):Prop:=∃o':OP,[Arg.v o.v]=[.v o'.v]/\gd o'.ok (br (lX o') (Yk I nm ops j z s Q o) (Qe (m+24) I nm ops j z s (Jb o.v) l Q X))
def Qg(o:OP)(e:Vs):Prop:=Qe (m+25) I nm ops j z s e (o.v::l) Q X
def UF(r:RG)(w:Int)(nn:ao)(b i:Option RG)(sc z':Int)(a:ao)(u:V):List (OP×Vs):=(pE r w nn b i sc z' a).flatMap λo=>[(o,[]),(o,Jb u)]
theorem Gn(r:RG)(w:Int)(c:ao)(b i:Option RG)(d e:Int)(a:ao)(u:V):((UF r w c b i d e a u).map λp=>Qg m I nm ops j z s l Q X p.1 p.2)=(UF r w c b i d e a u).map λp=>Qf m I nm ops j z s l Q X p.1:=by kernel_rfl
end
def fQ:List OP->Option Int
 |[]=>ak|o::r=>cd (lX o) (aa o.sz) (fQ r)
theorem yE{I:V}{nm:ao}{c:V}{j z s:Int}{Q:Fl->Vs->Cs->Prop}{X:XS}:∀(l:List OP)(m:Nat)(e:Vs),l.all OP.bR=ac->(e=[]\/∃u,e=Jb u)->(∀v,fQ l=aa v->∀env,Q (.ret (.int v)) env zE)->(fQ l=ak->∀e,(e=[]\/∃u,e=Jb u)->Q .next (yF I nm c j z s e) zE)->Qe (m+l.length+25) I nm c j z s e (bh l) Q X
 |[],m,e,_,g,_,h=>h rfl e g|o::l,m,e,k,g,f,d=>by
  rw[cn,af]at k;refine fF o λr w t b i x y a p=>?_;have A:∃u,(o,e)∈UF r w t b i x y a u:=by
   rcases g with rfl|⟨u,rfl⟩;·exact⟨.none,aC.mpr ⟨o,p,.head _⟩⟩
   ·exact⟨u,aC.mpr ⟨o,p,.tail _ (.head _)⟩⟩
  obtain⟨u,q⟩:=A;have st:Qg (m+l.length+1) I nm c j z s (bh l) Q X o e=Qf (m+l.length+1) I nm c j z s (bh l) Q X o:=aH.mp (Gn (m+l.length+1) I nm c j z s (bh l) Q X r w t b i x y a u) _ q;show Qe (m+(l.length+1)+25) I nm c j z s e (o.v::bh l) Q X;refine(show m+(l.length+1)+25=m+l.length+1+25from by exact rfl).symm▸bA st ⟨o,rfl,aB (OP.qx k.1) ?_⟩;have f:∀v,cd (lX o) (aa o.sz) (fQ l)=aa v->∀env,Q (.ret (.int v)) env zE:=f;have d:cd (lX o) (aa o.sz) (fQ l)=ak->_:=d;clear g p q st;induction n:lX o with
  |false=>rw[n]at f d;refine(show m+l.length+1+24=m+l.length+25from by exact rfl).symm▸yE l m _ k.2 (.inr ⟨_,rfl⟩) f d|true=>rw[n]at f;clear k d;clear d;induction o with
   |ce r=>exact f r.sz rfl _|_=>exact cy n
noncomputable def jm:List ao:=["push","pop","jmp","call"]
section
variable{K:bt}{w:aJ}{Seg:V->List V->Prop}{lf:Bool}{args:List Arg}{Q:Cs->b0->Prop}{X:aq->Prop}
def UN(sp:Spec)(f:aq)(n:Nat)(lf:Bool)(Kk:Fl->Vs->Cs->Prop)(X:aq->Prop):Fl->Vs->Cs->Prop:=λfl env cs=>match fl with
 |.next=>(wv pg sp n).Ss ⟨env,(fnOf f).scope,lf⟩ [] cs Kk (λC z9 z9=>X C)|fl=>Kk fl env cs
def UE(fs:List FD)(nm:ao)(vs:List V)(j:Int)(Q:Cs->b0->Prop):Prop:=gd (bO nm&&(iU jm).all wP) (br ((iU jm).any (dj nm)) (Q [] (.v (.int 64))) (∃jx vZ rc j' v,[Arg.v (cg fs),.v (.str nm),.v (.lst vs),.v (.int j)]=[.v (cg jx),.v (.str vZ),.v (.lst (bh rc)),.v (.int j')]/\NU jx vZ rc j' v/\Q [] (.v (.int v))))
theorem Gm(fs:List FD)(nm:ao)(a:List V)(j z s:Int)(u:V):([[],Jb u].map λe=>j0 SQ 1336 3 0 ae Q X .next (yF (cg fs) nm (.lst a) j z s e) zE)=[[],Jb u].map λe=>UE fs nm a j Q:=by kernel_rfl
theorem Qc(fs:List FD)(nm:ao)(c:List V)(j z s:Int):aN pg (bM lM) 2 ae 1336 [.v (cg fs),.v (.str nm),.v (.lst c),.v (.int j),.v (.int z),.v (.int s)] Q X=br (decide (0<s)) (Q [] (.v (.int s))) (br (decide (0<z)) (Q [] (.v (.int z))) (gd (bO nm&&(iU uy).all wP) (br (!(iU uy).any (dj nm)) (∃a b,[Arg.v (.str nm),.v (.lst c)]=[.v (.str a),.v (.lst b)]/\gd (bO a&&aU b.length 3) (gd (fits (dN a b).length) (Qe 394 (cg fs) nm (.lst c) j z s [] (dN a b) (UN SQ 1336 395 ae (j0 SQ 1336 3 0 ae Q X) X) (λC z9 z9=>X C)))) (UE fs nm c j Q)))):=by kernel_rfl
def rV(nm:ao)(ops:List OP)(z s:Int):Option Int:=cd (decide (0<s)) (aa s) (cd (decide (0<z)) (aa z) (match cd (dK nm uy) ak (fQ (dN nm ops))with
 |aa v=>aa v|ak=>cd (dK nm jm) (aa 64) ak))
def Gp(fs:List FD)(nm:ao)(ops:List OP)(j:Int)(o:Option Int)(A:Int->Prop):Prop:=match o with
 |aa v=>A v|ak=>∃v,NU fs nm ops j v/\A v
def Uc:aS:=λlf args Q z9=>gd (!lf) (∃fs nm ops j z s,args=[.v (cg fs),.v (.str nm),.v (.lst (bh ops)),.v (.int j),.v (.int z),.v (.int s)]/\gd (bO nm&&(aU ops.length 3&&ops.all OP.bR)) (Gp fs nm ops j (rV nm ops z s) λv=>Q [] (.v (.int v))))
theorem CP{fs:List FD}{nm:ao}{a:List OP}{j:Int}(b:bO nm=ac)(h:Gp fs nm a j (cd (dK nm jm) (aa 64) ak) λv=>Q [] (.v (.int v))):UE fs nm (bh a) j Q:=by refine aB (by refine b.symm▸rfl) ?_;rw[iw];induction e:dK nm jm with
 |true=>replace h:=e▸h;exact h|false=>replace h:=e▸h;refine aE h λv c h=>Il fs nm a j v ⟨rfl,c,h⟩
theorem Vy(h:Uc lf args Q X):aN pg (bM lM) 2 lf 1336 args Q X:=by obtain⟨n,d,b,a,j,z,s,e,t⟩:=bK h;clear h;subst n;subst e;refine xG t λl h=>?_;simp only[af]at l;refine fi l λc f y=>?_;have f:=aj f;have C:=x8 b a;rw[Qc,iw];unfold rV at h;induction g:decide (0<s)with
  |true=>replace h:=g▸h;exact h|false=>replace h:=g▸h;have h:Gp d b a j (cd (decide (0<z)) _ _) _:=h;induction i:decide (0<z)with
    |true=>replace h:=i▸h;exact h|false=>replace h:=i▸h;refine dO rfl (dO rfl (aB (by refine c.symm▸rfl) ?_));induction k:dK b uy with
      |true=>replace h:=k▸h;exact CP c h|false=>
        replace h:=k▸h;have o:(dN b (bh a)).length=(dN b a).length:=by rw[qj];exact az ..
        refine cM b (bh a) ⟨rfl,aB (by refine c.symm▸(show(bh a).length=a.length from az ..).symm▸aV f) (aB (fits_of (by refine o.symm▸?_;lia)) ?_)⟩;rw[qj];obtain⟨m,A⟩:∃m,394=m+(dN b a).length+25:=⟨394-(dN b a).length-25,by lia⟩;rw[A];have h:Gp d b a j (match fQ (dN b a)with
          |aa v=>aa v|ak=>cd (dK b jm) (aa 64) ak) λv=>Q [] (.v (.int v)):=h;refine yE _ _ _ (uL y) (.inl rfl) (λv r q=>?_) λp e x=>?_;·replace h:=r▸h;exact h
        · replace h:=p▸h;have T:=CP c h;have :∃u,e∈([[],Jb u]:List Vs):=by
            rcases x with rfl|⟨u,rfl⟩;·exact⟨.none,.head _⟩
            ·exact⟨u,.tail _ (.head _)⟩
          refine aQ this λu B=>bA (aH.mp (Gm (X:=X) (Q:=Q) d b (bh a) j z s u) e B) T
theorem Qz(a:bo pg K w):iE K w (Sm Seg) 14 lM:=.cons (bq.run a 2 (by decide) λz9 z9 z9 z9=>JO) (.cons (bq.run a 2 (by decide) λz9 z9 z9 z9=>JM) (.cons (bq.run a 7 (by decide) λz9 z9 z9 z9=>Vw) .nil))
theorem Qd(a:bo pg K w):bq K w (Sm Seg) 1336 Uc 18:=(Qz a).fn a ci 2 (by decide) λz9 z9 z9 z9=>Vy
end
def Cd:aS:=λlf args Q z9=>gd (!lf) (∃b i s w z a nm n,args=[.v (hM b i s w z a nm),.v (.int n)]/\Q [] (.v (hM b i s w n a nm)))
noncomputable def oL(r:RG):List (Option RG):=[ak,aa r]
def T0(s w z:Int)(a nm:ao)(n:Int)(p:Option RG×Option RG):Go:=aN pg nt 3 ae 1018 [.v (hM p.1 p.2 s w z a nm),.v (.int n)]
def TZ(s w:Int)(a nm:ao)(n:Int)(p:Option RG×Option RG):Go:=λQ X=>Q [] (.v (hM p.1 p.2 s w n a nm))
def oP(r r':RG):List (Option RG×Option RG):=(oL r).flatMap λb=>(oL r').map λi=>(b,i)
theorem O3(s w z:Int)(a nm:ao)(n:Int)(r r':RG):(oP r r').map (T0 s w z a nm n)=(oP r r').map (TZ s w a nm n):=by kernel_rfl
theorem CH(b i:Option RG):∃r r',(b,i)∈oP r r':=by
 have d:RG:=⟨"","",0,0⟩;have h:∀b:Option RG,∃r,b∈oL r:=λb=>by induction b with
  |none=>exact⟨d,.head _⟩|some r=>exact⟨r,.tail _ (.head _)⟩
 refine aQ (h b) λr a=>aQ (h i) λr' c=>cM r r' (aC.mpr ⟨b,a,aG.mpr ⟨i,c,rfl⟩⟩)
noncomputable def gJ:OP->Bool
 |.ce _=>ac|_=>ae
noncomputable def fe(v:OP):Bool:=by cases v with
 |d6 _ _=>exact ac|_=>exact ae
noncomputable def hP:OP->Bool
 |.mem _ _ _ _ _ _ _=>ac|_=>ae
noncomputable def turns:List ao:=["rol","ror","rcl","rcr","shl","shr","sar"]
noncomputable def v0:List ao:=["xchg","test"]
def mF(nm:ao):List OP->List OP
 |[]=>[]|a::l=>match l with
  |[]=>cd (dK nm turns) [a,.d6 1 ""] [a]|b::l'=>match l' with
   |[]=>cd (gJ a) (cd (ag nm "imul"&&fe b) [a,a,b] (cd (dK nm v0&&hP b) [b,a] [a,b])) [a,b]|c::t=>a::b::c::t
def fr(Q:Cs->b0->Prop)(l:List OP):Prop:=Q [] (.fresh ac (bh l))
section
variable(nm:ao)(Q:Cs->b0->Prop)
def Ul(a b:OP):Prop:=gd (bO nm&&(iU v0).all wP) (br ((iU v0).any (dj nm)) (match hP b with
 |ac=>fr Q [b,a]|ae=>fr Q [a,b]) (fr Q [a,b]))
def WT(a b:OP):Prop:=gd (bO nm&&bO "imul") (br (ag nm "imul") (match fe b with
 |ac=>fr Q [a,a,b]|ae=>Ul nm Q a b) (Ul nm Q a b))
def SW(ops:List OP):Prop:=match ops with
 |[]=>fr Q []|a::l=>match l with
  |[]=>fr Q [a]|b::l'=>match l' with
   |[]=>(match gJ a with
    |ac=>WT nm Q a b|ae=>fr Q [a,b])|c::t=>fr Q (a::b::c::t)
def X7(ops:List OP):Prop:=gd (bO nm&&(iU turns).all wP) (br ((iU turns).any (dj nm)) (match ops with
 |[]=>SW nm Q []|a::l=>match l with
  |[]=>fr Q [a,.d6 1 ""]|b::l'=>SW nm Q (a::b::l')) (SW nm Q ops))
end
noncomputable def KQ(l l':List OP)(a b c:OP):List (List OP):=[]::[a,b,c]::(l.map λx=>[x])++l.flatMap λx=>l'.map λy=>[x,y]
def WL:aS:=λlf args Q z9=>gd (!lf) (∃nm ops,args=[.v (.str nm),.v (.lst (bh ops))]/\gd (bO nm&&aU ops.length 3) (fr Q (mF nm ops)))
section
variable{K:bt}{w:aJ}{Seg:V->List V->Prop}{lf:Bool}{args:List Arg}{Q:Cs->b0->Prop}{X:aq->Prop}
theorem HJ(h:Cd lf args Q X):aN pg nt 3 lf 1018 args Q X:=by obtain⟨c,b,i,s,w,z,a,g,n,e,d⟩:=bK h;clear h;subst c;subst e;refine ej (CH b i) λr r' f=>bA (congrFun (congrFun (aH.mp (O3 s w z a g n r r') _ f) Q) X) d
theorem PJ(nm:ao)(a b c:OP)(r r':RG)(w m s k z o:Int)(n j l f:ao)(g i e h:Option RG):((KQ (pE r w n g i s z l) (pE r' m j e h k o f) a b c).map λd=>aN pg nt 3 ae 1301 [.v (.str nm),.v (.lst (bh d))] Q X)=(KQ (pE r w n g i s z l) (pE r' m j e h k o f) a b c).map λd=>X7 nm Q d:=by kernel_rfl
theorem BQ{C:Prop}{j:List OP}(h:j.length<=3)(k:∀r r' w t s q z u n p f m d i g o a b c,j∈KQ (pE r w n d i s z f) (pE r' t p g o q u m) a b c->C):C:=by have e:OP:=.rel 0 "";induction j using ai with
 |nil=>refine fF e λr w n d i s z f B=>k r r w w s s z z n n f f d i d i e e e (.head _)|cons x l=>refine fF x λr w n d i s z f v=>?_;induction l using ai with
  |nil=>exact k r r w w s s z z n n f f d i d i e e e (av _ (.tail _ (.tail _ (aG.mpr ⟨x,v,rfl⟩))))|cons y l=>refine fF y λr' t p g o q u m A=>?_;induction l using ai with
   |nil=>exact k r r' w t s q z u n p f m d i g o e e e (an _ (aC.mpr ⟨x,v,aG.mpr ⟨y,A,rfl⟩⟩))|cons c l=>induction l using ai with
    |nil=>exact k r r w w s s z z n n f f d i d i x y c (.tail _ (.head _))|cons=>exact absurd (show _+4<=3from h) (by lia)
theorem Cw{nm:ao}{d:List OP}(k:bO nm=ac)(f:dK nm turns=ae\/d.length≠1)(h:fr Q (mF nm d)):SW nm Q d:=by induction d using ai with
 |nil=>exact h|cons a l=>induction l using ai with
  |nil=>
   rcases f with f|f;·have h:fr Q (cd (dK nm turns) [a,.d6 1 ""] [a]):=h;replace h:=f▸h;exact h
   ·exact absurd rfl f|cons b l=>clear f;induction l using ai with
   |cons c t=>exact h
   |nil=>have h:fr Q (cd (gJ a) (cd (ag nm "imul"&&fe b) [a,a,b] (cd (dK nm v0&&hP b) [b,a] [a,b])) [a,b]):=h;show match gJ a with
     |ac=>WT nm Q a b|ae=>fr Q [a,b];induction e:gJ a with
    |false=>replace h:=e▸h;exact h|true=>
     replace h:=e▸h;have j:fr Q (cd (dK nm v0&&hP b) [b,a] [a,b])->Ul nm Q a b:=λh=>by refine aB (by rw[k];rfl) ?_;rw[iw];induction g:dK nm v0 with
      |false=>replace h:=g▸h;exact h|true=>replace h:=g▸h;induction i:hP b with
       |false=>replace h:=i▸h;exact h|true=>replace h:=i▸h;exact h
     refine aB (by rw[k];rfl) ?_;induction g:ag nm "imul"with
     |false=>replace h:=g▸h;exact j h|true=>replace h:=g▸h;induction i:fe b with
      |false=>replace h:=i▸h;exact j h|true=>replace h:=i▸h;exact h
theorem Vv(h:WL lf args Q X):aN pg nt 3 lf 1301 args Q X:=by obtain⟨t,j,k,e,o⟩:=bK h;clear h;subst t;subst e;refine xK λC f=>xG o λd h=>?_;rw[af]at d;refine BQ (aj d.2) λr r' w A s x z B n v y m q i g u a b c p=>f ?_;refine bA (aH.mp (PJ j a b c r r' w A s x z B n v y m q i g u) _ p) ?_;refine aB (by refine d.1.symm▸?_;rfl) ?_;rw[iw];clear o p;clear f;cases e:dK j turns with
 |false=>exact Cw d.1 (.inl e) h|true=>induction k using ai with
  |nil=>exact h|cons a l=>induction l using ai with
   |nil=>have h:fr Q (cd (dK j turns) [a,.d6 1 ""] [a]):=h;replace h:=e▸h;exact h|cons b l=>exact Cw d.1 (.inr λz=>by cases z) h
end
noncomputable def S8:List (aq×aS):=[(687,FV),(1301,WL),(1315,bor K4),(1336,bor Uc),(1018,Cd)]
abbrev SR:=aN pg (bM S8) 1
noncomputable def sI(pre word:ao)(at':V):V:=.inst 1161 [("prefix",.str pre),("word",.str word),("at",at')]
noncomputable def oM(nm:ao)(ops:List V)(pre:ao):V:=.inst 979 [("name",.str nm),("operands",.tup ops),("prefix",.str pre)]
def JF:aY×List dG:=Ay ((fnOf 1341).body[5]?.getD default)
structure CE where
 fs:List FD
 hd:V
 nm:ao
 ops:V
 z:Int
 s:Int
def CE.env(c:CE)(k:Nat)(e:Vs):Vs:=([("iset",cg c.fs),("head",c.hd),("name",.str c.nm),("operands",c.ops),("size",.int c.z),("source",.int c.s),("found",.ptr k)]:Vs)++e
abbrev Rz(m:Nat)(c:CE)(pre:Cs)(F:List V)(e:Vs)(l:List V)(Q:Fl->Vs->Cs->Prop)(X:XS):Prop:=(wv pg SR m).For ⟨c.env pre.length e,(fnOf 1341).scope,ae⟩ JF.1 l JF.2 (pre++[.lst ac F]) Q X
noncomputable def Ls(j:Int):Vs:=[("place",.int j)]
section
variable(m:Nat)(c:CE)(l:List V)(Q:Fl->Vs->Cs->Prop)(X:XS)
def TY(o:OP)(n:Int)(A:V->Prop):Prop:=∃b i s w z a nm n',[Arg.v o.v,.v (.int n)]=[.v (hM b i s w z a nm),.v (.int n')]/\A (hM b i s w n' a nm)
def Yj(F:List V)(j:Int)(A:Int->Prop):Prop:=∃fs nm ops j' z s,[Arg.v (cg c.fs),.v (.str c.nm),.v (.lst F),.v (.int j),.v (.int c.z),.v (.int c.s)]=[.v (cg fs),.v (.str nm),.v (.lst (bh ops)),.v (.int j'),.v (.int z),.v (.int s)]/\gd (bO nm&&(aU ops.length 3&&ops.all OP.bR)) (Gp fs nm ops j' (rV nm ops z s) A)
def Hw(pre:Cs)(F:List V)(j:Int):Prop:=Rz (m+24) c pre F (Ls j) l Q X
def Xw(pre:Cs)(o:OP)(F:List V)(j:Int):Prop:=match o with
 |.mem b i sc w zm a n=>gd (bO c.nm&&bO "lea") (br (ag c.nm "lea") (TY o 0 λv=>Hw m c l Q X pre (F.set j.toNat v) j) (br (decide (zm=0)) (Yj c F j λk=>TY o k λv=>Hw m c l Q X pre (F.set j.toNat v) j) (Hw m c l Q X pre F j)))|_=>Hw m c l Q X pre F j
def RA(pre:Cs)(F:List V)(j:Int)(e:Vs):Prop:=Rz (m+25) c pre F e (.int j::l) Q X
def Vk(r:RG)(w:Int)(nn:ao)(b i:Option RG)(sc z':Int)(a:ao)(y y':V)(j':Int)(c1 c2:Cell):List (OP×(List V×Int)×Vs×Cs):=(pE r w nn b i sc z' a).flatMap λo=>(wG o.v y y').flatMap λp=>[(o,p,[],[]),(o,p,Ls j',[]),(o,p,[],[c1,c2]),(o,p,Ls j',[c1,c2])]
theorem Hu(r:RG)(w:Int)(f:ao)(b i:Option RG)(g j:Int)(a:ao)(y h:V)(j':Int)(d e:Cell):((Vk r w f b i g j a y h j' d e).map λp=>RA m c l Q X p.2.2.2 p.2.1.1 p.2.1.2 p.2.2.1)=(Vk r w f b i g j a y h j' d e).map λp=>Xw m c l Q X p.2.2.2 p.1 p.2.1.1 p.2.1.2:=by kernel_rfl
end
theorem ye{c:Type}{x v:c}{b:List c}:∀{pre:List c},(pre++x::b).set pre.length v=pre++v::b
 |[]=>rfl|a::pre=>congrArg (a::·) (ye (pre:=pre))
def dz(fs:List FD)(nm:ao)(z s:Int):List OP->List OP->(List OP->Prop)->Prop
 |done,[],A=>A done|done,o::todo,A=>match o with
  |.mem b i sc w zm a n=>br (ag nm "lea") (dz fs nm z s (done++[.mem b i sc w 0 a n]) todo A) (br (decide (zm=0)) (Gp fs nm (done++(.mem b i sc w zm a n)::todo) (done.length:Int) (rV nm (done++(.mem b i sc w zm a n)::todo) z s) λk=>dz fs nm z s (done++[.mem b i sc w k a n]) todo A) (dz fs nm z s (done++[.mem b i sc w zm a n]) todo A))|o=>dz fs nm z s (done++[o]) todo A
def yp(pre:Cs):Prop:=pre=[]\/∃c1 c2,pre=[c1,c2]
def Tm(e:Vs):Prop:=e=[]\/∃j,e=Ls j
theorem zk{c:CE}{pre:Cs}{Q:Fl->Vs->Cs->Prop}{X:XS}(I:bO c.nm=ac)(J:yp pre):∀(f d:List OP)(m:Nat)(e:Vs),d.length+f.length<=3->(d++f).all OP.bR=ac->Tm e->dz c.fs c.nm c.z c.s d f (λl=>∀e,Tm e->Q .next (c.env pre.length e) (pre++[.lst ac (bh l)]))->Rz (m+f.length+25) c pre (bh (d++f)) e (uo d.length f.length) Q X
  |[],d,m,e,_,_,C,h=>by rw[bf];exact h e C|o::f,d,m,e,E,D,C,h=>by
    have E:d.length+(f.length+1)<=3:=E;refine ej (uX o.v (bh d) (bh f) (by dsimp only[bh];rw[az,az];exact Nat.le_of_succ_le_succ ‹_›)) λy R z=>fF o λr w P b i g T a A=>?_;have U:∃j s t,(o,((bh d++o.v::bh f,((bh d).length:Int)):List V×Int),e,pre)∈Vk r w P b i g T a y R j s t:=by
      rcases C with rfl|⟨j,rfl⟩
      · rcases J with rfl|⟨s,t,rfl⟩;·exact dB 0 (.dead .any) (.dead .any) (aC.mpr ⟨o,A,aC.mpr ⟨_,z,.head _⟩⟩)
        ·exact dB 0 s t (aC.mpr ⟨o,A,aC.mpr ⟨_,z,.tail _ (.tail _ (.head _))⟩⟩)
      · rcases J with rfl|⟨s,t,rfl⟩;·exact dB j (.dead .any) (.dead .any) (aC.mpr ⟨o,A,aC.mpr ⟨_,z,.tail _ (.head _)⟩⟩)
        ·exact dB j s t (aC.mpr ⟨o,A,aC.mpr ⟨_,z,.tail _ (.tail _ (.tail _ (.head _)))⟩⟩)
    obtain⟨j,s,t,u⟩:=U;have st:RA (m+f.length+1) c (uo (d.length+1) f.length) Q X pre (bh d++o.v::bh f) ((bh d).length:Int) e=Xw (m+f.length+1) c (uo (d.length+1) f.length) Q X pre o (bh d++o.v::bh f) ((bh d).length:Int):=aH.mp (Hu (m+f.length+1) c (uo (d.length+1) f.length) Q X r w P b i g T a y R j s t) _ u;have F:∀o,bh (d++o::f)=bh d++o.v::bh f:=λo=>by dsimp only[bh];refine cN.symm▸rfl
    have K:(bh d).length=d.length:=az ..;rw[K]at st;show Rz (m+(f.length+1)+25) c pre (bh (d++o::f)) e (.int (d.length:Int)::uo (d.length+1) f.length) Q X;(refine(show m+(f.length+1)+25=m+f.length+1+25from by exact rfl).symm▸?_;rw[F]);refine bA st ?_;have next:∀B:OP,B.bR=ac->dz c.fs c.nm c.z c.s (d++[B]) f (λl=>∀e,Tm e->Q .next (c.env pre.length e) (pre++[.lst ac (bh l)]))->Hw (m+f.length+1) c (uo (d.length+1) f.length) Q X pre (bh d++B.v::bh f) (d.length:Int):=λB W h=>by
      have H:((d++[B])++f).all OP.bR=ac:=am.mpr λx q=>by
        rw[a0]at q;rcases ee.mp q with q|q;·exact am.mp D x (av _ q)
        · (clear C z A u st;rcases aD.mp q with rfl|q);·exact W
          ·exact am.mp D x (an _ (.tail _ q))
      have :=zk (X:=X) I J f (d++[B]) m (Ls (d.length:Int)) (by refine aw.symm▸?_;show d.length+1+f.length<=3;exact nC E) H (.inr ⟨_,rfl⟩) h;rw[aw,a0]at this;dsimp only[Hw];(refine(show m+f.length+1+24=m+f.length+25from by exact rfl).symm▸?_;rw[<-F]);exact this
    have L:∀v,(bh d++o.v::bh f).set (d.length:Int).toNat v=bh d++v::bh f:=λv=>by refine(show(d.length:Int).toNat=(bh d).length from by refine K.symm▸rfl).symm▸?_;exact ye
    have S:∀v,Hw (m+f.length+1) c (uo (d.length+1) f.length) Q X pre (bh d++v::bh f) (d.length:Int)->Hw (m+f.length+1) c (uo (d.length+1) f.length) Q X pre ((bh d++o.v::bh f).set (d.length:Int).toNat v) (d.length:Int):=λv h=>by rw[L];exact h
    clear z A u st L;induction o with
    |mem b i g w p a n=>have N:=λk h=>next (.mem b i g w k a n) rfl h;have h:br (ag c.nm "lea") (dz c.fs c.nm c.z c.s (d++[.mem b i g w 0 a n]) f _) (br (decide (p=0)) _ _):=h;show gd (bO c.nm&&bO "lea") (br (ag c.nm "lea") _ _);refine aB (by refine I.symm▸rfl) ?_;induction M:ag c.nm "lea"with
      |true=>rw[M]at h;exact⟨b,i,g,w,p,a,n,0,rfl,S _ (N 0 h)⟩|false=>rw[M]at h;have h:br (decide (p=0)) _ _:=h;show br (decide (p=0)) _ _;induction O:decide (p=0)with
        |false=>rw[O]at h;exact N p h|true=>
          rw[O]at h;refine Op c.fs c.nm (d++.mem b i g w p a n::f) ((d.length:Int)) c.z c.s ⟨by rw[F],aB ?_ ?_⟩;·refine I.symm▸D.symm▸(show aU (d++OP.mem b i g w p a n::f).length 3=ac from aV (by refine aw.symm▸E)).symm▸?_;rfl
          ·have h:Gp c.fs c.nm (d++.mem b i g w p a n::f) (d.length:Int) (rV c.nm (d++.mem b i g w p a n::f) c.z c.s) _:=h;revert h;dsimp only[Gp];have G:∀k,dz c.fs c.nm c.z c.s (d++[.mem b i g w k a n]) f _->TY (.mem b i g w p a n) k λv=>Hw (m+f.length+1) c (uo (d.length+1) f.length) Q X pre ((bh d++(OP.mem b i g w p a n).v::bh f).set (d.length:Int).toNat v) (d.length:Int):=λk h=>⟨b,i,g,w,p,a,n,k,rfl,S _ (N k h)⟩;induction rV c.nm (d++.mem b i g w p a n::f) c.z c.s with
            |some k=>exactλh=>G k h|none=>exactλy0=>aE y0 λk Y Z=>⟨k,Y,G k Z⟩
    |ce r'=>exact next _ (am.mp D _ (an _ (.head _))) h|d6 w' n'=>exact next _ rfl h|rel w' n'=>exact next _ rfl h
noncomputable def OP.kd:OP->ao
 |.ce _=>"reg"|.d6 _ _=>"imm"|.rel _ _=>"rel"|.mem _ _ _ _ _ _ _=>"mem"
def Xc(ops:List OP):Cell:=.lst ae (iU (ops.map OP.kd))
def jc:List OP->Bool
 |[]=>ae|a::l=>match l with
  |[]=>fe a|_::_=>ae
def UM:List OP->Bool
 |[]=>ae|a::l=>match l with
  |[]=>ae|b::l'=>match l' with
   |[]=>gJ a&&fe b|_::_=>ae
section
variable(fs:List FD)(ic word:ao)(C:aq)(at':Vs)(nm:ao)(ops:List OP)(z s:Int)(Q:Cs->b0->Prop)(X:aq->Prop)
def HD:CE:=⟨fs,sI ic word (.inst C at'),nm,.lst (bh ops),z,s⟩
def c6(pre:Cs)(F:List V):Prop:=gd (fits F.length) (gd (decide ((0:Int)<=0/\(0:Int)<=1000000/\(0:Int)<=F.length/\(F.length:Int)<=1000000)) (Rz 393 (HD fs ic word C at' nm ops z s) pre F [] ((cU ((F.length:Int)-0).toNat).map λi=>V.int (0+iX i)) (j0 SR 1341 6 0 ae Q X) (λC z9 z9=>X C)))
def c5(pre:Cs)(F:List V):Prop:=∃vZ rc z' s' C' jx,[Arg.v (.str nm),.v (.lst F),.v (.int z),.v (.int s),.v (.inst C at')]=[.v (.str vZ),.v (.lst (bh rc)),.v (.int z'),.v (.int s'),.v (.inst C' jx)]/\gd (bO vZ&&(aU rc.length 3&&rc.all OP.bR)) (br (iQ vZ rc z' s') (X 87) (c6 fs ic word C at' nm ops z s Q X pre F))
def c4(pre:Cs):Prop:=∃vZ rc,[Arg.v (.str nm),.v (.lst (bh ops))]=[.v (.str vZ),.v (.lst (bh rc))]/\gd (bO vZ&&aU rc.length 3) (c5 fs ic word C at' nm ops z s Q X pre (bh (mF vZ rc)))
def c3(pre:Cs):Prop:=gd (fits word.length) (gd (bO (fV word 6)&&bO "movabs") (br (ag (fV word 6) "movabs") (match UM ops with
 |ac=>c4 fs ic word C at' nm ops z s Q X (pre++[Xc ops,.lst ae [.str "reg",.str "imm"]])|ae=>X 87) (c4 fs ic word C at' nm ops z s Q X pre)))
def c2:Prop:=gd (bO nm&&bO "push") (br (ag nm "push") (br (decide (z=16)) (match jc ops with
 |ac=>X 87|ae=>c3 fs ic word C at' nm ops z s Q X [Xc ops,.lst ae [.str "imm"]]) (c3 fs ic word C at' nm ops z s Q X [])) (c3 fs ic word C at' nm ops z s Q X []))
def J9:Prop:=gd (fits (("unknown instruction ":ao).length+word.length)) (X 87)
def c1:Prop:=gd (bO nm&&bO "") (br (ag nm "") (J9 word X) (∃jx x',[Arg.v (cg fs),.v (.str nm)]=[.v (cg jx),.v (.str x')]/\br (!jU jx x') (J9 word X) (c2 fs ic word C at' nm ops z s Q X)))
def Eb:Prop:=aN pg (bM S8) 2 ae 1341 [.v (cg fs),.v (sI ic word (.inst C at')),.v (.str nm),.v (.lst (bh ops)),.v (.int z),.v (.int s)] Q X
end
section
variable{lf:Bool}{args:List Arg}{Q:Cs->b0->Prop}{X:aq->Prop}
noncomputable def BP(l l':List OP)(a b w:OP):List (List OP):=[]::(l.map λx=>[x])++(l.flatMap λx=>l'.map λy=>[x,y])++l.flatMap λx=>l'.map λy=>[x,y,w]
theorem Ry(fs:List FD)(d word:ao)(C:aq)(b:Vs)(nm:ao)(t m:Int)(r r':RG)(w o s k z q p:Int)(n h l e j:ao)(f i c g:Option RG):((BP (pE r w n f i s z l) (pE r' o h c g k q e) (.d6 0 "") (.d6 0 "") (.d6 p j)).map λa=>Eb fs d word C b nm a t m Q X)=(BP (pE r w n f i s z l) (pE r' o h c g k q e) (.d6 0 "") (.d6 0 "") (.d6 p j)).map λa=>c1 fs d word C b nm a t m Q X:=by kernel_rfl
def TV(c1 c2:Cell)(j:Int):List (Cs×Vs):=[([],[]),([],Ls j),([c1,c2],[]),([c1,c2],Ls j)]
theorem Ht(fs:List FD)(a word:ao)(C:aq)(b:Vs)(nm:ao)(c:List OP)(z s:Int)(F:List V)(c1 c2:Cell)(j:Int):((TV c1 c2 j).map λp=>j0 SR 1341 6 0 ae Q X .next ((HD fs a word C b nm c z s).env p.1.length p.2) (p.1++[.lst ac F]))=(TV c1 c2 j).map λz9=>gd (fits F.length) (Q [] (.v (oM nm F a))):=by kernel_rfl
theorem M3{fs:List FD}{a word:ao}{C:aq}{b:Vs}{nm:ao}{c:List OP}{z s:Int}{F:List V}{pre:Cs}{e:Vs}(g:yp pre)(d:Tm e)(i:F.length<=10)(h:Q [] (.v (oM nm F a))):j0 SR 1341 6 0 ae Q X .next ((HD fs a word C b nm c z s).env pre.length e) (pre++[.lst ac F]):=by
  have :∃c1 c2 j,(pre,e)∈TV c1 c2 j:=by
    rcases g with rfl|⟨c1,c2,rfl⟩
    · rcases d with rfl|⟨j,rfl⟩;·exact dB (.dead .any) (.dead .any) 0 (.head _)
      ·exact dB (.dead .any) (.dead .any) j (.tail _ (.head _))
    · rcases d with rfl|⟨j,rfl⟩;·exact dB c1 c2 0 (.tail _ (.tail _ (.head _)))
      ·exact dB c1 c2 j (.tail _ (.tail _ (.tail _ (.head _))))
  refine pv this λc1 c2 j f=>bA (aH.mp (Ht fs a word C b nm c z s F c1 c2 j) _ f) (aB (fits_of (nT ‹_› rfl)) h)
def gR:List OP->Bool
 |[]=>ac|_::l=>match l with
  |[]=>ac|_::l'=>match l' with
   |[]=>ac|w::t=>fe w&&t.isEmpty
theorem uT{C:Prop}{f:List OP}(h:gR f=ac)(k:∀r r' w o s m z p u n j d e t a i b g,f∈BP (pE r w n a i s z d) (pE r' o j b g m p e) (.d6 0 "") (.d6 0 "") (.d6 u t)->C):C:=by induction f using ai with
 |nil=>refine fF (.rel 0 "") λr w n a i s z d B=>k r r w w s s z z 0 n n d d n a i a i (.head _)|cons x l=>refine fF x λr w n a i s z d q=>?_;induction l using ai with
  |nil=>exact k r r w w s s z z 0 n n d d n a i a i (av _ (av _ (.tail _ (aG.mpr ⟨x,q,rfl⟩))))|cons y l=>refine fF y λr' o j b g m p e v=>?_;induction l using ai with
   |nil=>exact k r r' w o s m z p 0 n j d e n a i b g (av _ (an _ (aC.mpr ⟨x,q,aG.mpr ⟨y,v,rfl⟩⟩)))|cons c l=>have h:(fe c&&l.isEmpty)=ac:=h;rw[af,aX]at h;obtain⟨A,rfl⟩:=h;clear h;induction c with
    |d6 u t=>exact k r r' w o s m z p u n j d e t a i b g (an _ (aC.mpr ⟨x,q,aG.mpr ⟨y,v,rfl⟩⟩))|_=>exact cy A
def AT(fs:List FD)(word nm:ao)(ops:List OP)(z s:Int)(A:List OP->Prop)(E:Prop):Prop:=br (ag nm ""||!jU fs nm) E (br (ag nm "push"&&(decide (z=16)&&jc ops)) E (gd (!ag (fV word 6) "movabs") (br (iQ nm (mF nm ops) z s) E (dz fs nm z s [] (mF nm ops) A))))
def Hx(word nm:ao)(ops:List OP):Bool:=bO nm&&(gR ops&&(ops.all OP.bR&&(aU word.length 1000&&bO (fV word 6))))
def Cl:aS:=λlf args Q X=>gd (!lf) (∃fs ic word C at' nm ops z s,args=[.v (cg fs),.v (sI ic word (.inst C at')),.v (.str nm),.v (.lst (bh ops)),.v (.int z),.v (.int s)]/\gd (Hx word nm ops) (AT fs word nm ops z s (λl=>Q [] (.v (oM nm (bh l) ic))) (X 87)))
theorem sD{a:List OP}(h:gR a=ac):a.length<=3:=by induction a using ai with
 |nil=>exact aj rfl|cons x l=>induction l using ai with
  |nil=>exact aj rfl|cons y l=>induction l using ai with
   |nil=>exact aj rfl|cons w t=>have h:(fe w&&t.isEmpty)=ac:=h;rw[af,aX]at h;refine h.2.symm▸aj rfl
theorem F7{nm:ao}{f:List OP}(k:f.length<=3)(g:f.all OP.bR=ac):(mF nm f).length<=3/\(mF nm f).all OP.bR=ac:=by have L:∀l:List OP,l.length<=3->(∀x∈l,x.bR=ac)->l.length<=3/\l.all OP.bR=ac:=λl m n=>⟨m,am.mpr n⟩;have g:=λx d=>am.mp g x d;induction f using ai with
 |nil=>exact L _ k g|cons a l=>have i:=g a (.head _);induction l using ai with
  |nil=>show(cd (dK nm turns) [a,.d6 1 ""] [a]).length<=3/\_;show _/\(cd (dK nm turns) [a,.d6 1 ""] [a]).all OP.bR=ac;induction dK nm turns with
   |true=>
    refine L [a,.d6 1 ""] (aj rfl) λx d=>?_;rcases aD.mp d with rfl|d;·exact i
    ·refine(aF.mp d).symm▸rfl|false=>exact L [a] (aj rfl) g
  |cons b l=>have o:=g b (.tail _ (.head _));induction l using ai with
   |cons c t=>exact L _ k g|nil=>show(cd (gJ a) (cd (ag nm "imul"&&fe b) [a,a,b] (cd (dK nm v0&&hP b) [b,a] [a,b])) [a,b]).length<=3/\(cd (gJ a) (cd (ag nm "imul"&&fe b) [a,a,b] (cd (dK nm v0&&hP b) [b,a] [a,b])) [a,b]).all OP.bR=ac;have j:∀x∈[b,a],x.bR=ac:=λx d=>(aD.mp d).elim (λe=>e▸o) λd=>aF.mp d▸i;have h:∀x∈[a,a,b],x.bR=ac:=λx d=>(aD.mp d).elim (λe=>e▸i) λd=>g x d;induction gJ a with
    |false=>exact L [a,b] (aj rfl) g|true=>induction ag nm "imul"&&fe b with
     |true=>exact L [a,a,b] (aj rfl) h|false=>induction dK nm v0&&hP b with
      |true=>exact L [b,a] (aj rfl) j|false=>exact L [a,b] (aj rfl) g
theorem Xx{c:Bool}{a b d e:Prop}(f:a->d)(g:b->e)(h:br c a b):br c d e:=by induction c with
 |true=>exact f h|false=>exact g h
theorem AA{fs:List FD}{nm:ao}{z s:Int}{n:Nat}{A B:List OP->Prop}(g:∀l:List OP,l.length<=n->A l->B l):∀(c d:List OP),d.length+c.length<=n->dz fs nm z s d c A->dz fs nm z s d c B:=by intro c;induction c with
 |nil=>exactλd f h=>g _ f h|cons o c e=>intro d f h;have f:d.length+(c.length+1)<=n:=f;have e:∀o,dz fs nm z s (d++[o]) c A->dz fs nm z s (d++[o]) c B:=λo=>e _ (by refine aw.symm▸?_;show d.length+1+c.length<=n;exact nC f);induction o with
  |mem b i p w r a n=>refine Xx (e _) (Xx (λh=>?_) (e _)) h;revert h;dsimp only[Gp];induction rV nm (d++(.mem b i p w r a n)::c) z s with
   |some k=>exact e _|none=>exactλq=>aE q λk j m=>⟨k,j,e _ m⟩
  |ce=>exact e _ h|d6=>exact e _ h|rel=>exact e _ h
theorem R3{fs:List FD}{c word:ao}{C:aq}{b:Vs}{nm:ao}{a:List OP}{z s:Int}{pre:Cs}(i:bO nm=ac)(d:a.length<=3)(o:a.all OP.bR=ac)(j:yp pre)(h:br (iQ nm (mF nm a) z s) (X 87) (dz fs nm z s [] (mF nm a) λl=>Q [] (.v (oM nm (bh l) c)))):c4 fs c word C b nm a z s Q X pre:=by refine bB (F7 (nm:=nm) d o) λf k=>cM nm a ⟨rfl,aB (by refine i.symm▸aV d) (Op nm (mF nm a) z s C b ⟨rfl,aB (by refine i.symm▸k.symm▸(aV f).symm▸rfl) ?_⟩)⟩;induction e:iQ nm (mF nm a) z s with
 |true=>replace h:=e▸h;exact h|false=>replace h:=e▸h;have g:(bh (mF nm a)).length=(mF nm a).length:=az ..;refine aB (fits_of (by refine g.symm▸nT ‹_› rfl)) (aB (decide_eq_true (by refine g.symm▸nZ f rfl)) ?_);refine g.symm▸(plc_eq f).symm▸?_;obtain⟨m,p⟩:∃m,393=m+(mF nm a).length+25:=⟨393-(mF nm a).length-25,by exact nQ f rfl⟩;refine p.symm▸zk (c:=HD fs c word C b nm a z s) i j (mF nm a) [] m [] (by show 0+_<=3;exact nL ‹_› rfl) k (.inl rfl) (AA (λl d h e n=>M3 j n (by show(l.map OP.v).length<=10;rw[az];have :l.length<=0+(mF nm a).length:=d;lia) h) _ _ (a8 _) h)
section
variable{fs:List FD}{ic word:ao}{C:aq}{at':Vs}{nm:ao}{ops:List OP}{z s:Int}{pre:Cs}
abbrev Xv(fs:List FD)(word nm:ao)(ops:List OP)(z s:Int)(E:Prop)(A:List OP->Prop):Prop:=gd (!ag (fV word 6) "movabs") (br (iQ nm (mF nm ops) z s) E (dz fs nm z s [] (mF nm ops) A))
theorem En(a:Hx word nm ops=ac)(i:yp pre)(h:Xv fs word nm ops z s (X 87) λl=>Q [] (.v (oM nm (bh l) ic))):c3 fs ic word C at' nm ops z s Q X pre:=by unfold Hx at a;simp only[af]at a;refine N2 a λf g e c d=>?_;have c:=aj c;refine xG h λb h=>?_;rw[aL]at b;exact aB (fits_of (nT ‹_› rfl)) (aB (by refine d.symm▸rfl) (dO b (R3 f (sD g) e i h)))
theorem R4(a:Hx word nm ops=ac)(h:br (ag nm "push"&&(decide (z=16)&&jc ops)) (X 87) (Xv fs word nm ops z s (X 87) λl=>Q [] (.v (oM nm (bh l) ic)))):c2 fs ic word C at' nm ops z s Q X:=by have e:bO nm=ac:=(bJ.mp a).1;refine aB (by refine e.symm▸rfl) ?_;induction b:ag nm "push"with
 |false=>replace h:=b▸h;exact En a (.inl rfl) h|true=>replace h:=b▸h;induction c:decide (z=16)with
  |false=>replace h:=c▸h;exact ge rfl (dO rfl (En a (.inl rfl) h))|true=>replace h:=c▸h;refine ge rfl (ge rfl ?_);induction d:jc ops with
   |true=>replace h:=d▸h;exact h|false=>replace h:=d▸h;exact En a (.inr (cM _ _ rfl)) h
theorem R5(a:Hx word nm ops=ac)(h:AT fs word nm ops z s (λl=>Q [] (.v (oM nm (bh l) ic))) (X 87)):c1 fs ic word C at' nm ops z s Q X:=by
 have d:bO nm=ac:=(bJ.mp a).1;have f:word.length<=1000:=by unfold Hx at a;simp only[af]at a;exact aj a.2.2.2.1
 have e:("unknown instruction ":ao).length<=100:=aj rfl;have U:X 87->J9 word X:=λh=>aB (fits_of (nL ‹_› rfl)) h;unfold AT at h;refine aB (by refine d.symm▸rfl) ?_;induction b:ag nm ""with
 |true=>replace h:=b▸h;exact ge rfl (U h)|false=>replace h:=b▸h;refine dO rfl (cM fs nm ⟨rfl,?_⟩);induction c:jU fs nm with
  |false=>replace h:=c▸h;exact ge rfl (U h)|true=>replace h:=c▸h;exact dO rfl (R4 a h)
end
theorem Nw(h:Cl lf args Q X):aN pg (bM S8) 2 lf 1341 args Q X:=by
 obtain⟨u,f,d,a,C,c,j,b,z,s,e,v⟩:=bK h;clear h;subst u;subst e;refine xK λJ l=>xG v λq h=>?_;have y:gR b=ac:=(bJ.mp (bJ.mp q).2).1;refine uT y λr r' w G E m I p H n B F o D t i k A x=>?_;have st:Eb f d a C c j b z s Q X=c1 f d a C c j b z s Q X:=aH.mp (Ry f d a C c j z s r r' w G E m I p H n B F o D t i k A) b x;have g:Eb f d a C c j b z s Q X:=by rw[st];exact R5 q h
 refine l (g)
end
section
variable{K:bt}{w:aJ}{Seg:V->List V->Prop}
theorem Mp(a:bo pg K w):iE K w (Sm Seg) 18 S8:=.cons (bq.run a 2 (by decide) λz9 z9 z9 z9=>Ek) (.cons (bq.run a 3 (by decide) λz9 z9 z9 z9=>Vv) (.cons ((Nc a).bor.up (by decide)) (.cons (Qd a).bor (.cons (bq.run a 3 (by decide) λz9 z9 z9 z9=>HJ) .nil))))
theorem Hz(a:bo pg K w):bq K w (Sm Seg) 1341 Cl 22:=(Mp a).fn a ci 2 (by decide) λz9 z9 z9 z9=>Nw
end
noncomputable def kN(j:Int):V:=.inst 45 [("line",.int 1),("column",.int j)]
def TT.tok(j:Int):TT->V
 |.n i=>tk "number" (te i) (.int i) (kN j)|.s x=>tk "sign" x (.str x) (kN j)|.m x=>tk "name" x (.str x) (kN j)|.r x=>tk "register" x (.str x) (kN j)
def toks:Int->List TT->List V
 |_,[]=>[]|j,t::l=>t.tok j::toks (j+1) l
noncomputable def eN(i:Int):V:=.inst 207 [("kind",.str "number"),("worth",.int i)]
noncomputable def eS(s:ao):V:=.inst 233 [("kind",.str "symbol"),("name",.str s)]
noncomputable def eH:V:=.inst 252 [("kind",.str "here")]
noncomputable def eU(s:ao)(b:V):V:=.inst 278 [("kind",.str "unary"),("sign",.str s),("body",b)]
noncomputable def eB(s:ao)(l r:V):V:=.inst 304 [("kind",.str "binary"),("sign",.str s),("left",l),("right",r)]
noncomputable def EF(w:Int)(p:ao):V:=.inst 408 [("worth",.int w),("plus",.str p),("minus",.str "")]
def cu:V:=.inst 456 [("equates",.dict [(.str "k",EF 37 ""),(.str "near",EF 4 "alpha")])]
structure Sh where
 toks:List TT
 tree:V
 w:Int
 p:ao
 g:Bool
def tT(s:Bool)(a:Int):List TT:=cd s [.s "-",.n a] [.n a]
def tE(s:Bool)(a:Int):V:=cd s (eU "-" (eN a)) (eN a)
def tW(s:Bool)(a:Int):Int:=cd s (-a) a
def vc(s:Bool)(a b:Int):List Sh:=[⟨tT s a,tE s a,tW s a,"",ac⟩,⟨[.m "k",.s "+"]++tT s a,eB "+" (eS "k") (tE s a),37+tW s a,"",ac⟩,⟨tT s a++[.s "*",.n 8,.s "+",.n b],eB "+" (eB "*" (tE s a) (eN 8)) (eN b),tW s a*8+b,"",small (tW s a)&&small 8⟩,⟨[.s "~"]++tT s a,eU "~" (tE s a),-1-tW s a,"",ac⟩,⟨([.n b,.s "+",.s "("]++tT s a)++[.s "<<",.n 4,.s ")"],eB "+" (eN b) (eB "<<" (tE s a) (eN 4)),b+tW s a*2^(4:Int).toNat,"",decide ((0:Int)<=4/\(4:Int)<=1000000/\(tW s a).natAbs<2^64)⟩,⟨tT s a++[.s "-",.n 100],eB "-" (tE s a) (eN 100),tW s a+-100,"",ac⟩]
def wL(nm:ao)(e:V)(h:Sh):Sh:=⟨h.toks++[.s "+",.m nm],eB "+" h.tree e,h.w+0,nm,h.g⟩
def qB(nm q:ao)(e:V)(k:Int)(s:Bool)(a:Int):Sh:=⟨[.m nm,.s "+"]++tT s a,eB "+" e (tE s a),k+tW s a,q,ac⟩
def rJ(s:Bool)(a b:Int):List Sh:=vc s a b++((vc s a b).map (wL "alpha" (eS "alpha"))++((vc s a b).map (wL "." eH)++[qB "alpha" "alpha" (eS "alpha") 0 s a,qB "near" "alpha" (eS "near") 4 s a,qB "." "." eH 0 s a]))
def nH(a b:Int):List Sh:=rJ ae a b++rJ ac a b
section
variable{Q:Cs->b0->Prop}{X:aq->Prop}
def Vg(h:Sh):Go:=aN pg nt 8 ae 503 [.v h.tree,.v cu,.v (.str ".")]
def Vf(h:Sh):Go:=λQ X=>gd h.g (Q [] (.v (EF h.w h.p)))
theorem Rp(a b:Int):(nH a b).map Vg=(nH a b).map Vf:=by kernel_rfl
def wm(x:ao)(w w' XM:V)(C:aq)(fs:Vs):List V:=[tk "sign" "," w (.inst C fs),tk "end" x w' (.inst C fs),tk "sign" "(" XM (.inst C fs)]
def Py(j:Int)(is:List V)(h:Sh)(it:V):Go:=aN pg (bM l0) 12 ae 348 [.c (.ch (.lst (toks j h.toks++it::is)))]
def Px(is:List V)(h:Sh)(it:V):Go:=λQ X=>Q (cur (it::is)) (.v h.tree)
theorem Pw(a b j:Int)(is:List V)(x:ao)(w e c:V)(C:aq)(fs:Vs):((nH a b).flatMap λh=>(wm x w e c C fs).map λd=>Py j is h d)=(nH a b).flatMap λh=>(wm x w e c C fs).map λd=>Px is h d:=by kernel_rfl
end
section
variable{P:PG}{K:bt}{w:aJ}{Sm:V->Cell->Prop}{sp:Spec}{dep:Nat}
abbrev I7(Sm:V->Cell->Prop)(sp:Spec):Spec:=λlf f args Q X=>∀gv,nV Sm args gv->∃Ez,nV Sm Ez gv/\sp lf f Ez Q X
theorem xy{g:Gh}{args:List Arg}{xs:List al}{f:Cs}{r:List CA}(a:fR w g args xs f r):∀{c:List Arg},nV Sm c args->∃d,rT Sm d f/\fR w g c xs d r:=by induction a with
 |nil=>intro c h;induction c using ai with
  |nil=>exact⟨[],rfl,.nil⟩|cons b q=>obtain⟨y,s,e,_,_⟩:=h;cases e
 |v t _ p=>intro c h;induction c using ai with
  |nil=>cases h|cons b q=>cases h with|mk y s e i o=>injection e with j l;subst j;subst l;refine aE (p o) λd m n=>?_;induction b with
   |v v=>(injection i with i;subst i);exact⟨d,m,.v t n⟩|c k=>refine aE i λz e z4=>?_;cases e
 |c _ p=>intro c h;induction c using ai with
  |nil=>cases h|cons b q=>cases h with|mk y s e i o=>injection e with j l;subst j;subst l;refine aE (p o) λd m n=>?_;induction b with
   |v v=>cases i|c k=>refine aE i λx e u=>?_;injection e with e;subst e;exact⟨k::d,bl.mk _ _ rfl u m,.c n⟩
theorem lx(z:fa P Sm)(h:dP K w Sm sp dep):dP K w Sm (I7 Sm sp) dep:=by intro k j d N U f y W n m g A s Q X R t O S o u r q p M G H T J I L;refine xK λY v=>aE (rB G) λl c1 c2=>aE (sQ M c1) λi B a2=>aE (t i B) λb C D=>aE (xy a2 C) λa E F=>v (h k j d N U f b W a m g A s Q X R D O S o u r q p F (mJ z E (c2 λx c e=>(z.ok x c e).1)) H T J I L)
end
section
variable{K:bt}{w:aJ}{Seg:V->List V->Prop}{lf:Bool}{args gv:List Arg}{Q:Cs->b0->Prop}{X:aq->Prop}
def LL(as:List Arg):Bool:=match one? as with
 |aa a=>(match sa a with
  |aa i=>decide (i=1)|ak=>ae)|ak=>ae
def qZ:aS:=λz9 args Q z9=>kQ args λc it is as=>gd (LL as) (fM it (λz9 z9 z9 z9=>match is with
 |[]=>False|Yr::_=>fM Yr (λk x w a=>Q (cur c) (.v (tk k x w a))) λz9=>False) λz9=>False)
theorem one1_eq{c:List Arg}(h:LL c=ac):c=[.v (.int 1)]:=by unfold LL at h;induction e:one? c with
 |none=>replace h:=e▸h;exact cy h|some a=>
  replace h:=e▸h;dsimp only at h;refine xO (sa a) (λb=>?_) λi b=>?_;·replace h:=b▸h;exact cy h
  ·replace h:=b▸h;exact(one_eq e).symm▸(argI_eq b).symm▸(of_decide_eq_true h).symm▸rfl
theorem Aq{pre ts:List V}{t t2:V}(h:(pre++t::t2::ts).length<=5000):itemAt (pre++t::t2::ts) ((pre.length:Int)+1)=aa t2:=by have :=gU (pre:=pre++[t]) (ts:=ts) (t:=t2) (by rw[a0];exact h);rw[a0,aw]at this;exact this
theorem Fb(m:cZ Seg)(h:qZ lf args Q X):AP (Sm Seg) (dD pg s2) lf 1418 args Q X:=λgv j=>by
 refine gS m h j λg J I G p c k x w C H N h a e l u q r t=>xG h λn h=>?_;rw[one1_eq n]at a;(refine aE a.one λb F s=>?_;(clear a;subst F));subst s;refine e.symm▸?_;clear m j u q n e;rcases t with⟨rfl,y⟩|⟨M,L,rfl,_⟩;·induction y using il.casesOn with
  |rest=>exact(show False from h).elim|@tok B E D o d A i v f=>have h:Q (cur g) (.v (tk B E D (.inst o d))):=h;refine F4 (fits_of (nT ‹_› rfl)) ?_ (Aq l) (gK r l h);refine aw.symm▸?_;show(c.length:Int)+1<((c.length+(i.length+1+1):Nat):Int);lia|seg z f=>exact(show False from h).elim
 ·exact(show False from h).elim
theorem rK(a:bo pg K w)(b:cZ Seg):bq K w (Sm Seg) 1418 qZ 8:=(bq.of ci (qA a ci (tA a ci 2)) λz9 z9 z9 z9=>Fb b).up (by decide)
end
def vC(kd:ao):Bool:=ag kd "number"||ag kd "sign"||ag kd "name"
noncomputable def Oj:List ao:=["-","~"]
noncomputable def ES:List ao:=["-","~","("]
noncomputable def uq:List ao:=["-","~","(","$","*"]
inductive Rd(w:Int)(p:ao)(l:List TT):Prop|mk(a b:Int)(h:Sh)(hm:h∈nH a b)(hg:h.g=ac)(e1:h.toks=l)(e2:h.w=w)(e3:h.p=p)
inductive mM(w:Int)(p:ao)(t:V):Prop|mk(a b:Int)(h:Sh)(hm:h∈nH a b)(hg:h.g=ac)(e1:h.tree=t)(e2:h.w=w)(e3:h.p=p)
noncomputable def eP(w:Int)(p:ao):V:=.tup [.str "E",.int w,.str p]
noncomputable def pP(b i:V)(s w:Int)(nm:ao)(bare:Bool):V:=.tup [.str "P",b,i,.int s,.int w,.str nm,.bool bare]
noncomputable def rP(w:Int)(nm:ao):V:=.tup [.str "R",.int w,.str nm]
noncomputable def Af(o:V)(c:Int):V:=.tup [.str "O",o,.int c]
noncomputable def Gs(b i:V)(s w z:Int)(a nm:ao):V:=.inst 928 [("kind",.str "mem"),("base",b),("index",i),("scale",.int s),("worth",.int w),("size",.int z),("segment",.str a),("name",.str nm)]
abbrev eM(kd:ao)(w:Int)(p:ao):V:=mark kd Oj (eP w p)
abbrev pM(kd:ao)(b i:V)(s w:Int)(nm:ao)(bare:Bool):V:=mark kd ES (pP b i s w nm bare)
def OY(p:ao):ao:=cd (ag p ".") "" p
def Dh(p:ao):Bool:=ag p "alpha"||ag p "."
def tL(a:ao):Bool:=ag a "fs"||ag a "gs"
def wQ(r:RG):Bool:=ag r.kd "gpr"||ag r.kd "high"||ag r.kd "xmm"
inductive Seg:V->List V->Prop|expr{w p l j kd}(h:Rd w p l)(k:vC kd=ac)(f:lh kd Oj (toks j l)):Seg (eM kd w p) (toks j l)|bare{w p kd}(k:vC kd=ac)(hp:isNm p=ac)(hw:hU w=ac):Seg (pM kd .none .none 1 w p ac) [eM kd w p]|rel{w p kd}(k:vC kd=ac)(hp:Dh p=ac):Seg (mark kd ES (rP w p)) [eM kd w p]|sum{w p kd b i s k j}(k':vC kd=ac)(hp:isNm p=ac)(hw:hU w=ac)(hb:fw b i)(hi:j4 i s)(hk:decide (1<s)=ac->k=ac)(n:(b.isNone&&i.isNone)=ae):Seg (pM kd (m7 b) (m7 i) s w p ae) (eM kd w p::toks j (eD b i s k))|tail{b i s k j}(hb:fw b i)(hi:j4 i s)(hk:decide (1<s)=ac->k=ac)(n:(b.isNone&&i.isNone)=ae):Seg (pM "sign" (m7 b) (m7 i) s 0 "" ae) (toks j (eD b i s k))|LP{r j}(hr:r∈gQ)(hk:wQ r=ac):Seg (mark "register" uq (Af (Aa r.v) 0)) [(TT.r r.nm).tok j]|LS{w p kd j}(k:vC kd=ac)(hp:isNm p=ac):Seg (mark "sign" uq (Af (As w p) 0)) [(TT.s "$").tok j,eM kd w p]|LQ{kd b i s w nm bare}(k:vC kd=ac):Seg (mark kd uq (Af (Gs b i s w 0 "" nm) (cd bare 2 0))) [pM kd b i s w nm bare]|LN{kd b i s w nm bare a j}(k:vC kd=ac)(ha:tL a=ac):Seg (mark "register" uq (Af (Gs b i s w 0 a nm) 0)) [(TT.r a).tok j,(TT.s ":").tok (j+1),pM kd b i s w nm bare]|LO{kd w p}(k:vC kd=ac)(hp:Dh p=ac):Seg (mark kd uq (Af (wI w (OY p)) 3)) [mark kd ES (rP w p)]|uU{r j j'}(hr:r∈gQ)(hk:wQ r=ac):Seg (mark "sign" uq (Af (Aa r.v) 1)) [(TT.s "*").tok j,(TT.r r.nm).tok j']|K0{kd b i s w nm bare j}(k:vC kd=ac):Seg (mark "sign" uq (Af (Gs b i s w 0 "" nm) 1)) [(TT.s "*").tok j,pM kd b i s w nm bare]|KX{kd b i s w nm bare a j j'}(k:vC kd=ac)(ha:tL a=ac):Seg (mark "sign" uq (Af (Gs b i s w 0 a nm) 1)) [(TT.s "*").tok j,(TT.r a).tok j',(TT.s ":").tok (j'+1),pM kd b i s w nm bare]
theorem oV{a:ao}(h:vC a=ac):ag a "end"=ae:=by unfold vC at h;simp only[aZ,aI]at h;rcases h with(rfl|rfl)|rfl<;>rfl
theorem BG(b i:Option RG)(s:Int)(k:Bool)(j:Int):∃l,toks j (eD b i s k)=(TT.s "(").tok j::l:=⟨toks (j+1) ((Uf b++Tb i s k)++[.s ")"]),rfl⟩
theorem np{x:ao}{a:List ao}{j:Int}{l:List V}(h:x∈a):lh "sign" a ((TT.s x).tok j::l):=.tok λz9=>h
theorem zc{x:ao}{a:List ao}{j:Int}{l:List V}:lh "register" a ((TT.r x).tok j::l):=.tok λh=>cy ((show ag "register" "sign"=ac from h))
theorem wk:∀s∈Oj,s∈ES:=λs h=>show s∈Oj++(["("]:List ao)from av _ h
theorem BJ:∀s∈ES,s∈uq:=λs h=>show s∈ES++(["$","*"]:List ao)from av _ h
theorem gg:cZ Seg:=λn p o g h=>by generalize d:mark n p o=m at h;induction h with
 |expr h k f=>(refine fi (bE d) λa c z3=>?_;subst a c z3);exact⟨f,oV k⟩|bare k=>(refine fi (bE d) λa c z3=>?_;subst a c z3);exact⟨.seg wk,oV k⟩|rel k=>(refine fi (bE d) λa c z3=>?_;subst a c z3);exact⟨.seg wk,oV k⟩|sum k=>(refine fi (bE d) λa c z3=>?_;subst a c z3);exact⟨.seg wk,oV k⟩|@tail b i s k j=>(refine fi (bE d) λa c z3=>?_;subst a c z3);refine aQ (BG b i s k j) λl e=>e.symm▸⟨np (.tail _ (.tail _ (.head _))),rfl⟩|LP=>(refine fi (bE d) λa c z3=>?_;subst a c z3);exact⟨zc,rfl⟩|LS=>(refine fi (bE d) λa c z3=>?_;subst a c z3);exact⟨np (.tail _ (.tail _ (.tail _ (.head _)))),rfl⟩|LQ k=>(refine fi (bE d) λa c z3=>?_;subst a c z3);exact⟨.seg BJ,oV k⟩|LN=>(refine fi (bE d) λa c z3=>?_;subst a c z3);exact⟨zc,rfl⟩|LO k=>(refine fi (bE d) λa c z3=>?_;subst a c z3);exact⟨.seg BJ,oV k⟩|uU=>(refine fi (bE d) λa c z3=>?_;subst a c z3);exact⟨np (.tail _ (.tail _ (.tail _ (.tail _ (.head _))))),rfl⟩|K0=>(refine fi (bE d) λa c z3=>?_;subst a c z3);exact⟨np (.tail _ (.tail _ (.tail _ (.tail _ (.head _))))),rfl⟩|KX=>(refine fi (bE d) λa c z3=>?_;(clear d;subst a c z3));exact⟨np (.tail _ (.tail _ (.tail _ (.tail _ (.head _))))),rfl⟩
theorem il.drop{l ts:List V}(h:il Seg l ts):∀{a is:List V},l=a++is->is≠[]->∃g,il Seg is g:=by induction h with
 |rest=>intro a is e c;induction a using ai with
  |nil=>dsimp only[ed]at e;refine e▸⟨_,.rest⟩|cons x a=>injection e with _ e;exact absurd (List.append_eq_nil_iff.mp e.symm).2 c
 |tok i d f=>intro a is e c;induction a using ai with
  |nil=>dsimp only[ed]at e;refine e▸⟨_,.tok i d⟩|cons x a=>injection e with _ e;exact f e c
 |@seg m o n b k ts j d f=>intro a is e c;induction a using ai with
  |nil=>dsimp only[ed]at e;refine e▸⟨_,.seg j d⟩|cons x a=>injection e with _ e;exact f (a:=b++a) (by rw[a0];exact congrArg (b++·) e) c
noncomputable def wj(f:ao->ao->Bool)(is:List V):Bool:=match is with
 |[]=>ae|it::_=>match it with
  |.inst _ [(_,.str k),(_,.str x),(_,_),(_,_)]=>f k x|_=>ae
def GP(k x:ao):Bool:=ag k "end"||(ag k "sign"&&ag x ",")
def MA(k x:ao):Bool:=GP k x||(ag k "sign"&&ag x "(")
theorem qQ{f:ao->ao->Bool}{is ts:List V}(h:il Seg is ts)(b:wj f is=ac):∃k x w C fs a,is=tk k x w (.inst C fs)::a/\f k x=ac:=by induction h using il.casesOn with
 |rest=>exact cy b|tok _ _=>exact Op _ _ _ _ _ _ ⟨rfl,b⟩|seg=>exact cy b
def SY{α:Type}(t:ao)(f:List V->Option α)(v:V):Option α:=match v with
 |.tup l=>(match l with
  |[]=>ak|a::r=>(match dX a with
   |aa s=>cd (ag s t) (f r) ak|ak=>ak))|_=>ak
def PR:V->Option (Int×ao):=SY "E" λr=>match r with
 |[.int w,.str p]=>aa (w,p)|_=>ak
noncomputable def S3(l:List V):Option V:=match l with
 |[_,_,pl]=>aa pl|_=>ak
def tz(args:List Arg)(M:V->List V->List Arg->Prop):Prop:=kQ args λc it is as=>fM it (λz9 z9 z9 z9=>False) λl=>wp (S3 l) λpl=>M pl is as
def uV:aS:=λlf args Q z9=>gd (!lf) (tz args λpl is as=>gd as.isEmpty (wp (PR pl) λp=>gd (wj MA is) (∀C fs,mM p.1 p.2 (.inst C fs)->Q (cur is) (.v (.inst C fs)))))
def yi:aS:=λlf args Q z9=>gd (!lf) (∃t w p,args=[.v t,.v cu,.v (.str ".")]/\mM w p t/\Q [] (.v (EF w p)))
section
variable{K:bt}{w:aJ}{lf:Bool}{args:List Arg}{Q:Cs->b0->Prop}{X:aq->Prop}
theorem mG{M:V->List V->List Arg->Prop}(h:tz args M):∃l is b a,args=.c (.ch (.lst (.tup l::is)))::b/\S3 l=aa a/\M a is b:=by refine xW h λp e h=>?_;have g:=curA_eq e;obtain⟨c,b⟩:=p;induction c using ai with
 |nil=>exact h.elim|cons d is=>
  refine xG h λf h=>?_;have :∃l,d=.tup l/\wp (S3 l) λa=>M a is b:=by induction d using V.casesOn with
   |tup l=>exact⟨l,rfl,h⟩|inst C i=>exfalso;revert h;dsimp only[fM];induction De (.inst C i)with
    |some p=>exact id|none=>exact id
   |_=>exact h.elim
  (refine aE this λl f h=>?_;subst f);refine xW h λa e h=>mS l is b a ⟨g,e,h⟩
theorem tG{sp:Spec}{f:aq}{l is:List V}{j:List Arg}{d:V}(e:S3 l=aa d)(p:args=.c (.ch (.lst (.tup l::is)))::j)(H:∀c g items ts,.tup l=mark c g d->Seg (mark c g d) items->il Seg (items++is) ts->sp lf f (.c (.ch (.lst (items++is)))::j) Q X):I7 (Sm Seg) sp lf f args Q X:=λi h=>by rw[p]at h;cases h with|mk B k s t u=>subst s;clear p;obtain⟨C,rfl,q⟩:=t;(refine fY q λb ts o A v=>?_;(clear q;subst A));generalize a:V.tup l=D at o;cases o with
 |rest=>cases a|tok=>cases a|@seg c g n items y z x r=>
  have m:n=d:=by injection a with a;rw[a]at e;injection e
  clear e;subst m;exact⟨.c (.ch (.lst (items++is)))::j,bl.mk (.c (cJ (b++ts) b.length)) k rfl ⟨_,rfl,b,ts,r,rfl,v⟩ u,H c g items ts a x r⟩
theorem B8{b:ao}{n:List ao}{c:V}{items:List V}{p:Int×ao}(i:Seg (mark b n c) items)(e:PR c=aa p):∃l j,Rd p.1 p.2 l/\items=toks j l:=by generalize a:mark b n c=m at i;induction i with
 |@expr w q l j b h k f=>(refine fi (bE a) λd g z3=>?_;(clear k f;subst d g z3));(injection e with e;subst e);exact cM l j ⟨h,rfl⟩|_=>(refine fi (bE a) λd g z3=>?_;(clear a;subst d g z3));exact bn e
noncomputable def My:V->Bool
 |.inst _ _=>ac|_=>ae
theorem zI(a b:Int):((nH a b).all λh=>My h.tree)=ac:=by kernel_rfl
theorem BL{k x:ao}{w:V}{C:aq}{fs:Vs}(h:MA k x=ac):∃c w0 a b,tk k x w (.inst C fs)∈wm c w0 a b C fs:=by
 unfold MA GP at h;simp only[aZ,af,aI]at h;rcases h with(rfl|⟨rfl,rfl⟩)|⟨rfl,rfl⟩;·exact mS x w w w (.tail _ (.head _))
 ·exact mS "" w w w (.head _)
 ·exact mS "" w w w (.tail _ (.tail _ (.head _)))
theorem Nt(h:uV lf args Q X):I7 (Sm Seg) (aN pg (bM l0) 12) lf 348 args Q X:=by
 refine bB (bK h) λB F=>?_;clear h;subst B;refine pt (mG F) λl L R U t m h=>xG h λE h=>xW h λp n h=>xG h λf h=>tG m t λS V r W z9 y v=>?_;(refine c8 (B8 y n) λT j J s=>?_;(clear y;subst s));have g:L≠[]:=λz=>by replace f:=z▸f;exact cy f
 refine aQ (v.drop rfl g) λM e=>?_;(refine AW (qQ e f) λk x w C fs d s H=>?_;(clear t f v g e;subst s));refine xM (BL (w:=w) (C:=C) (fs:=fs) H) λP w0 N O I=>(aX.mp E).symm▸?_;induction J with|mk a b i c G m n D=>subst m;have st:=congrFun (congrFun (jy (f:=Py j d) (g:=Px d) (Pw a b j d P w0 N O C fs) i c _ I) Q) X;refine bA st ?_;have q:=am.mp (zI a b) i c;show Q _ (.v i.tree);cases u:i.tree with
 |inst A o=>exact h A o ⟨a,b,i,c,G,u,n,D⟩|_=>replace q:=u▸q;exact cy q
theorem Em(h:yi lf args Q X):aN pg nt 8 lf 503 args Q X:=by refine bB (bK h) λf d=>kB d λt w p e m k=>?_;clear h;subst f;clear d;subst e;obtain⟨a,b,n,c,l,g,i,j⟩:=m;subst g;subst i;subst j;exact bA (congrFun (congrFun (aH.mp (Rp a b) n c) Q) X) (aB l k)
theorem tZ(a:bo pg K w):bq K w (Sm Seg) 348 uV 32:=(lx ci ((gu a gg).run a ci 12)).pick (by decide) λlf c args Q X b=>bB b λe z=>by subst e;exact Nt z
theorem zg(a:bo pg K w):bq K w (Sm Seg) 503 yi 16:=bq.run a 8 (by decide) λz9 z9 z9 z9=>Em
end
def wE:aS:=λlf args Q z9=>gd (!lf) (∃r,args=[.v (.str (RG.nm r))]/\r∈gQ/\Q [] (.v r.v))
def lB:List (aq×aS):=(1137,wE)::l0
def VG(b i:Option RG)(s:Int)(k:Bool)(args:List Arg)(Q:Cs->b0->Prop):Prop:=∃j rest,args=[.c (.ch (.lst (toks j (eD b i s k)++rest))),.v cu]/\fw b i/\j4 i s/\(decide (1<s)=ac->k=ac)/\Q (cur rest) (.v (.tup [m7 b,m7 i,.int s]))
def Cn:aS:=λlf args Q z9=>gd (!lf) ((∃r,VG (aa r) ak 1 ac args Q)\/(∃i s k,VG ak (aa i) s k args Q)\/∃r i s k,VG (aa r) (aa i) s k args Q)
structure BE where
 b:Option RG
 i:Option RG
 s:Int
 k:Bool
noncomputable def VC(b i:RG)(s:Int):List BE:=[⟨aa b,ak,1,ac⟩,⟨ak,aa i,s,ae⟩,⟨ak,aa i,s,ac⟩,⟨aa b,aa i,s,ae⟩,⟨aa b,aa i,s,ac⟩]
def VF(j:Int)(rest:List V)(e:BE):Go:=aN pg (bM lB) 14 ae 1247 [.c (.ch (.lst (toks j (eD e.b e.i e.s e.k)++rest))),.v cu]
def Ug(o:Option RG)(A:V->Prop):Prop:=match o with
 |ak=>A .none|aa q=>∃r,[Arg.v (.str q.nm)]=[.v (.str (RG.nm r))]/\r∈gQ/\A r.v
def atK(v:V)(A:Prop):Prop:=∀C fs,v=.inst C fs->A
def VE(j:Int)(rest:List V)(e:BE):Go:=λQ X=>atK (kN j) (Ug e.b λvb=>Ug e.i λvi=>match e.i.isSome&&e.k with
 |ac=>atK (kN (cd e.b.isSome (j+1+1+1+1+1) (j+1+1+1+1))) (br (!EU e.s [1,2,4,8]) (X 87) (Q (cur rest) (.v (.tup [vb,vi,.int e.s]))))|ae=>Q (cur rest) (.v (.tup [vb,vi,.int 1])))
theorem R7(j:Int)(a:List V)(b i:RG)(s:Int):(VC b i s).map (VF j a)=(VC b i s).map (VE j a):=by kernel_rfl
section
variable{K:bt}{w:aJ}{lf:Bool}{args:List Arg}{Q:Cs->b0->Prop}{X:aq->Prop}
theorem zs(h:wE lf args Q X):aN pg nt 8 lf 1137 args Q X:=by refine bB (bK h) λb a=>cz a λr e d c=>?_;clear h;subst b;clear a;subst e;exact bA (congrFun (congrFun (aH.mp Hb r d) Q) X) c
theorem QH(a:bo pg K w):iE K w (Sm Seg) 16 lB:=.cons (bq.run a 8 (by decide) λz9 z9 z9 z9=>zs) ((gu a gg).up (by decide))
theorem rH{b i:Option RG}(h:fw b i):∀r,b=aa r->r∈gQ:=λr e=>by induction h with
 |none=>exact bn e|Ue=>(injection e with e;subst e);exact dM (i:=84) (.head _)|Th h=>(injection e with e;subst e);exact h
theorem qt{i:Option RG}{s:Int}(h:j4 i s):∀r,i=aa r->r∈gQ/\Di s=ac:=λr e=>by induction h with
 |none=>exact bn e|ce h b a=>(injection e with e;subst e);exact⟨h,a⟩
theorem Cp{o:Option RG}{A:V->Prop}(h:∀r,o=aa r->r∈gQ)(a:A (m7 o)):Ug o A:=by induction o with
 |none=>exact a|some r=>exact⟨r,rfl,h r rfl,a⟩
theorem Mv{s:Int}(h:Di s=ac):EU s [1,2,4,8]=ac:=by unfold Di at h;simp only[aZ,decide_eq_true_iff]at h;rcases h with((rfl|rfl)|rfl)|rfl<;>rfl
theorem GN{s:Int}(h:Di s=ac)(a:decide (1<s)=ae):s=1:=by unfold Di at h;simp only[aZ,decide_eq_true_iff]at h;have :=of_decide_eq_false a;lia
theorem Ep{b i:Option RG}{s:Int}{k:Bool}{j:Int}{a:List V}(m:fw b i)(f:j4 i s)(o:decide (1<s)=ac->k=ac)(c:∃d g l,(⟨b,i,s,k⟩:BE)∈VC d g l)(h:Q (cur a) (.v (.tup [m7 b,m7 i,.int s]))):aN pg (bM lB) 14 ae 1247 [.c (.ch (.lst (toks j (eD b i s k)++a))),.v cu] Q X:=by obtain⟨d,g,l,c⟩:=c;refine bA (congrFun (congrFun (aH.mp (R7 j a d g l) _ c) Q) X) ?_;refineλz9 z9 z9=>Cp (rH m) (Cp (λr e=>(qt f r e).1) ?_);dsimp only;clear m c;induction i with
 |none=>cases f;exact h|some i=>have n:=(qt f i rfl).2;induction k with
  |true=>exactλz9 z9 z9=>dO (by refine(Mv n).symm▸rfl) h
  |false=>have :s=1:=GN n (by induction e:decide (1<s)with
   |false=>rfl|true=>exact cy (o e));replace h:=this▸h;exact h
theorem Nx(h:Cn lf args Q X):aN pg (bM lB) 14 lf 1247 args Q X:=by
 refine bB (bK h) λf g=>?_;clear h;subst f;rcases g with⟨r,j,a,e,c,d,b,h⟩|⟨i,s,k,j,a,e,c,d,b,h⟩|⟨r,i,s,k,j,a,e,c,d,b,h⟩;·subst e;exact Ep c d b (dB r r 0 (.head _)) h
 ·subst e;refine Ep c d b (dB i i s ?_) h;induction k with
  |false=>exact .tail _ (.head _)|true=>exact .tail _ (.tail _ (.head _))
 ·subst e;refine Ep c d b (dB r i s ?_) h;clear b;induction k with
  |false=>exact .tail _ (.tail _ (.tail _ (.head _)))|true=>exact .tail _ (.tail _ (.tail _ (.tail _ (.head _))))
theorem H4(a:bo pg K w):bq K w (Sm Seg) 1247 Cn 44:=(QH a).fn a ci 14 (by decide) λz9 z9 z9 z9=>Nx
end
def K3:aS:=λlf args Q z9=>gd (!lf) (∃b i s w nm a C fs,args=[.v (hM b i s w 0 a nm),.v (.inst C fs)]/\fw b i/\j4 i s/\hU w=ac/\ek a=ac/\Q [] (.v (hM b i s w 0 a nm)))
structure KE where
 b:Option RG
 i:Option RG
 s:Int
 a:ao
noncomputable def FS:List ao:=["","fs","gs"]
def Tp(nb ni:ao)(b i:Int):List KE:=FS.flatMap λa=>[⟨ak,ak,1,a⟩,⟨aa FZ,ak,1,a⟩,⟨aa (gp nb b 64),ak,1,a⟩]++([ak,aa (gp nb b 64)]:List (Option RG)).flatMap λbb=>([1,2,4,8]:List Int).map λs=>⟨bb,aa (gp ni i 64),s,a⟩
def Vp(w:Int)(nm:ao)(C:aq)(fs:Vs)(e:KE):Go:=aN pg nt 8 ae 1219 [.v (hM e.b e.i e.s w 0 e.a nm),.v (.inst C fs)]
def To(w:Int)(nm:ao)(e:KE):Go:=λQ X=>br (decide (-2147483648<=w)) (br (!decide (w<2147483648)) (X 99) (Q [] (.v (hM e.b e.i e.s w 0 e.a nm)))) (X 99)
def RC(i w:Int)(nm:ao)(e:KE):Go:=λQ X=>match e.i with
 |ak=>To w nm e Q X|aa _=>br (decide (i=4)) (X 99) (To w nm e Q X)
theorem JH(a c:ao)(b i w:Int)(nm:ao)(C:aq)(fs:Vs):(Tp a c b i).map (Vp w nm C fs)=(Tp a c b i).map (RC i w nm):=by kernel_rfl
section
variable{K:bt}{w:aJ}{lf:Bool}{args:List Arg}{Q:Cs->b0->Prop}{X:aq->Prop}
theorem m5{a:ao}(h:ek a=ac):a∈FS:=by
 unfold ek at h;simp only[aZ,aI]at h;rcases h with(rfl|rfl)|rfl;·exact .head _
 ·exact .tail _ (.head _)
 ·exact .tail _ (.tail _ (.head _))
theorem yQ{s:Int}(h:Di s=ac):s∈([1,2,4,8]:List Int):=by
 unfold Di at h;simp only[aZ,decide_eq_true_iff]at h;rcases h with((rfl|rfl)|rfl)|rfl;·exact .head _
 ·exact .tail _ (.head _)
 ·exact .tail _ (.tail _ (.head _))
 ·exact .tail _ (.tail _ (.tail _ (.head _)))
theorem Na{w:Int}{nm:ao}{e:KE}(c:hU w=ac)(h:Q [] (.v (hM e.b e.i e.s w 0 e.a nm))):To w nm e Q X:=by refine bB (bJ.mp c) λa b=>ge a (dO (by refine b.symm▸rfl) h)
theorem RV(h:K3 lf args Q X):aN pg nt 8 lf 1219 args Q X:=by
 obtain⟨t,b,i,s,w,r,a,C,u,e,l,p,v,j,m⟩:=bK h;clear h;subst t;subst e;have k:∃d g f n,(⟨b,i,s,a⟩:KE)∈Tp d g f n/\(i=ak\/decide (n=4)=ae):=by induction p with
  |none=>cases l with
   |none=>exact mS "" "" 0 0 ⟨aC.mpr ⟨a,m5 j,.head _⟩,.inl rfl⟩|Ue=>exact mS "" "" 0 0 ⟨aC.mpr ⟨a,m5 j,.tail _ (.head _)⟩,.inl rfl⟩|@Th d n _ h=>exact mS d "" n 0 ⟨aC.mpr ⟨a,m5 j,.tail _ (.tail _ (.head _))⟩,.inl rfl⟩
  |@ce g n s h c q=>cases l with
   |none=>exact mS "" g 0 n ⟨aC.mpr ⟨a,m5 j,an _ (aC.mpr ⟨ak,.head _,aG.mpr ⟨s,yQ q,rfl⟩⟩)⟩,.inr c⟩|@Th d f _ h=>exact mS d g f n ⟨aC.mpr ⟨a,m5 j,an _ (aC.mpr ⟨aa (gp d f 64),.tail _ (.head _),aG.mpr ⟨s,yQ q,rfl⟩⟩)⟩,.inr c⟩
 refine ut k λd g f n k c=>bA (congrFun (congrFun (aH.mp (JH d g f n w r C u) _ k) Q) X) ?_;have o:To w r ⟨b,i,s,a⟩ Q X:=Na v m;unfold RC;dsimp only;clear l p m k;clear k;induction i with
 |none=>exact o|some i=>
  rcases c with c|c;·exact us c
  ·exact dO c o
theorem M9(a:bo pg K w):bq K w (Sm Seg) 1219 K3 16:=bq.run a 8 (by decide) λz9 z9 z9 z9=>RV
end
def lP:List (aq×aS):=(348,uV)::(503,yi)::(1247,Cn)::(1219,K3)::(1418,qZ)::l0
section
variable(its is:List V)(a:ao)(g:Bool)(C:aq)(fs:Vs)(Q:Cs->b0->Prop)(X:aq->Prop)
def u4:Prop:=aN pg (bM lP) 4 ae 1254 [.c (.ch (.lst its)),.v cu,.v (.str a),.v (.bool g),.v (.inst C fs)] Q X
def Rq(w:Int)(p:ao)(A:Int->ao->Prop):Prop:=∀C' jx,mM w p (.inst C' jx)->∃t w' p',[Arg.v (.inst C' jx),.v cu,.v (.str ".")]=[.v t,.v cu,.v (.str ".")]/\mM w' p' t/\A w' p'
def SV(p:ao)(A:Prop):Prop:=gd (bO p&&bO ".") (br (ag p ".") (X 99) A)
def Vo(b i:Option RG)(s w:Int)(p:ao)(is:List V):Prop:=∃b' i' s' w' vZ a' C' jx,[Arg.v (hM b i s w 0 a p),.v (.inst C fs)]=[.v (hM b' i' s' w' 0 a' vZ),.v (.inst C' jx)]/\fw b' i'/\j4 i' s'/\hU w'=ac/\ek a'=ac/\Q (cur is) (.v (hM b' i' s' w' 0 a' vZ))
def VD(b i:Option RG)(s:Int)(k:Bool)(w:Int)(p:ao):Prop:=∃j rest,[Arg.c (.ch (.lst its)),.v cu]=[.c (.ch (.lst (toks j (eD b i s k)++rest))),.v cu]/\fw b i/\j4 i s/\(decide (1<s)=ac->k=ac)/\Vo a C fs Q b i s w p rest
def Tr(w:Int)(p:ao):Prop:=(∃r,VD its a C fs Q (aa r) ak 1 ac w p)\/(∃i s k,VD its a C fs Q ak (aa i) s k w p)\/∃r i s k,VD its a C fs Q (aa r) (aa i) s k w p
noncomputable def yN:List ao:=["number","sign","name"]
def sn(x:ao)(w w':V)(C:aq)(fs:Vs):List V:=[tk "sign" "," w (.inst C fs),tk "end" x w' (.inst C fs)]
def WX(w:Int)(p:ao)(it:V):Prop:=Rq w p λw' p'=>SV X p' (Vo a C fs Q ak ak 1 w' p' (it::is))
def WW(w:Int)(p:ao)(it:V):Prop:=Rq w p λw' p'=>gd (bO p'&&bO "") (br (ag p' "") (X 99) (gd (bO p'&&bO ".") (br (ag p' ".") (Q (cur (it::is)) (.v (wI w' ""))) (Q (cur (it::is)) (.v (wI w' p'))))))
def WV(w:Int)(p:ao):Prop:=Rq w p λw' p'=>SV X p' (Tr its a C fs Q w' p')
def Gv(j:Int):V:=(TT.s "(").tok j
def TX(j:Int)(x:ao):List V:=[(TT.r x).tok j,(TT.s ",").tok j]
end
section
variable{Q:Cs->b0->Prop}{X:aq->Prop}
theorem Lx(is:List V)(a:ao)(C:aq)(fs:Vs)(w:Int)(p x:ao)(u e:V)(C':aq)(b:Vs):(yN.flatMap λd=>(sn x u e C' b).map λc=>u4 (eM d w p::c::is) a ae C fs Q X)=yN.flatMap λd=>(sn x u e C' b).map λc=>WX is a C fs Q X w p c:=by kernel_rfl
theorem Lw(is:List V)(a:ao)(C:aq)(fs:Vs)(w:Int)(p x:ao)(u e:V)(C':aq)(b:Vs):(yN.flatMap λd=>(sn x u e C' b).map λc=>u4 (eM d w p::c::is) a ac C fs Q X)=yN.flatMap λd=>(sn x u e C' b).map λc=>WW is Q X w p c:=by kernel_rfl
theorem Lv(is:List V)(a:ao)(C:aq)(fs:Vs)(w:Int)(p:ao)(j:Int):(yN.flatMap λb=>[ae,ac].map λg=>u4 (eM b w p::Gv j::is) a g C fs Q X)=yN.flatMap λb=>[ae,ac].map λg=>WV (Gv j::is) a C fs Q X w p:=by kernel_rfl
theorem Lu(is:List V)(a:ao)(C:aq)(fs:Vs)(j:Int)(x:ao):((TX (j+1) x).flatMap λt=>[ae,ac].map λg=>u4 (Gv j::t::is) a g C fs Q X)=(TX (j+1) x).flatMap λt=>[ae,ac].map λg=>Tr (Gv j::t::is) a C fs Q 0 "":=by kernel_rfl
structure PP where
 b:V
 i:V
 s:Int
 w:Int
 nm:ao
 bare:Bool
def Uo:V->Option PP:=SY "P" λr=>match r with
 |[b,i,.int s,.int w,.str nm,.bool c]=>aa ⟨b,i,s,w,nm,c⟩|_=>ak
def Un:V->Option (Int×ao):=SY "R" λr=>match r with
 |[.int w,.str p]=>aa (w,p)|_=>ak
def Um(pl:V)(is:List V)(a:ao)(g:Bool)(Q:Cs->b0->Prop):Prop:=match Uo pl with
 |aa p=>gd (!(p.bare&&g)) (Q (cur is) (.v (Gs p.b p.i p.s p.w 0 a p.nm)))|ak=>wp (Un pl) λr=>gd g (Q (cur is) (.v (wI r.1 (OY r.2))))
def KY:aS:=λlf args Q z9=>gd (!lf) (tz args λpl is as=>∃a g C fs,as=[.v cu,.v (.str a),.v (.bool g),.v (.inst C fs)]/\gd (wj GP is&&ek a) (Um pl is a g Q))
theorem t7{w:Int}{p:ao}{A:Int->ao->Prop}(h:A w p):Rq w p A:=λC b a=>(dB _ w p ⟨rfl,a,h⟩)
theorem lE{p:ao}(h:isNm p=ac):bO p=ac/\ag p "."=ae:=by unfold isNm at h;simp only[aZ,aI]at h;rcases h with rfl|rfl<;>exact⟨rfl,rfl⟩
theorem wK{p:ao}{A:Prop}(a:isNm p=ac)(h:A):SV X p A:=aB (by refine((lE a).1).symm▸rfl) (dO (lE a).2 h)
theorem Ee{a:ao}{C:aq}{fs:Vs}{b i:Option RG}{s w:Int}{p:ao}{is:List V}(d:fw b i)(e:j4 i s)(f:hU w=ac)(c:ek a=ac)(h:Q (cur is) (.v (Gs (m7 b) (m7 i) s w 0 a p))):Vo a C fs Q b i s w p is:=⟨b,i,s,w,p,a,C,fs,rfl,d,e,f,c,h⟩
theorem Er{its:List V}{a:ao}{C:aq}{fs:Vs}{b i:Option RG}{s w j:Int}{k:Bool}{p:ao}{is:List V}(e:its=toks j (eD b i s k)++is)(c:fw b i)(d:j4 i s)(g:decide (1<s)=ac->k=ac)(n:(b.isNone&&i.isNone)=ae)(m:hU w=ac)(l:ek a=ac)(h:Q (cur is) (.v (Gs (m7 b) (m7 i) s w 0 a p))):Tr its a C fs Q w p:=by subst e;have f:=λ(C:aq)(fs:Vs)=>Ee (C:=C) (fs:=fs) c d m l h;induction b with
 |none=>induction i with
  |none=>exact mX n|some i=>exact .inr (.inl (Il i s k j is ⟨rfl,c,d,g,f _ _⟩))
 |some r=>clear n;induction i with
  |none=>cases d;exact .inl (dB r j is ⟨rfl,c,.none,(λh=>cy h),f _ _⟩)|some i=>exact .inr (.inr (Op r i s k j is ⟨rfl,c,d,g,f _ _⟩))
theorem gP{a:ao}(h:vC a=ac):a∈yN:=by
 unfold vC at h;simp only[aZ,aI]at h;rcases h with(rfl|rfl)|rfl;·exact .head _
 ·exact .tail _ (.head _)
 ·exact .tail _ (.tail _ (.head _))
theorem vJ(g:Bool):g∈[ae,ac]:=by
 induction g;·exact .head _
 ·exact .tail _ (.head _)
theorem sm{k x:ao}{w:V}{C:aq}{fs:Vs}(h:GP k x=ac):∃b w0 a,tk k x w (.inst C fs)∈sn b w0 a C fs:=by
 unfold GP at h;simp only[aZ,af,aI]at h;rcases h with rfl|⟨rfl,rfl⟩;·exact dB x w w (.tail _ (.head _))
 ·exact dB "" w w (.head _)
theorem uM{b i:Option RG}{s:Int}{k:Bool}{j:Int}(n:(b.isNone&&i.isNone)=ae):∃x t l,t∈TX (j+1) x/\toks j (eD b i s k)=Gv j::t::l:=by induction b with
 |some r=>exact dB r.nm ((TT.r r.nm).tok (j+1)) (toks (j+1+1) (Tb i s k++[.s ")"])) ⟨.head _,rfl⟩|none=>induction i with
  |none=>exact mX n|some i=>exact dB "" ((TT.s ",").tok (j+1)) (toks (j+1+1) (([.r i.nm]++cd k [.s ",",.n s] [])++[.s ")"])) ⟨.tail _ (.head _),rfl⟩
section
variable{lf:Bool}{args:List Arg}
theorem RO(h:KY lf args Q X):I7 (Sm Seg) (aN pg (bM lP) 4) lf 1254 args Q X:=by
 refine bB (bK h) λZ h0=>?_;clear h;subst Z;refine pt (mG h0) λl is as pl P J q=>ut q λa g C fs K h=>xG h λA h=>?_;rw[af]at A;refine tG J P λd ss O ts z9 T R=>K.symm▸?_;have G:is≠[]:=λz=>by rw[z]at A;exact cy A.1
 refine aQ (R.drop rfl G) λTQ E=>?_;(refine AW (qQ E A.1) λI x u y f c q F=>?_;(clear P R G E;subst q));refine pv (sm (w:=u) (C:=y) (fs:=f) F) λW U V S=>?_;generalize o:mark d ss pl=m at T;induction T with
 |@bare w p d r B N=>(refine fi (bE o) λq v z3=>?_;subst q v z3);refine xG (show gd (!g) (Q _ _)from h) λH h=>?_;rw[aL]at H;clear K;subst H;exact bA (jy (f:=λd D=>u4 (eM d w p::D::c) a ae C fs Q X) (g:=λd D=>WX c a C fs Q X w p D) (Lx c a C fs w p W U V y f) d (gP r) _ S) (t7 (wK B (Ee .none .none N A.2 h)))|@rel w p d r B=>
  (refine fi (bE o) λq v z3=>?_;subst q v z3);refine xG (show gd g (Q _ (.v (wI w (OY p))))from h) λH h=>?_;clear K;subst H;refine bA (jy (f:=λd D=>u4 (eM d w p::D::c) a ac C fs Q X) (g:=λd D=>WW c Q X w p D) (Lw c a C fs w p W U V y f) d (gP r) _ S) (t7 ?_);unfold Dh at B;simp only[aZ,aI]at B;rcases B with rfl|rfl;·exact h
  ·exact h|@sum w p d b i s k j r B N L M F n=>(refine fi (bE o) λq v z3=>?_;subst q v z3);have h:Q (cur _) (.v (Gs (m7 b) (m7 i) s w 0 a p)):=h;refine d0 (uM (s:=s) (k:=k) (j:=j) n) λY t l2 z7 e=>?_;have st:=jy (f:=λd g=>u4 (eM d w p::Gv j::((t::l2)++tk I x u (.inst y f)::c)) a g C fs Q X) (g:=λd g=>WV (Gv j::((t::l2)++tk I x u (.inst y f)::c)) a C fs Q X w p) (Lv _ a C fs w p j) d (gP r) g (vJ g);refine List.cons_append.symm▸e.symm▸bA st (t7 (wK B (Er (by rw[e];rfl) L M F n N A.2 h)))|@tail b i s k j L M F n=>(refine fi (bE o) λq v z3=>?_;(clear J;subst q v z3));have h:Q (cur _) (.v (Gs (m7 b) (m7 i) s 0 0 a "")):=h;refine d0 (uM (s:=s) (k:=k) (j:=j) n) λY t l2 ht e=>?_;have st:=jy (f:=λt g=>u4 (Gv j::t::(l2++tk I x u (.inst y f)::c)) a g C fs Q X) (g:=λt g=>Tr (Gv j::t::(l2++tk I x u (.inst y f)::c)) a C fs Q 0 "") (Lu _ a C fs j Y) t ht g (vJ g);refine e.symm▸bA st (Er (by rw[e];rfl) L M F n rfl A.2 h)|_=>(refine fi (bE o) λq v z3=>?_;(clear J o;subst q v z3));exact h.elim
end
end
section
variable{K:bt}{w:aJ}
theorem Qx(a:bo pg K w):iE K w (Sm Seg) 44 lP:=.cons ((tZ a).up (by decide)) (.cons ((zg a).up (by decide)) (.cons (H4 a) (.cons ((M9 a).up (by decide)) (.cons ((rK a gg).up (by decide)) ((gu a gg).up (by decide))))))
theorem Lr(b:bo pg K w):bq K w (Sm Seg) 1254 KY 52:=(lx ci ((Qx b).run b ci 4)).pick (by decide) λf d a Q X c=>bB c λe z=>by subst e;exact RO z
end
def HX(x:ao):Bool:=ag (fV x 1) "j"||(ag (fV x 4) "call"||ag (fV x 4) "loop")
def stN(x:ao):Bool:=ag (fV x 3) "jmp"||ag (fV x 4) "call"
def vX(x:ao):Bool:=aU x.length 1000&&(bO (fV x 1)&&(bO (fV x 3)&&bO (fV x 4)))
def K1:aS:=λlf args Q z9=>wp (p9 args) λx=>gd (vX x) (Q [] (.v (.bool (HX x))))
section
variable{K:bt}{w:aJ}{lf:Bool}{args:List Arg}{Q:Cs->b0->Prop}{X:aq->Prop}
theorem Mt(x:ao):aN pg nt 2 lf 1172 [.v (.str x)] Q X=gd (fits x.length) (gd (bO (fV x 1)&&bO "j") (br (ag (fV x 1) "j") (Q [] (.v (.bool (ag (fV x 1) "j")))) (gd (fits x.length) (gd (bO (fV x 4)&&bO "call") (br (ag (fV x 4) "call") (Q [] (.v (.bool (ag (fV x 4) "call")))) (gd (fits x.length) (gd (bO (fV x 4)&&bO "loop") (Q [] (.v (.bool (ag (fV x 4) "loop"))))))))))):=by kernel_rfl
theorem xT{x:ao}(h:vX x=ac):fits x.length=ac/\bO (fV x 1)=ac/\bO (fV x 3)=ac/\bO (fV x 4)=ac:=by unfold vX at h;simp only[af]at h;exact⟨fits_of (by have :=aj h.1;exact nT ‹_› rfl),h.2⟩
theorem RS(h:K1 lf args Q X):aN pg nt 2 lf 1172 args Q X:=by refine xW h λx e h=>xG h λg h=>N3 (xT g) λf d i c=>?_;rw[strA_eq e,Mt];unfold HX at h;refine aB f (aB (by refine d.symm▸rfl) ?_);induction a:ag (fV x 1) "j"with
 |true=>replace h:=a▸h;exact h|false=>replace h:=a▸h;refine aB f (aB (by refine c.symm▸rfl) ?_);induction b:ag (fV x 4) "call"with
  |true=>replace h:=b▸h;exact h|false=>replace h:=b▸h;exact aB f (aB (by refine c.symm▸rfl) h)
end
def lO:List (aq×aS):=(1254,KY)::(348,uV)::(503,yi)::(1137,wE)::(1172,K1)::l0
section
variable(its is:List V)(word:ao)(Q:Cs->b0->Prop)(X:aq->Prop)
def u8:Prop:=aN pg (bM lO) 4 ae 1261 [.c (.ch (.lst its)),.v cu,.v (.str word)] Q X
def Xp(nm:ao)(A:RG->Prop):Prop:=∃r:RG,[Arg.v (.str nm)]=[.v (.str r.nm)]/\r∈gQ/\A r
def F1(nm:ao)(A:RG->Prop):Prop:=Xp nm λr=>gd (bO r.kd&&bO "rip") (br (ag r.kd "rip") (X 87) (A r))
def PK(pl:V)(a:ao)(g:Bool)(C:aq)(fs:Vs)(is:List V):Prop:=∃a' g' C' jx,[Arg.v cu,.v (.str a),.v (.bool g),.v (.inst C fs)]=[.v cu,.v (.str a'),.v (.bool g'),.v (.inst C' jx)]/\gd (wj GP is&&ek a') (Um pl is a' g' Q)
def T6(nm:ao)(pl:V)(C:aq)(fs:Vs)(is:List V):Prop:=F1 X nm λr=>gd (bO r.kd&&bO "segment") (br (!ag r.kd "segment") (gd (fits (("no segment ":ao).length+r.nm.length)) (X 87)) (PK Q pl r.nm ae C fs is))
def yc(A:Prop):Prop:=gd (fits word.length) (gd (bO (fV word 3)&&bO "jmp") (br (!ag (fV word 3) "jmp") (gd (fits word.length) (gd (bO (fV word 4)&&bO "call") (br (!ag (fV word 4) "call") (gd (fits (("a star behind ":ao).length+word.length)) (X 87)) A))) A))
def atC(v:V)(A:aq->Vs->Prop):Prop:=∀C fs,v=.inst C fs->A C fs
def WU(b i:V)(s w:Int)(nm:ao):List V:=[pP b i s w nm ae,pP b i s w nm ac,rP w nm]
def o1(j:Int)(nm:ao)(it:V):Prop:=atC (kN j) λC fs=>gd (vX word) (F1 X nm λr=>Q (cur (it::is)) (.v (Aa r.v)))
def o2(j w:Int)(p:ao)(it:V):Prop:=atC (kN j) λC fs=>Rq w p λw p=>SV X p (Q (cur (it::is)) (.v (As w p)))
def SX(A:Prop):Prop:=∀(x:ao)(w:V)(C:aq)(fs:Vs),A
def o3(pl:V):Prop:=∀C fs,gd (vX word) (SX (PK Q pl "" (HX word) C fs is))
def o4(j:Int)(a:ao)(pl:V):Prop:=atC (kN j) λC fs=>gd (vX word) (T6 Q X a pl C fs is)
def o5(j:Int)(nm:ao)(it:V):Prop:=atC (kN j) λC fs=>gd (vX word) (yc word X (F1 X nm λr=>Q (cur (it::is)) (.v (Aa r.v))))
def o6(j:Int)(pl:V):Prop:=atC (kN j) λC fs=>gd (vX word) (yc word X (SX (PK Q pl "" ae C fs is)))
def o7(j:Int)(a:ao)(pl:V):Prop:=atC (kN j) λC fs=>gd (vX word) (yc word X (T6 Q X a pl C fs is))
end
section
variable{Q:Cs->b0->Prop}{X:aq->Prop}
def oA(is:List V)(word:ao)(Q:Cs->b0->Prop)(X:aq->Prop)(x:ao)(u u':V)(C':aq)(jx:Vs)(j j' w:Int)(nm p:ao):List (Prop×Prop):=(sn x u u' C' jx).flatMap λit=>[(u8 ((TT.r nm).tok j::it::is) word Q X,o1 is word Q X j nm it),(u8 ((TT.s "*").tok j::(TT.r nm).tok j'::it::is) word Q X,o5 is word Q X j nm it)]++yN.map λkd=>(u8 ((TT.s "$").tok j::eM kd w p::it::is) word Q X,o2 is Q X j w p it)
def oB(is:List V)(word:ao)(Q:Cs->b0->Prop)(X:aq->Prop)(j j' Yq w s:Int)(a nm:ao)(b i:V):List (Prop×Prop):=yN.flatMap λkd=>(WU b i s w nm).flatMap λpl=>[(u8 (mark kd ES pl::is) word Q X,o3 is word Q pl),(u8 ((TT.r a).tok j::(TT.s ":").tok j'::mark kd ES pl::is) word Q X,o4 is word Q X j a pl),(u8 ((TT.s "*").tok j::mark kd ES pl::is) word Q X,o6 is word Q X j pl),(u8 ((TT.s "*").tok j::(TT.r a).tok j'::(TT.s ":").tok Yq::mark kd ES pl::is) word Q X,o7 is word Q X j a pl)]
theorem P5(is:List V)(word:ao)(x:ao)(u b:V)(C':aq)(a:Vs)(j j' w:Int)(nm p:ao):(oA is word Q X x u b C' a j j' w nm p).map (·.1)=(oA is word Q X x u b C' a j j' w nm p).map (·.2):=by kernel_rfl
theorem P4(is:List V)(word:ao)(j j' c w s:Int)(a nm:ao)(b i:V):(oB is word Q X j j' c w s a nm b i).map (·.1)=(oB is word Q X j j' c w s a nm b i).map (·.2):=by kernel_rfl
theorem f4{l:List (Prop×Prop)}(h:l.map (·.1)=l.map (·.2)){A B:Prop}(a:(A,B)∈l)(b:B):A:=bA (aH.mp h _ a) b
def Up:V->Option (V×Int):=SY "O" λr=>match r with
 |[o,.int c]=>aa (o,c)|_=>ak
def ii(c:Int)(x:ao):Bool:=cd (decide (c=0)) ac (cd (decide (c=1)) (stN x) (cd (decide (c=2)) (!HX x) (HX x)))
def Cf:aS:=λlf args Q z9=>gd (!lf) (tz args λpl is as=>∃word,as=[.v cu,.v (.str word)]/\gd (wj GP is&&vX word) (wp (Up pl) λp=>gd (ii p.2 word) (Q (cur is) (.v p.1))))
theorem MQ{r:RG}{A:RG->Prop}(a:r∈gQ)(h:A r):Xp r.nm A:=⟨r,rfl,a,h⟩
theorem CG{r:RG}(h:wQ r=ac):bO r.kd=ac/\ag r.kd "rip"=ae:=by unfold wQ at h;simp only[aZ,aI]at h;rcases h with(h|h)|h<;>refine h.symm▸?_<;>exact⟨rfl,rfl⟩
theorem yl{r:RG}{A:RG->Prop}(b:r∈gQ)(a:wQ r=ac)(h:A r):F1 X r.nm A:=MQ b (aB (by refine((CG a).1).symm▸rfl) (dO (CG a).2 h))
noncomputable def Y2:RG:=⟨"fs","segment",4,16⟩
noncomputable def YZ:RG:=⟨"gs","segment",5,16⟩
theorem BW{a:ao}{c:V}{C:aq}{fs:Vs}{is:List V}(b:tL a=ac)(h:PK Q c a ae C fs is):T6 Q X a c C fs is:=by
 unfold tL at b;simp only[aZ,aI]at b;rcases b with rfl|rfl;·exact⟨Y2,rfl,dM (i:=85) (.head _),aB rfl (dO rfl (aB rfl (dO rfl h)))⟩
 ·exact⟨YZ,rfl,dM (i:=86) (.head _),aB rfl (dO rfl (aB rfl (dO rfl h)))⟩
theorem qS{word:ao}{A:Prop}(e:vX word=ac)(a:stN word=ac)(h:A):yc word X A:=by refine N3 (xT e) λf z3 c d=>?_;unfold stN at a;refine aB f (aB (by refine c.symm▸rfl) ?_);induction b:ag (fV word 3) "jmp"with
 |true=>exact h|false=>rw[b,fL]at a;exact aB f (aB (by refine d.symm▸rfl) (dO (by refine a.symm▸rfl) h))
theorem q9{b:V}{a:ao}{g:Bool}{C:aq}{fs:Vs}{is:List V}(d:wj GP is=ac)(c:ek a=ac)(h:Um b is a g Q):PK Q b a g C fs is:=(mS a g C fs ⟨rfl,aB (by refine d.symm▸c.symm▸rfl) h⟩)
theorem vn{a:ao}(h:tL a=ac):ek a=ac:=by unfold tL at h;unfold ek;rw[Bool.or_assoc,h,Bool.or_true]
theorem qp(b i:V)(s w:Int)(nm:ao)(c:Bool):pP b i s w nm c∈WU b i s w nm:=by
 induction c;·exact .head _
 ·exact .tail _ (.head _)
section
variable{lf:Bool}{args:List Arg}
theorem Nl(h:Cf lf args Q X):I7 (Sm Seg) (aN pg (bM lO) 4) lf 1261 args Q X:=by
 refine bB (bK h) λW Z=>?_;clear h;subst W;refine pt (mG Z) λl is as pl P D g=>aE g λo Y h=>xG h λk h=>?_;rw[af]at k;refine xW h λp d h=>xG h λn h=>tG D P λt ss H ts z9 T R=>Y.symm▸?_;have K:is≠[]:=λz=>by rw[z]at k;exact cy k.1
 refine aQ (R.drop rfl K) λTQ I=>?_;(refine AW (qQ I k.1) λU x u L y G g hk=>?_;(clear P R K I;subst g));refine pv (sm (w:=u) (C:=L) (fs:=y) hk) λx' u0 u1 M=>?_;show u8 (H++tk U x u (.inst L y)::G) o Q X;have A:=λ(j E w:Int)(q p:ao)=>P5 (Q:=Q) (X:=X) G o x' u0 u1 L y j E w q p;have B:=λ(j E O w s:Int)(a q:ao)(b i:V)=>P4 (Q:=Q) (X:=X) (tk U x u (.inst L y)::G) o j E O w s a q b i;generalize f:mark t ss pl=m at T;induction T with
 |@LP r j N F=>(refine fi (bE f) λg z3 z4=>?_;(clear D;subst g z3 z4));(injection d with d;subst d);exact f4 (A j 0 0 r.nm "") (aC.mpr ⟨_,M,.head _⟩) λC fs z9=>aB k.2 (yl N F h)|@LS w p t j e S=>(refine fi (bE f) λg v z3=>?_;(clear D;subst g v z3));(injection d with d;subst d);exact f4 (A j 0 w "" p) (aC.mpr ⟨_,M,an _ (aG.mpr ⟨t,gP e,rfl⟩)⟩) λC fs z9=>t7 (wK S h)|@LQ t b i s w q c e=>(refine fi (bE f) λg v z3=>?_;subst g v z3);(injection d with d;subst d);refine f4 (B 0 0 0 w s "" q b i) (aC.mpr ⟨t,gP e,aC.mpr ⟨_,qp b i s w q c,.head _⟩⟩) λC fs=>aB k.2 λz9 z9 z9 z9=>q9 k.1 rfl ?_;induction c with
  |false=>exact aB rfl h|true=>have n:(!HX o)=ac:=n;exact aB n h
 |@LN t b i s w q c a j e J=>(refine fi (bE f) λg z3 z4=>?_;(clear D;subst g z3 z4));(injection d with d;subst d);refine f4 (B j (j+1) 0 w s a q b i) (aC.mpr ⟨t,gP e,aC.mpr ⟨_,qp b i s w q c,.tail _ (.head _)⟩⟩) λC fs z9=>aB k.2 (BW J (q9 k.1 (vn J) ?_));induction c<;>exact aB rfl h|@LO t w p e S=>(refine fi (bE f) λg v z3=>?_;subst g v z3);(injection d with d;subst d);refine f4 (B 0 0 0 w 0 "" p .none .none) (aC.mpr ⟨t,gP e,aC.mpr ⟨rP w p,.tail _ (.tail _ (.head _)),.head _⟩⟩) λC fs=>aB k.2 λz9 z9 z9 z9=>q9 k.1 rfl ?_;have n:HX o=ac:=n;exact aB n h|@uU r j E N F=>(refine fi (bE f) λg v z3=>?_;(clear D;subst g v z3));(injection d with d;subst d);exact f4 (A j E 0 r.nm "") (aC.mpr ⟨_,M,.tail _ (.head _)⟩) λC fs z9=>aB k.2 (qS k.2 n (yl N F h))|@K0 t b i s w q c j e=>(refine fi (bE f) λg v z3=>?_;(clear D;subst g v z3));(injection d with d;subst d);refine f4 (B j 0 0 w s "" q b i) (aC.mpr ⟨t,gP e,aC.mpr ⟨_,qp b i s w q c,.tail _ (.tail _ (.head _))⟩⟩) λC fs z9=>aB k.2 (qS k.2 n λz9 z9 z9 z9=>q9 k.1 rfl ?_);induction c<;>exact aB rfl h|@KX t b i s w q c a j E e J=>(refine fi (bE f) λg v z3=>?_;(clear D;subst g v z3));cases d;refine f4 (B j E (E+1) w s a q b i) (aC.mpr ⟨t,gP e,aC.mpr ⟨_,qp b i s w q c,.tail _ (.tail _ (.tail _ (.head _)))⟩⟩) λC fs z9=>aB k.2 (qS k.2 n (BW J (q9 k.1 (vn J) ?_)));induction c<;>exact aB rfl h|_=>(refine fi (bE f) λg v z3=>?_;(clear D f;subst g v z3));exact bn d
end
end
section
variable{K:bt}{w:aJ}
theorem Mu(a:bo pg K w):bq K w (Sm Seg) 1172 K1 4:=bq.run a 2 (by decide) λz9 z9 z9 z9=>RS
theorem Qy(a:bo pg K w):iE K w (Sm Seg) 52 lO:=.cons (Lr a) (.cons ((tZ a).up (by decide)) (.cons ((zg a).up (by decide)) (.cons (bq.run a 8 (by decide) λz9 z9 z9 z9=>zs) (.cons ((Mu a).up (by decide)) ((gu a gg).up (by decide))))))
theorem Gd(b:bo pg K w):bq K w (Sm Seg) 1261 Cf 60:=(lx ci ((Qy b).run b ci 4)).pick (by decide) λf d a Q X c=>bB c λe z=>by subst e;exact Nl z
end
structure OM where
 kd:ao
 C:aq
 fs:Vs
 c:Int
noncomputable def OM.v(o:OM):V:=.inst o.C o.fs
def OM.m(o:OM):V:=mark o.kd uq (Af o.v o.c)
structure EN where
 x:ao
 w:V
 C:aq
 fs:Vs
def EN.t(e:EN):V:=tk "end" e.x e.w (.inst e.C e.fs)
def ju(j:Nat->Int)(e:EN)(rest:List V):List OM->List V
 |[]=>e.t::rest|a::l=>a.m::match l with
  |[]=>e.t::rest|b::l'=>(TT.s ",").tok (j l'.length)::ju j e rest (b::l')
def lR:List (aq×aS):=(1261,Cf)::l0
section
variable(j:Nat->Int)(e:EN)(rest:List V)(word:ao)(Q:Cs->b0->Prop)(X:aq->Prop)
def I0(os:List OM):Prop:=aN pg (bM lR) 3 ae 1268 [.c (.ch (.lst (ju j e rest os))),.v cu,.v (.str word)] Q X
def WY(o:OM)(is:List V)(A:Prop):Prop:=∃sh,[Arg.v cu,.v (.str word)]=[.v cu,.v (.str sh)]/\gd (wj GP is&&vX sh) (gd (ii o.c sh) A)
def LK:List OM->Prop->Prop
 |[],A=>A|a::l,A=>match l with
  |[]=>WY word a (e.t::rest) A|b::l'=>WY word a ((TT.s ",").tok (j l'.length)::ju j e rest (b::l')) (LK (b::l') A)
def IZ(os:List OM):Prop:=LK j e rest word os (Q (cur (e.t::rest)) (.v (.lst (os.map OM.v))))
noncomputable def PW(a b c:OM):List (List OM):=[[],[a],[a,b],[a,b,c]]
def WQ(a b c:OM):List (Prop×Prop):=(PW a b c).map λos=>(I0 j e rest word Q X os,IZ j e rest word Q os)
theorem Po(a b c:OM):(WQ j e rest word Q X a b c).map (·.1)=(WQ j e rest word Q X a b c).map (·.2):=by kernel_rfl
end
def KZ:aS:=λlf args Q z9=>gd (!lf) (∃j e rest word os,args=[.c (.ch (.lst (ju j e rest os))),.v cu,.v (.str word)]/\gd (vX word&&(aU os.length 3&&os.all λo=>ii o.c word)) (Q (cur (e.t::rest)) (.v (.lst (os.map OM.v)))))
section
variable{K:bt}{w:aJ}{lf:Bool}{args:List Arg}{Q:Cs->b0->Prop}{X:aq->Prop}
theorem yz{j:Nat->Int}{e:EN}{c:List V}{word:ao}{A:Prop}(f:vX word=ac)(d:A):∀{os:List OM},(os.all λo=>ii o.c word)=ac->LK j e c word os A
 |[],_=>d|a::l,h=>by rw[cn,af]at h;induction l using ai with
  |nil=>exact⟨word,rfl,aB (by rw[f];rfl) (aB h.1 d)⟩|cons b l=>exact⟨word,rfl,aB (by rw[f];rfl) (aB h.1 (yz f d h.2))⟩
theorem CD{os:List OM}(h:os.length<=3):∃a b c,os∈PW a b c:=by have d:OM:=⟨"",0,[],0⟩;induction os using ai with
 |nil=>exact dB d d d (.head _)|cons a l=>induction l using ai with
  |nil=>exact dB a d d (.tail _ (.head _))|cons b l=>induction l using ai with
   |nil=>exact dB a b d (.tail _ (.tail _ (.head _)))|cons c l=>induction l using ai with
    |nil=>exact dB a b c (.tail _ (.tail _ (.tail _ (.head _))))|cons=>exact absurd (show _+4<=3from h) (by lia)
theorem RP(h:KZ lf args Q X):aN pg (bM lR) 3 lf 1268 args Q X:=by refine bB (bK h) λk i=>Oq i λj e d f os l m=>?_;clear h;subst k;clear i;subst l;refine xG m λg h=>?_;simp only[af]at g;refine pv (CD (aj g.2.1)) λa b c n=>f4 (A:=I0 j e d f Q X os) (B:=IZ j e d f Q os) (Po j e d f Q X a b c) (aG.mpr ⟨os,n,rfl⟩) (yz g.1 h g.2.2)
theorem Qt(a:bo pg K w):iE K w (Sm Seg) 60 lR:=.cons (Gd a) ((gu a gg).up (by decide))
theorem LJ(a:bo pg K w):bq K w (Sm Seg) 1268 KZ 66:=(Qt a).fn a ci 3 (by decide) λz9 z9 z9 z9=>RP
end
def lH:List (aq×aS):=(649,FX)::l0
noncomputable def m9:List ao:=["lock","rep","repe","repz","repne","repnz"]
def tR(ic w:ao)(C:aq)(fs:Vs):V:=sI ic w (.inst C fs)
def mb(w:ao):Bool:=aU w.length 1000&&(bO w&&ag (fg w) w)
def Of(args:List Arg)(A:List V->ao->ao->aq->Vs->Prop)(E:Prop):Prop:=(∃j w it is,args=[.c (.ch (.lst ((TT.m w).tok j::it::is)))]/\(mb w&&!dK w m9)=ac/\((∃kd pl,it=mark kd uq pl)\/∃e:EN,it=e.t)/\∀C fs,A (it::is) "" w C fs)\/(∃j j' p w is,args=[.c (.ch (.lst ((TT.m p).tok j::(TT.m w).tok j'::is)))]/\(mb p&&(dK p m9&&(nz p&&mb w)))=ac/\br (dK w m9) E (∀C fs,A is (gb p) w C fs))
def Cj:aS:=λlf args Q X=>gd (!lf) (Of args (λis ic w C fs=>Q (cur is) (.v (tR ic w C fs))) (X 87))
section
variable(is:List V)(Q:Cs->b0->Prop)(X:aq->Prop)
def Au(its:List V):Prop:=aN pg (bM lH) 2 ae 1198 [.c (.ch (.lst its))] Q X
def QT(x:ao)(A B:Prop):Prop:=gd (fits x.length) (gd (bO (fg x)&&(iU m9).all wP) (br ((iU m9).any (dj (fg x))) A B))
def MI(j:Int)(w:ao)(it:V):Prop:=atC (kN j) λC fs=>QT w (gd (nz (fg w)) False) (Q (cur (it::is)) (.v (tR "" (fg w) C fs)))
def U3(j j':Int)(p w:ao):Prop:=atC (kN j) λC fs=>QT p (gd (nz (fg p)) (QT w (X 87) (Q (cur is) (.v (tR (gb (fg p)) (fg w) C fs))))) (Q (cur ((TT.m w).tok j'::is)) (.v (tR "" (fg p) C fs)))
def Xk(j j':Int)(p w kd:ao)(pl:V)(e:EN):List (Prop×Prop):=[(Au Q X ((TT.m w).tok j::mark kd uq pl::is),MI is Q j w (mark kd uq pl)),(Au Q X ((TT.m w).tok j::e.t::is),MI is Q j w e.t),(Au Q X ((TT.m p).tok j::(TT.m w).tok j'::is),U3 is Q X j j' p w)]
theorem DE(j j':Int)(p w a:ao)(b:V)(e:EN):(Xk is Q X j j' p w a b e).map (·.1)=(Xk is Q X j j' p w a b e).map (·.2):=by kernel_rfl
end
section
variable{K:bt}{w:aJ}{lf:Bool}{args:List Arg}{Q:Cs->b0->Prop}{X:aq->Prop}
theorem lk{x:ao}(h:mb x=ac):fits x.length=ac/\bO x=ac/\fg x=x:=by unfold mb at h;simp only[af]at h;exact⟨fits_of (by have :=aj h.1;exact nT ‹_› rfl),h.2.1,aI.mp h.2.2⟩
theorem xd{x:ao}{A B:Prop}(c:mb x=ac)(h:br (dK x m9) A B):QT x A B:=by refine fi (lk c) λf a b=>?_;unfold QT;(refine b.symm▸?_;rw[iw]);exact aB f (aB (by refine a.symm▸rfl) h)
theorem Nq(h:Cj lf args Q X):aN pg (bM lH) 2 lf 1198 args Q X:=by
  refine bB (bK h) λc s=>?_;clear h;subst c;rcases s with⟨j,w,v,a,e,b,t,h⟩|⟨j,l,p,w,a,e,b,h⟩
  · subst e;rw[af,aL]at b;have c:EN:=⟨"",.none,0,[]⟩;have o:=(lk b.1).2.2;have G:MI a Q j w v:=λC d z9=>by refine o.symm▸xd b.1 (dO b.2 (h C d))
    rcases t with⟨m,n,rfl⟩|⟨e,rfl⟩;·exact f4 (A:=Au Q X ((TT.m w).tok j::mark m uq n::a)) (DE a Q X j 0 "" w m n c) (.head _) G
    ·exact f4 (A:=Au Q X ((TT.m w).tok j::e.t::a)) (DE a Q X j 0 "" w "" .none e) (.tail _ (.head _)) G
  ·subst e;simp only[af]at b;refine N3 b λi u f k=>?_;have c:EN:=⟨"",.none,0,[]⟩;have q:=(lk i).2.2;have r:=(lk k).2.2;refine f4 (A:=Au Q X ((TT.m p).tok j::(TT.m w).tok l::a)) (DE a Q X j l p w "" .none c) (.tail _ (.tail _ (.head _))) λC d z9=>q.symm▸r.symm▸xd i (ge u (aB f (xd k ?_)));induction g:dK w m9 with
    |true=>replace h:=g▸h;exact h|false=>replace h:=g▸h;exact h C d
theorem QE(a:bo pg K w):iE K w (Sm Seg) 8 lH:=.cons (Ef a) (gu a gg)
theorem GZ(a:bo pg K w):bq K w (Sm Seg) 1198 Cj 12:=(QE a).fn a ci 2 (by decide) λz9 z9 z9 z9=>Nq
end
noncomputable def lA:List (aq×aS):=[(1198,Cj),(1268,KZ),(1294,Cb),(1341,Cl)]
section
variable(fs:List FD)(Q:Cs->b0->Prop)(X:aq->Prop)
def Sf(its:List V):Prop:=aN pg (bM lA) 3 ae 1348 [.v (cg fs),.c (.ch (.lst its)),.v cu] Q X
def Zd(lw ic:ao)(C:aq)(at':Vs)(vs:List V)(t:W3)(c:Cs):Prop:=∃jx PQ word C' VJ nm ops z s,[Arg.v (cg fs),.v (sI ic lw (.inst C at')),.v (.str t.1),.v (.lst vs),.v (.int t.2.1),.v (.int t.2.2)]=[.v (cg jx),.v (sI PQ word (.inst C' VJ)),.v (.str nm),.v (.lst (bh ops)),.v (.int z),.v (.int s)]/\gd (Hx word nm ops) (AT jx word nm ops z s (λl=>Q c (.v (oM nm (bh l) PQ))) (X 87))
def XV(lw ic:ao)(C:aq)(at':Vs)(vs:List V)(c:Cs):Prop:=∃jx x ops,[Arg.v (cg fs),.v (.str lw),.v (.lst vs)]=[.v (cg jx),.v (.str x),.v (.lst (bh ops))]/\gd (x6 jx x ops.length&&ops.all OP.ok) (Zd fs Q X lw ic C at' vs (me jx x ops.length (ops.any OP.xm)) c)
def K8(is:List V)(ic lw:ao)(C:aq)(at':Vs):Prop:=∃j e rest word os,[Arg.c (.ch (.lst is)),.v cu,.v (.str lw)]=[.c (.ch (.lst (ju j e rest os))),.v cu,.v (.str word)]/\gd (vX word&&(aU os.length 3&&os.all λo=>ii o.c word)) (gd (fits (os.map OM.v).length) (XV fs Q X lw ic C at' (ib (os.map OM.v) ak ak (aa (-1))) (cur (e.t::rest))))
theorem Se(its:List V):Sf fs Q X its=Of [.c (.ch (.lst its))] (K8 fs Q X) (X 87):=by kernel_rfl
end
def Pl:aS:=λlf args Q X=>gd (!lf) (∃fs ts its,args=[.v (cg fs),.c (cJ ts 0),.v cu]/\il Seg its ts/\ts.length<=5000/\Of [.c (.ch (.lst its))] (K8 fs Q X) (X 87))
noncomputable def Gr(b i:Option RG)(s w z:Int)(a nm:ao):V:=.tup [.str "mem",.str ((b.map RG.nm).getD ""),.str ((i.map RG.nm).getD ""),.int s,.int w,.int z,.str a,.str nm]
def OP.told:OP->V
 |.ce r=>.tup [.str "reg",.str r.nm]|.d6 w nm=>.tup [.str "imm",.int w,.str nm]|.rel w nm=>.tup [.str "rel",.int w,.str nm]|.mem b i s w z a nm=>Gr b i s w z a nm
def qN(nm ic:ao)(ops:List OP):V:=.tup [.str nm,.str ic,.tup (ops.map OP.told)]
def IS:aS:=λlf args Q z9=>gd (!lf) (∃b i s w z a nm,args=[.v (hM b i s w z a nm)]/\Q [] (.v (Gr b i s w z a nm)))
def yh:aS:=λlf args Q z9=>gd (!lf) (∃nm ops ic,args=[.v (oM nm (bh ops) ic)]/\gd (gR ops) (Q [] (.v (qN nm ic ops))))
def UD(s w z:Int)(a nm:ao)(p:Option RG×Option RG):Go:=aN pg nt 3 ae 899 [.v (hM p.1 p.2 s w z a nm)]
def UC(s w z:Int)(a nm:ao)(p:Option RG×Option RG):Go:=λQ X=>Q [] (.v (Gr p.1 p.2 s w z a nm))
theorem Qb(s w z:Int)(a nm:ao)(r r':RG):(oP r r').map (UD s w z a nm)=(oP r r').map (UC s w z a nm):=by kernel_rfl
noncomputable def lI:List (aq×aS):=[(899,IS)]
def OT(o:OP)(A:V->Prop):Prop:=match o with
 |.mem b i s w z a nm=>∃b' i' s' w' z' a' vZ,[Arg.v (hM b i s w z a nm)]=[.v (hM b' i' s' w' z' a' vZ)]/\A (Gr b' i' s' w' z' a' vZ)|o=>A o.told
def qM:List OP->(List V->Prop)->Prop
 |[],A=>A []|o::l,A=>OT o λv=>qM l λvs=>A (v::vs)
section
variable{Q:Cs->b0->Prop}{X:aq->Prop}
def Xd(nm ic:ao)(Q:Cs->b0->Prop)(X:aq->Prop)(L:List (List OP)):List (Prop×Prop):=L.map λops=>(aN pg (bM lI) 3 ae 950 [.v (oM nm (bh ops) ic)] Q X,qM ops λvs=>Q [] (.v (.tup [.str nm,.str ic,.tup vs])))
theorem QR(nm b:ao)(r r':RG)(w k s h z m l:Int)(n f j c g:ao)(d i a e:Option RG):(Xd nm b Q X (BP (pE r w n d i s z j) (pE r' k f a e h m c) (.d6 0 "") (.d6 0 "") (.d6 l g))).map (·.1)=(Xd nm b Q X (BP (pE r w n d i s z j) (pE r' k f a e h m c) (.d6 0 "") (.d6 0 "") (.d6 l g))).map (·.2):=by kernel_rfl
end
section
variable{K:bt}{w:aJ}{lf:Bool}{args:List Arg}{Q:Cs->b0->Prop}{X:aq->Prop}
theorem sk:∀{c:List OP}{A:List V->Prop},A (c.map OP.told)->qM c A
 |[],_,h=>h|o::l,A,h=>by have G:qM l λe=>A (o.told::e):=sk h;clear h;induction o with
  |mem b i s w z a d=>exact XF b i s w z a d ⟨rfl,G⟩|_=>exact G
theorem Nm(h:IS lf args Q X):aN pg nt 3 lf 899 args Q X:=by obtain⟨c,b,i,s,w,z,a,g,e,d⟩:=bK h;clear h;subst c;subst e;refine ej (CH b i) λr r' f=>bA (congrFun (congrFun (aH.mp (Qb s w z a g r r') _ f) Q) X) d
theorem No(h:yh lf args Q X):aN pg (bM lI) 3 lf 950 args Q X:=by refine bB (bK h) λl j=>d0 j λg a b e m=>?_;clear h;subst l;clear j;subst e;refine xK λD d=>xG m λp h=>uT p λr r' w A s v z C B n t x f u k i c q o=>d (f4 (B:=qM a λy=>Q [] (.v (.tup [.str g,.str b,.tup y]))) (QR (Q:=Q) (X:=X) g b r r' w A s v z C B n t x f u k i c q) (aG.mpr ⟨a,o,rfl⟩) (sk h))
theorem QD(a:bo pg K w):iE K w (Sm Seg) 6 lI:=.cons (bq.run a 3 (by decide) λz9 z9 z9 z9=>Nm) .nil
theorem yS(a:bo pg K w):bq K w (Sm Seg) 950 yh 12:=(QD a).fn a ci 3 (by decide) λz9 z9 z9 z9=>No
theorem QI(a:bo pg K w):iE K w (Sm Seg) 66 lA:=.cons ((GZ a).up (by decide)) (.cons (LJ a) (.cons ((Fv a).up (by decide)) (.cons ((Hz a).up (by decide)) .nil)))
theorem R0(h:Pl lf args Q X):I7 (Sm Seg) (aN pg (bM lA) 3) lf 1348 args Q X:=λb t=>by refine bB (bK h) λn d=>hY d λg x a e s v r=>?_;clear h;subst n;subst e;obtain⟨y,i,o,l,t1⟩:=t;obtain⟨a2,j,p,f,t2⟩:=t1;obtain⟨z,k,q,m,t3⟩:=t2;subst l;subst m;subst t3;(refine aE f λc d u=>?_;(clear f;subst d));subst u;subst q;subst p;subst o;refine⟨[.v (cg g),.c (.ch (.lst a)),.v cu],bl.mk _ _ rfl rfl (bl.mk _ _ rfl ⟨_,rfl,[],x,s,rfl,v⟩ (bl.mk _ _ rfl rfl rfl)),?_⟩;show Sf g Q X a;rw[Se];exact r
theorem NI(a:bo pg K w):bq K w (Sm Seg) 1348 Pl 72:=(lx ci ((QI a).run a ci 3)).pick (by decide) λlf c args Q X b=>bB b λe z=>by subst e;exact R0 z
end
def w9:List ao:=slots.flatMap (·.2)
def KP(k:ao):Go:=aN pg nt 4 ae 545 [.v (.str k)]
def KO(k:ao):Go:=λQ X=>Q [] (.v (.str (BO k)))
theorem BN:w9.map KP=w9.map KO:=by kernel_rfl
def IN:aS:=λlf args Q z9=>gd (!lf) (wp (p9 args) λk=>gd (dK k w9) (Q [] (.v (.str (BO k)))))
noncomputable def lS:List (aq×aS):=[(545,IN)]
def h8(p:ao×List FD):Go:=aN pg (bM lS) 6 ae 1512 [.v (.str p.1)]
def hZ(p:ao×List FD):Go:=λQ X=>Q [] (.v (cg p.2))
def pD:List (ao×List FD):=FJ.map (λn=>(Rl n,DN n))++p6.map (λn=>(Hc n,vq n))++pK.map (λn=>(fX n,rs n))
def pC:List (ao×List FD):=r7.map λd=>(fT d,gT d)
def sv:List (ao×List FD):=r7.map λd=>(fC d,gC d)
noncomputable def ED:List ao:=["cdqe","cqo","cdq","cwde","cwd","cbw","movsd","stosd","scasd","stosb","lodsq","cmpsw","cmpsd","ret","leave","pushfq"]
def pB:List (ao×List FD):=ED.map (λn=>(fA n,oR n))++[(Hd,G6),(AD,jV),(vy,rr),(MU,Ax),(DY,oQ),(tY,jw)]
theorem rh{α β:Type _}{f g:α->β}(n:Nat){l:List α}(h:(l.take n).map f=(l.take n).map g)(k:(l.drop n).map f=(l.drop n).map g):l.map f=l.map g:=by rw[<-cD n l,cN,cN,h,k]
theorem sets1_0:((pD).take 5).map h8=((pD).take 5).map hZ:=by kernel_rfl
theorem sets1_1:(((pD).drop 5).take 4).map h8=(((pD).drop 5).take 4).map hZ:=by kernel_rfl
theorem FO:(((pD).drop 5).drop 4).map h8=(((pD).drop 5).drop 4).map hZ:=by kernel_rfl
theorem B3:pD.map h8=pD.map hZ:=rh 5 sets1_0 (rh 4 sets1_1 (FO))
theorem sets2_0:((pC).take 6).map h8=((pC).take 6).map hZ:=by kernel_rfl
theorem sets2_1:(((pC).drop 6).take 5).map h8=(((pC).drop 6).take 5).map hZ:=by kernel_rfl
theorem FN:(((pC).drop 6).drop 5).map h8=(((pC).drop 6).drop 5).map hZ:=by kernel_rfl
theorem B0:pC.map h8=pC.map hZ:=rh 6 sets2_0 (rh 5 sets2_1 (FN))
theorem sets3_0:((sv).take 8).map h8=((sv).take 8).map hZ:=by kernel_rfl
theorem FM:((sv).drop 8).map h8=((sv).drop 8).map hZ:=by kernel_rfl
theorem BZ:sv.map h8=sv.map hZ:=rh 8 sets3_0 (FM)
theorem sets4_0:((pB).take 14).map h8=((pB).take 14).map hZ:=by kernel_rfl
theorem sets4_1:(((pB).drop 14).take 4).map h8=(((pB).drop 14).take 4).map hZ:=by kernel_rfl
theorem FL:(((pB).drop 14).drop 4).map h8=(((pB).drop 14).drop 4).map hZ:=by kernel_rfl
theorem BY:pB.map h8=pB.map hZ:=rh 14 sets4_0 (rh 4 sets4_1 (FL))
def KW:aS:=λlf args Q z9=>gd (!lf) (∃p:ao×List FD,args=[.v (.str p.1)]/\p∈sets/\Q [] (.v (cg p.2)))
def Ck:aS:=λlf args Q z9=>gd (!lf) (∃t w,args=[.v t,.v cu,.v (.str ".")]/\mM w "" t/\Q [] (.v (EF w "")))
def Cm:aS:=λlf args Q X=>gd (!lf) (∃w C fs,args=[.v (hM (aa ⟨"rax","gpr",0,64⟩) ak 1 w 0 "" ""),.v (.inst C fs)]/\hU w=ae/\X 99)
def tl:aS:=λz9 args Q z9=>kQ args λc it is as=>gd as.isEmpty (fM it (λk x w a=>match a with
 |.inst C fs=>Q (cur c) (.v (.inst C fs))|_=>False) λl=>∀C fs,Q (cur c) (.v (.inst C fs)))
def Ta:List (aq×aS):=(1481,tl)::(348,uV)::(503,Ck)::(1219,Cm)::(1418,qZ)::l0
def S9:List (aq×aS):=(1481,tl)::(1418,qZ)::l0
def Ij(tb:List (aq×aS))(fs:List FD)(its:List V)(C:aq):Prop:=∀Q X,X C->aN pg (bM tb) 18 ae 1348 [.v (cg fs),.c (.ch (.lst its)),.v cu] Q X
def NG(tb:List (aq×aS))(fs:List FD)(its:List V)(X:aq->Prop):Prop:=(Ij tb fs its 87/\X 87)\/(Ij tb fs its 99/\X 99)\/(Ij tb fs its 111/\X 111)
def NH(fs:List FD)(its:List V)(X:aq->Prop):Prop:=NG Ta fs its X\/NG S9 fs its X
def IX:aS:=λlf args Q X=>gd (!lf) (∃fs ts its,args=[.v (cg fs),.c (cJ ts 0),.v cu]/\il Seg its ts/\ts.length<=5000/\(Of [.c (.ch (.lst its))] (K8 fs Q X) (X 87)\/NH fs its X))
noncomputable def S7:List (aq×aS):=[(1512,KW),(1348,IX),(950,yh)]
abbrev T3:=aN pg (bM S7) 1
def Ju:aY×List dG:=Ay ((fnOf 1680).body[1]?.getD default)
noncomputable def DC(R:V)(F:ao)(e:Vs):Vs:=([("rows",R),("forms",.str F),("tokens",.ptr 0)]:Vs)++e
noncomputable def Oc(k w:V):Vs:=[("kind",k),("worth",w)]
noncomputable def dn(f:Nat->Cell)(n:Nat):Cs:=(cU (2*n)).map f
noncomputable def TT.kd:TT->ao
 |.n _=>"number"|.s _=>"sign"|.m _=>"name"|.r _=>"register"
noncomputable def TT.wv:TT->V
 |.n i=>.int i|.s x=>.str x|.m x=>.str x|.r x=>.str x
def TT.Xo(t:TT)(A:Prop):Prop:=match t with
 |.n i=>gd (gF i) A|_=>A
abbrev Q6(m:Nat)(R:V)(F:ao)(e:Vs)(l:List V)(cs:Cs)(Q:Fl->Vs->Cs->Prop)(X:XS):Prop:=(wv pg T3 m).For ⟨DC R F e,(fnOf 1680).scope,ae⟩ Ju.1 l Ju.2 cs Q X
section
variable(m:Nat)(R:V)(F:ao)(L l:List V)(f:Nat->Cell)(Q:Fl->Vs->Cs->Prop)(X:XS)
def Q8(n:Nat)(e:Vs)(t:TT):Prop:=Q6 (m+25) R F e (t.row::l) (.lst ae L::dn f n) Q X
def Q7(n:Nat)(t:TT):Prop:=TT.Xo t (gd (fits L.length) (gd (fits L.length) (Q6 (m+24) R F (Oc (.str t.kd) t.wv) l (.lst ae (L++[t.tok ((L.length:Int)+1)])::(dn f n++[.dead (kN ((L.length:Int)+1)),.dead (t.tok ((L.length:Int)+1))])) Q X)))
noncomputable def Wy(i:Int)(x:ao):List TT:=[.n i,.s x,.m x,.r x]
def Xi(i:Int)(x:ao)(k w:V):List (Nat×Vs×TT):=(cU 45).flatMap λn=>(Wy i x).map λt=>(n,cd (a7 n 0) [] (Oc k w),t)
theorem Q5(i:Int)(x:ao)(k w:V):((Xi i x k w).map λp=>Q8 m R F L l f Q X p.1 p.2.1 p.2.2)=(Xi i x k w).map λp=>Q7 m R F L l f Q X p.1 p.2.2:=by kernel_rfl
noncomputable def wJ(x:ao):V:=.tup [.str "refused",.str x]
def Tg(Q:Cs->b0->Prop):Cs->b0->Prop:=λz9 r=>match r with
 |.v v=>∃nm ops ic,[Arg.v v]=[.v (oM nm (bh ops) ic)]/\gd (gR ops) (Q [] (.v (.tup [.str "read",qN nm ic ops])))|_=>False
def Oi(C:aq):ao:=cd (a7 C 87) "ReadError" (cd (a7 C 99) "OperandError" "SymbolError")
def EV(Q:Cs->b0->Prop)(C:aq):Prop:=Q [] (.v (wJ (Oi C)))
def vA(L:List V):V:=tk "end" "" (.str "") (kN ((L.length:Int)+1))
def YQ(L:List V)(F:ao)(Q:Cs->b0->Prop):Prop:=gd (fits L.length) (gd (fits L.length) (∃p:ao×List FD,[Arg.v (.str F)]=[.v (.str p.1)]/\p∈sets/\∃fs ts its,[Arg.v (cg p.2),.c (cJ (L++[vA L]) 0),.v cu]=[.v (cg fs),.c (cJ ts 0),.v cu]/\il Seg its ts/\ts.length<=5000/\(Of [.c (.ch (.lst its))] (K8 fs (Tg Q) (EV Q)) (EV Q 87)\/NH fs its (EV Q))))
end
theorem G0(R:V)(F:ao)(L:List V)(f:Nat->Cell)(Q:Cs->b0->Prop)(X:aq->Prop)(k w:V):((cU 45).map λn=>j0 T3 1680 2 0 ae Q X .next (DC R F (Oc k w)) (.lst ae L::dn f n))=(cU 45).map λn=>YQ L F Q:=by kernel_rfl
def TT.bR:TT->Bool
 |.n i=>gF i|.s x=>bO x|_=>ac
theorem eC:∀(l r:List TT)(j:Int),toks j (l++r)=toks j l++toks (j+(l.length:Int)) r
 |[],r,j=>by show toks j r=toks (j+0) r;rw[Int.add_zero]|t::l,r,j=>by show _::toks (j+1) (l++r)=_::(toks (j+1) l++_);rw[eC l r (j+1)];rw[show j+((t::l).length:Int)=j+1+(l.length:Int)from by dsimp only[bH];lia]
theorem fZ:∀(l:List TT)(j:Int),(toks j l).length=l.length
 |[],_=>rfl|_::l,j=>congrArg (·+1) (fZ l (j+1))
theorem JE{D:Cs}{n:Nat}(h:D.length=2*n):∃f,D=dn f n:=by refine⟨λi=>D[i]?.getD (.dead .any),?_⟩;unfold dn;refine List.ext_getElem (by rw[az,List.length_range,h]) λi a b=>?_;rw[List.getElem_map,List.getElem_range,bg a];rfl
section
variable{R:V}{F:ao}{Q:Fl->Vs->Cs->Prop}{X:XS}
theorem MN{t:TT}{A:Prop}(h:t.bR=ac)(a:A):t.Xo A:=by induction t with
 |n i=>exact aB h a|_=>exact a
theorem Ki(t:TT):∃i x,t∈Wy i x:=by induction t with
 |n i=>exact cM i "" (.head _)|s x=>exact cM 0 x (.tail _ (.head _))|m x=>exact cM 0 x (.tail _ (.tail _ (.head _)))|r x=>exact cM 0 x (.tail _ (.tail _ (.tail _ (.head _))))
def Xj(n:Nat)(e:Vs):Prop:=∃k w,e=cd (a7 n 0) [] (Oc k w)
theorem yZ:∀(a pre:List TT)(D:Cs)(e:Vs)(m:Nat),pre.length+a.length<=44->(pre++a).all TT.bR=ac->D.length=2*pre.length->Xj pre.length e->(∀g j,g.length=2*(pre++a).length->Xj (pre++a).length j->Q .next (DC R F j) (.lst ae (toks 1 (pre++a))::g))->Q6 (m+a.length+25) R F e (bw a) (.lst ae (toks 1 pre)::D) Q X
 |[],pre,D,e,m,_,_,b,c,h=>by rw[bf]at h;exact h D e b c|t::a,pre,D,e,m,d,l,b,c,h=>by
  have d:pre.length+(a.length+1)<=44:=d;(refine aQ (JE b) λf q=>?_;subst q);(refine ej c λk w p=>?_;(clear c;subst p));refine ej (Ki t) λi x o=>?_;have st:=aH.mp (Q5 (m+a.length+1) R F (toks 1 pre) (bw a) f Q X i x k w) (pre.length,cd (a7 pre.length 0) [] (Oc k w),t) (aC.mpr ⟨pre.length,gi.mpr (by lia),aG.mpr ⟨t,o,rfl⟩⟩);have st:Q8 (m+a.length+1) R F (toks 1 pre) (bw a) f Q X pre.length (cd (a7 pre.length 0) [] (Oc k w)) t=Q7 (m+a.length+1) R F (toks 1 pre) (bw a) f Q X pre.length t:=st;show Q6 (m+(a.length+1)+25) R F _ (t.row::bw a) (.lst ae (toks 1 pre)::dn f pre.length) Q X;refine(show m+(a.length+1)+25=m+a.length+1+25from by exact rfl).symm▸bA st (MN (am.mp l t (an _ (.head _))) (aB (fits_of (by rw[fZ];lia)) (aB (fits_of (by rw[fZ];lia)) ?_)));have n:toks 1 pre++[t.tok ((toks 1 pre).length+1)]=toks 1 (pre++[t]):=by rw[eC,fZ];show _=_++[t.tok (1+(pre.length:Int))];rw[Int.add_comm]
  refine n.symm▸(show m+a.length+1+24=m+a.length+25from by exact rfl).symm▸yZ a (pre++[t]) _ _ m (by refine aw.symm▸?_;show pre.length+1+a.length<=44;exact nC d) (by rw[a0];exact l) (by refine aw.symm▸aw.symm▸?_;show _+2=2*(pre.length+1);refine b.symm▸rfl) (cM (.str t.kd) t.wv (by refine aw.symm▸rfl)) ?_;rw[a0];exact h
end
inductive rQ(l:List TT)(F:ao)(o:V):Prop|mk(fs:List FD)(its:List V)(hp:(F,fs)∈sets)(hE:il Seg its (toks 1 l++[vA (toks 1 l)]))(h:∀Q:Cs->b0->Prop,Q [] (.v o)->Of [.c (.ch (.lst its))] (K8 fs (Tg Q) (EV Q)) (EV Q 87)\/NH fs its (EV Q))
def Ch:aS:=λlf args Q z9=>gd (!lf) (∃l F o,args=[.v (cq l),.v (.str F)]/\gd (!l.isEmpty&&(aU l.length 44&&l.all TT.bR)) (rQ l F o/\Q [] (.v o)))
section
variable{K:bt}{w:aJ}{lf:Bool}{args:List Arg}{Q:Cs->b0->Prop}{X:aq->Prop}
theorem Dv(l:List V)(F:ao):aN pg (bM S7) 2 ae 1680 [.v (.lst l),.v (.str F)] Q X=gd (fits l.length) (Q6 397 (.lst l) F [] l [.lst ae []] (j0 T3 1680 2 0 ae Q X) (λC z9 z9=>X C)):=by kernel_rfl
theorem HR(h:Ch lf args Q X):aN pg (bM S7) 2 lf 1680 args Q X:=by
 obtain⟨r,l,F,o,e,i⟩:=bK h;clear h;subst r;subst e;refine fi (k7 i) λj t h=>?_;simp only[af,aL]at j;obtain⟨u,a,p⟩:=j;have a:=aj a;have d:(bw l).length=l.length:=az ..;rw[Dv];refine aB (fits_of (by refine d.symm▸nT ‹_› rfl)) ?_;obtain⟨m,q⟩:∃m,397=m+l.length+25:=⟨397-l.length-25,by exact nQ a rfl⟩;refine q.symm▸yZ (F:=F) l [] [] [] m (by show 0+_<=44;exact nL ‹_› rfl) p rfl (cM .none .none rfl) λD e b n=>?_;dsimp only[ed]at b n⊢;(refine aQ (JE b) λf z=>?_;(clear b;subst z));obtain⟨k,w,rfl⟩:=n;have y:a7 l.length 0=ae:=by clear i p a d q;clear a;induction l using ai with
  |nil=>exact mX u|cons=>rfl
 refine y.symm▸bA (aH.mp (G0 (cq l) F (toks 1 l) f Q X k w) l.length (gi.mpr (cV ‹_› (by decide)))) ?_;obtain⟨g,c,v,s,x⟩:=t;refine aB (fits_of (by rw[fZ];exact nT ‹_› rfl)) (aB (fits_of (by rw[fZ];exact nT ‹_› rfl)) ⟨(F,g),rfl,v,g,_,c,rfl,s,?_,x Q h⟩);rw[aw,fZ];show _+1<=_;exact nR ‹_› rfl
theorem bq.or{f:aq}{c c':aS}{d:Nat}(h:bq K w (Sm Seg) f c d)(h':bq K w (Sm Seg) f c' d):bq K w (Sm Seg) f (λlf args Q X=>c lf args Q X\/c' lf args Q X) d:=by
 intro j i a m lf l args n b k g A s Q X R⟨e,z⟩;rcases z with z|z;·exact h j i a m lf l args n b k g A s Q X R ⟨e,z⟩
 ·exact h' j i a m lf l args n b k g A s Q X R ⟨e,z⟩
end
section
set_option exponentiation.threshold 5000
def QW(w:Int):Prop:=-18446744073709551616<=w/\w<=18446744073709551616
theorem small_65{w:Int}(h:QW w):small w=ac:=decide_eq_true (cV (show w.natAbs<=18446744073709551616from by refine bB h λa b=>?_;lia) (by decide))
theorem small2_65{w:Int}(h:-20000000000000000000<=w/\w<=20000000000000000000):gF w=ac:=decide_eq_true (cV (show w.natAbs<=20000000000000000000from by omega) (by decide))
structure VW(w:Int)(l:List TT)(s:Bool)(a b:Int)(h:Sh):Prop where
 m:h∈vc s a b
 g:h.g=ac
 t:h.toks=l
 w:h.w=w
 p:h.p=""
 f:l.all TT.bR=ac
theorem u3(z:Int):∃s a,plainT z=tT s a/\tW s a=z/\(0<=a)/\a.natAbs=z.natAbs:=by unfold plainT;induction e:decide (z<0)with
 |true=>have :=of_decide_eq_true e;exact cM ac (0-z) ⟨rfl,by show-(0-z)=z;lia,by lia,by lia⟩|false=>have :=of_decide_eq_false e;exact cM ae z ⟨rfl,rfl,by exact ku.mp ‹_›,rfl⟩
theorem x9{s:Bool}{a:Int}(h:gF a=ac):(tT s a).all TT.bR=ac:=by
 induction s;·show(gF a&&ac)=ac;refine h.symm▸rfl
 ·show(ac&&(gF a&&ac))=ac;refine h.symm▸rfl
theorem yB{w:Int}{l:List TT}(h:dE w l)(g:-9223372036854775808<=w/\w<=9223372036854775808):∃s a b k,VW w l s a b k:=by
 have c:∀z:Int,-9223372036854775908<=z->z<=9223372036854775908->∃s a,plainT z=tT s a/\tW s a=z/\(tT s a).all TT.bR=ac:=λz o p=>by refine qC (u3 z) λs a d f e n=>cM s a ⟨d,f,x9 (small2_65 (by lia))⟩
 have m:=eV w (b:=8) (by decide);have q:=Int.fmod_eq_emod_of_nonneg w (b:=8) (by decide);have i:=eV w (b:=16) (by decide);have j:=Int.fmod_eq_emod_of_nonneg w (b:=16) (by decide);induction h with
 |w0=>refine fY (c w (Yw g.1 rfl) (Yv g.2 rfl)) λs a d f e=>mS s a 0 _ ⟨.head _,rfl,d.symm,f,rfl,by refine d.symm▸e⟩|w1=>refine fY (c (w-37) (sL g.1 rfl) (sU g.2 rfl)) λs a d f e=>mS s a 0 _ ⟨.tail _ (.head _),rfl,by exact d.symm▸rfl,by show 37+tW s a=w;lia,rfl,by refine d.symm▸e⟩|w2=>
  refine fY (c (w.fdiv 8) (by lia) (by lia)) λs a d f e=>mS s a (w.fmod 8) _ ⟨.tail _ (.tail _ (.head _)),?_,by exact d.symm▸rfl,by show tW s a*8+w.fmod 8=w;lia,rfl,?_⟩;·show(small (tW s a)&&small 8)=ac;refine(small_65 (w:=tW s a) (by unfold QW;lia)).symm▸?_;rfl
  ·refine d.symm▸bQ.symm▸e.symm▸?_;show(ac&&(ac&&(ac&&(gF (w.fmod 8)&&ac))))=ac;rw[small2_65 (by lia)];rfl|w3=>refine fY (c (-1-w) (qL g.2 rfl) (qU g.1 rfl)) λs a d f e=>mS s a 0 _ ⟨.tail _ (.tail _ (.tail _ (.head _))),rfl,by exact d.symm▸rfl,by show-1-tW s a=w;lia,rfl,by refine d.symm▸e⟩|w4=>
  refine fY (c (w.fdiv 16) (by lia) (by lia)) λs a d f e=>mS s a (w.fmod 16) _ ⟨.tail _ (.tail _ (.tail _ (.tail _ (.head _)))),?_,by exact d.symm▸rfl,by show w.fmod 16+tW s a*16=w;lia,rfl,?_⟩;·refine decide_eq_true ⟨by decide,by decide,?_⟩;refine f.symm▸?_;lia
  ·refine d.symm▸bQ.symm▸bQ.symm▸e.symm▸?_;show(((gF (w.fmod 16)&&(ac&&(ac&&ac)))&&ac)&&ac)=ac;rw[small2_65 (by lia)];rfl|w5=>refine fY (c (w+100) (pL g.1 rfl) (pU g.2 rfl)) λs a d f e=>mS s a 0 _ ⟨.tail _ (.tail _ (.tail _ (.tail _ (.tail _ (.head _))))),rfl,by exact d.symm▸rfl,by show tW s a+-100=w;lia,rfl,by refine d.symm▸bQ.symm▸e.symm▸rfl⟩
theorem xz{s:Bool}{a b:Int}{h:Sh}(m:h∈rJ s a b):h∈nH a b:=by
 induction s;·exact av _ m
 ·exact an _ m
structure EZ(w:Int)(p:ao)(l:List TT):Prop where
 r:Rd w p l
 f:l.all TT.bR=ac
theorem q6{w:Int}{l:List TT}(h:dE w l)(c:-9223372036854775808<=w/\w<=9223372036854775808):EZ w "" l:=by(refine xM (yB h c) λs a b d e=>?_;obtain⟨m,g,t,c,p,f⟩:=e);exact⟨⟨a,b,d,xz (av _ m),g,t,c,p⟩,f⟩
theorem yn{w:Int}{l:List TT}{nm:ao}{e:V}(h:dE w l)(d:-9223372036854775808<=w/\w<=9223372036854775808)(i:∀{s a b}{c:Sh},c∈vc s a b->wL nm e c∈rJ s a b):EZ w nm (l++[.s "+",.m nm]):=by(refine xM (yB h d) λs a b c j=>?_;obtain⟨m,g,t,d,p,f⟩:=j);exact⟨⟨a,b,_,xz (i m),g,by show c.toks++_=_;exact t.symm▸rfl,by show c.w+0=w;(refine d.symm▸?_;rw[Int.add_zero]),rfl⟩,by refine bQ.symm▸f.symm▸rfl⟩
theorem q7{w k:Int}{nm q:ao}{e:V}(h:-9223372036854775908<=w-k/\w-k<=9223372036854775908)(c:∀s a,qB nm q e k s a∈rJ s a 0):EZ w q ([.m nm,.s "+"]++plainT (w-k)):=by refine qC (u3 (w-k)) λs a b d f g=>⟨⟨a,0,_,xz (c s a),rfl,by rw[b];rfl,by show k+tW s a=w;lia,rfl⟩,by rw[b,bQ,x9 (small2_65 (by lia))];rfl⟩
theorem tq{w:Int}{nm:ao}{l:List TT}(h:gZ w nm l)(b:isNm nm=ac)(c:-9223372036854775808<=w/\w<=9223372036854775808):EZ w nm l:=by
 have A:ag nm ""=ae->nm="alpha":=λn=>by unfold isNm at b;rw[n,fL]at b;exact aI.mp b
 induction h with
 |num e h=>refine(aI.mp e).symm▸q6 h c|ahead n=>have :EZ w "alpha" ([.m "alpha",.s "+"]++plainT (w-0)):=q7 (by lia) λs a=>an _ (an _ (an _ (.head _)));refine(A n).symm▸?_;rw[Int.sub_zero]at this;exact this|behind h n=>refine(A n).symm▸yn h c λm=>an _ (av _ (aG.mpr ⟨_,m,rfl⟩))|near n=>refine(A n).symm▸q7 (by lia) λs a=>an _ (an _ (an _ (.tail _ (.head _))))
def N5(nm:ao):ao:=cd (ag nm "") "." nm
theorem Le{w:Int}{nm:ao}{l:List TT}(h:vV w nm l)(b:-9223372036854775808<=w/\w<=9223372036854775808):EZ w (N5 nm) l/\Dh (N5 nm)=ac/\OY (N5 nm)=nm:=by induction h with
 |sum h=>exact⟨tq h rfl b,by rfl,by rfl⟩|dot=>have :EZ w "." ([.m ".",.s "+"]++plainT (w-0)):=q7 (by lia) λs a=>an _ (an _ (an _ (.tail _ (.tail _ (.head _)))));rw[Int.sub_zero]at this;exact⟨this,by rfl,by rfl⟩|num h=>exact⟨yn h b λm=>an _ (an _ (av _ (aG.mpr ⟨_,m,rfl⟩))),by rfl,by rfl⟩
theorem BD{t:TT}(h:t.bR=ac)(j:Int):∃k x w,t.tok j=tk k x w (kN j)/\bR k x:=by induction t with
 |n i=>exact dB _ _ _ ⟨rfl,by rfl,λh=>cy ((show ag "number" "sign"=ac from h))⟩|s x=>exact dB _ _ _ ⟨rfl,by rfl,λz9=>h⟩|m x=>exact dB _ _ _ ⟨rfl,by rfl,λh=>cy ((show ag "name" "sign"=ac from h))⟩|r x=>exact dB _ _ _ ⟨rfl,by rfl,λh=>cy ((show ag "register" "sign"=ac from h))⟩
theorem dr{t:TT}(h:t.bR=ac){j:Int}{is ts:List V}(e:il Seg is ts):il Seg (t.tok j::is) (t.tok j::ts):=by refine d0 (BD h j) λk x w a f=>a.symm▸.tok f e
theorem jD{is ts:List V}(e:il Seg is ts):∀{l:List TT}{j:Int},l.all TT.bR=ac->il Seg (toks j l++is) (toks j l++ts)
 |[],_,_=>e|t::l,j,h=>by rw[cn,af]at h;exact dr h.1 (jD e h.2)
def U7:List TT->Bool
 |[]=>ae|t::_=>match t with
  |.n _=>ac|.m _=>ac|.s x=>dK x Oj|.r _=>ae
theorem G7(a b:Int):((nH a b).all λh=>U7 h.toks)=ac:=by kernel_rfl
theorem qs{x:ao}{l:List ao}(h:dK x l=ac):x∈l:=by refine aE (fb.mp h) λs a e=>(aI.mp e)▸a
theorem Lf{w:Int}{p:ao}{l:List TT}(h:Rd w p l):∃c,vC c=ac/\∀j,lh c Oj (toks j l):=by obtain⟨a,b,d,e,_,rfl,_,_⟩:=h;have :=am.mp (G7 a b) d e;revert this;induction d.toks using ai with
 |nil=>exactλh=>cy h|cons t l=>induction t with
  |n i=>exactλz9=>⟨"number",by rfl,λj=>.tok λh=>cy ((show ag "number" "sign"=ac from h))⟩|s x=>exactλh=>⟨"sign",by rfl,λj=>.tok λz9=>qs h⟩|m x=>exactλz9=>⟨"name",by rfl,λj=>.tok λh=>cy ((show ag "name" "sign"=ac from h))⟩|r x=>exactλh=>cy h
theorem ry{w:Int}{p:ao}{l:List TT}(h:EZ w p l):∃a,vC a=ac/\∀j is ts,il Seg is ts->il Seg (eM a w p::is) (toks j l++ts):=by refine aE (Lf h.r) λa b c=>⟨a,b,λj is ts e=>.seg (.expr h.r b (c j)) (jD e h.f)⟩
structure nO(R:List TT)(o:OP)(c:Int):Prop where
 e:∃kd,∀j is ts,il Seg is ts->il Seg (mark kd uq (Af o.v c)::is) (toks j R++ts)
 l:R.length<=24
 f:R.all TT.bR=ac
end
section
set_option exponentiation.threshold 5000
theorem mz{r:RG}(b:r∈gQ)(a:wQ r=ac):nO [.r r.nm] (.ce r) 0:=⟨⟨"register",λj c d e=>.seg (.LP b a) (dr (t:=.r r.nm) rfl e)⟩,aj rfl,rfl⟩
theorem FG{r:RG}(b:r∈gQ)(a:wQ r=ac):nO ([.s "*"]++[.r r.nm]) (.ce r) 1:=⟨⟨"sign",λj c d e=>.seg (.uU (j:=j) (j':=j+1) b a) (dr (t:=.s "*") rfl (dr (t:=.r r.nm) rfl e))⟩,aj rfl,rfl⟩
theorem wq{w:Int}{p:ao}{l:List TT}(h:EZ w p l)(c:isNm p=ac)(g:l.length<=12):nO ([.s "$"]++l) (.d6 w p) 0:=by refine aE (ry h) λi b a=>⟨⟨"sign",λj d f e=>.seg (.LS (j:=j) b c) (dr (t:=.s "$") rfl (a (j+1) d f e))⟩,by show l.length+1<=24;exact nR ‹_› rfl,by show(ac&&l.all TT.bR)=ac;refine h.f.symm▸rfl⟩
theorem KI{w:Int}{p:ao}{l:List TT}(h:EZ w (N5 p) l)(b:Dh (N5 p)=ac)(f:OY (N5 p)=p)(i:l.length<=12):nO l (.rel w p) 3:=by refine aE (ry h) λc a d=>⟨⟨c,λj is g e=>?_⟩,by exact nT ‹_› rfl,h.f⟩;show il Seg (mark c uq (Af (wI w p) 3)::is) _;have :=il.seg (Seg.LO (w:=w) a b) (is:=is) (il.seg (Seg.rel a b) (is:=is) (d j is g e));replace this:=f▸this;exact this
structure Zm(b i:Option RG)(s w:Int)(nm:ao)(c:Bool)(l:List TT):Prop where
 e:∃kd,vC kd=ac/\∀j is ts,il Seg is ts->il Seg (pM kd (m7 b) (m7 i) s w nm c::is) (toks j l++ts)
 ln:l.length<=20
 f:l.all TT.bR=ac
theorem lq{b i:Option RG}{s:Int}{k:Bool}(a:j4 i s):(eD b i s k).all TT.bR=ac:=by
 have c:Di s=ac:=by induction a with
  |none=>rfl|ce _ _ h=>exact h
 have s2:gF s=ac:=by unfold Di at c;simp only[aZ,decide_eq_true_iff]at c;exact small2_65 (by lia)
 have d:(Uf b).all TT.bR=ac:=by induction b<;>rfl
 have e:(Tb i s k).all TT.bR=ac:=by clear a;induction i with
  |none=>rfl|some i=>induction k with
   |false=>rfl|true=>show(ac&&(ac&&(ac&&(gF s&&ac))))=ac;refine s2.symm▸?_;rfl
 unfold eD;refine bQ.symm▸bQ.symm▸bQ.symm▸d.symm▸e.symm▸?_;rfl
theorem in32_65{w:Int}(h:hU w=ac):-9223372036854775808<=w/\w<=9223372036854775808:=by unfold hU at h;rw[af,decide_eq_true_iff,decide_eq_true_iff]at h;lia
theorem CB{a:ao}{b i:Option RG}{s w:Int}{nm:ao}{l:List TT}(h:je a b i s w nm l):∃l',l=qa a++l'/\Zm b i s w nm (b.isNone&&i.isNone) l':=by have c:=in32_65 h.rg;induction h.pl with
 |@bare e g=>have o:=tq g h.nk c;refine aE (ry o) λt f q=>⟨e,rfl,⟨t,f,λj r u x=>.seg (.bare f h.nk h.rg) (q j r u x)⟩,by have :=g.len;exact nT ‹_› rfl,o.f⟩|@sum b i s k e p d f n g=>have o:=tq g h.nk c;refine aE (ry o) λt m q=>⟨e++eD b i s k,a0 ..,?_⟩;refine n.symm▸⟨⟨t,m,λj r u x=>?_⟩,by have :=g.len;have :=jo b i s k;rw[aw];exact nA ‹_› ‹_› rfl,by refine bQ.symm▸o.f.symm▸(lq d).symm▸rfl⟩;rw[eC,a0];exact .seg (.sum (j:=j+(e.length:Int)) m h.nk h.rg p d f n) (q j _ _ (jD x (lq d)))|@tail b i s k p d f n v y=>refine⟨eD b i s k,rfl,?_⟩;refine n.symm▸?_;clear c h;subst v;subst y;exact⟨⟨"sign",by rfl,λj r u x=>.seg (.tail p d f n) (jD x (lq d))⟩,by have :=jo b i s k;exact nT ‹_› rfl,lq d⟩
theorem sx{a:ao}(h:ek a=ac):a=""\/tL a=ac:=by
 unfold ek at h;rw[Bool.or_assoc,aZ]at h;rcases h with h|h;·exact .inl (aI.mp h)
 ·exact .inr h
theorem yP{a:ao}(h:tL a=ac):ag a ""=ae:=by unfold tL at h;simp only[aZ,aI]at h;rcases h with rfl|rfl<;>rfl
theorem wo{a:ao}{b i:Option RG}{s w:Int}{nm:ao}{l:List TT}(h:je a b i s w nm l):nO l (.mem b i s w 0 a nm) (cd (hJ (.mem b i s w 0 a nm)) 2 0):=by
  (refine aE (CB h) λf r c=>?_;subst r);refine aE c.e λq m o=>?_;have t:=c.ln;rcases sx h.sg with rfl|k;·refine⟨⟨q,λj d g x=>?_⟩,by show f.length<=24;exact nT ‹_› rfl,c.f⟩;have e:hJ (.mem b i s w 0 "" nm)=(b.isNone&&i.isNone):=Bool.and_true _;refine e.symm▸.seg (.LQ m) (o j d g x)
  · have n:=yP k;have e:hJ (.mem b i s w 0 a nm)=ae:=by show(b.isNone&&i.isNone&&ag a "")=ae;(refine n.symm▸?_;rw[bY])
    have p:qa a=[.r a,.s ":"]:=by unfold qa;refine n.symm▸rfl
    refine e.symm▸p.symm▸⟨⟨"register",λj d g x=>.seg (.LN (j:=j) m k) (dr (t:=.r a) rfl (dr (t:=.s ":") rfl (o (j+1+1) d g x)))⟩,by show f.length+2<=24;exact nR ‹_› rfl,by show(ac&&(ac&&f.all TT.bR))=ac;refine c.f.symm▸rfl⟩
theorem FH{a:ao}{b i:Option RG}{s w:Int}{nm:ao}{l:List TT}(h:je a b i s w nm l):nO ([.s "*"]++l) (.mem b i s w 0 a nm) 1:=by
  (refine aE (CB h) λd p c=>?_;subst p);refine aE c.e λr k m=>?_;have q:=c.ln;rcases sx h.sg with rfl|g;·exact⟨⟨"sign",λj e f x=>.seg (.K0 (j:=j) k) (dr (t:=.s "*") rfl (m (j+1) e f x))⟩,by show d.length+1<=24;exact nR ‹_› rfl,by show(ac&&d.all TT.bR)=ac;refine c.f.symm▸rfl⟩
  · have o:=yP g;have n:qa a=[.r a,.s ":"]:=by unfold qa;refine o.symm▸rfl
    refine n.symm▸⟨⟨"sign",λj e f x=>.seg (.KX (j:=j) (j':=j+1) k g) (dr (t:=.s "*") rfl (dr (t:=.r a) rfl (dr (t:=.s ":") rfl (m (j+1+1+1) e f x))))⟩,by show d.length+2+1<=24;exact Uz ‹_› rfl,by show(ac&&(ac&&(ac&&d.all TT.bR)))=ac;refine c.f.symm▸rfl⟩
end
noncomputable def joinR:List (List TT)->List TT
 |[]=>[]|a::l=>a++match l with
  |[]=>[]|b::l'=>.s ","::joinR (b::l')
def cA(ws:List ao)(word:ao)(groups:List (List TT)):List TT:=((ws.map TT.m)++[.m word])++joinR groups
structure GS where
 R:List TT
 o:OP
 c:Int
def GS.ok(g:GS):Prop:=nO g.R g.o g.c
theorem Gg(o:OP):∃C fs,o.v=.inst C fs:=by induction o<;>exact cM _ _ rfl
theorem DF{g:GS}(h:g.ok):∃m:OM,m.v=g.o.v/\m.c=g.c/\∀j is ts,il Seg is ts->il Seg (m.m::is) (toks j g.R++ts):=by refine aQ h.e λc b=>ej (Gg g.o) λC a e=>⟨⟨c,C,a,g.c⟩,e.symm,rfl,λj is ts x=>?_⟩;have :=b j is ts x;replace this:=e▸this;exact this
noncomputable def vB(j:Int):EN:=⟨"",.str "",45,[("line",.int 1),("column",.int j)]⟩
theorem jX(j:Int):il Seg ((vB j).t::[.lst []]) [(vB j).t]:=.tok ⟨rfl,λh=>cy ((show ag "end" "sign"=ac from h))⟩ .rest
structure JoinOk(gs:List GS)(n j:Int)(os:List OM)(jf:Nat->Int):Prop where
 v:os.map OM.v=bh (gs.map GS.o)
 c:os.map OM.c=gs.map GS.c
 e:il Seg (ju jf (vB n) [.lst []] os) (toks j (joinR (gs.map GS.R))++[(vB n).t])
theorem tK{gs:List GS}(h:∀g∈gs,g.ok)(y:gs.length<=3)(n j:Int):∃os z,JoinOk gs n j os z:=by have d:∀{j:Int}{s t},il Seg s t->il Seg ((TT.s ",").tok j::s) ((TT.s ",").tok j::t):=λx=>dr (t:=.s ",") rfl x;induction gs using ai with
 |nil=>exact cM [] (λz9=>0) ⟨rfl,rfl,jX n⟩|cons a l=>refine cz (DF (h a (.head _))) λe p i m=>?_;induction l using ai with
  |nil=>exact cM [e] (λz9=>0) ⟨by show[e.v]=[a.o.v];exact p.symm▸rfl,by show[e.c]=[a.c];exact i.symm▸rfl,by refine(show joinR ([a].map GS.R)=a.R from bf _).symm▸m j _ _ (jX n)⟩|cons b l=>refine cz (DF (h b (.tail _ (.head _)))) λf u q r=>?_;induction l using ai with
   |nil=>refine cM ([e,f]) (λz9=>j+(a.R.length:Int)) ⟨by show[e.v,f.v]=[a.o.v,b.o.v];exact p.symm▸u.symm▸rfl,by show[e.c,f.c]=[a.c,b.c];exact i.symm▸q.symm▸rfl,?_⟩;rw[show joinR ([a,b].map GS.R)=a.R++([.s ","]++b.R)from by show a.R++(.s ","::(b.R++[]))=_;rw[bf];rfl,eC,a0];exact m j _ _ (d (r _ _ _ (jX n)))|cons c l=>refine cz (DF (h c (.tail _ (.tail _ (.head _))))) λo A v w=>?_;induction l using ai with
    |cons=>exact absurd (show _+4<=3from y) (by lia)
    |nil=>refine cM ([e,f,o]) (λk=>match k with
     |0=>j+(a.R.length:Int)+1+(b.R.length:Int)|_=>j+(a.R.length:Int)) ⟨by show[e.v,f.v,o.v]=[a.o.v,b.o.v,c.o.v];exact p.symm▸u.symm▸A.symm▸rfl,by show[e.c,f.c,o.c]=[a.c,b.c,c.c];exact i.symm▸q.symm▸v.symm▸rfl,?_⟩;rw[show joinR ([a,b,c].map GS.R)=a.R++([.s ","]++(b.R++([.s ","]++c.R)))from by show a.R++(.s ","::(b.R++(.s ","::(c.R++[]))))=_;rw[bf];rfl,eC,a0];refine m j _ _ ?_;show il Seg _ ((TT.s ",").tok (j+(a.R.length:Int))::(toks (j+(a.R.length:Int)+1) (b.R++([.s ","]++c.R))++_));rw[eC,a0];exact d (r _ _ _ (d (w _ _ _ (jX n))))
theorem u5{l:List V}(h:l.length<=3):ib l ak ak (aa (-1))=l.reverse:=by
 have d:ib [] ak ak (aa (-1))=[]:=by kernel_rfl
 have e:∀a,ib [a] ak ak (aa (-1))=[a]:=λa=>by kernel_rfl
 have f:∀a b,ib [a,b] ak ak (aa (-1))=[b,a]:=λa b=>by kernel_rfl
 have g:∀a b c,ib [a,b,c] ak ak (aa (-1))=[c,b,a]:=λa b c=>by kernel_rfl
 induction l using ai with
 |nil=>exact d|cons a l=>induction l using ai with
  |nil=>exact e a|cons b l=>induction l using ai with
   |nil=>exact f a b|cons c l=>induction l using ai with
    |nil=>exact g a b c|cons=>exact absurd (show _+4<=3from h) (by lia)
inductive vS:List ao->ao->Prop|none:vS [] ""|one{p}(h:p∈m9):vS [p] (gb p)
def PO(p:ao):Bool:=mb p&&(dK p m9&&nz p)
theorem F9:m9.all PO=ac:=by kernel_rfl
def nj(fs:List FD)(word:ao)(n:Nat):Bool:=mb word&&(!dK word m9&&(vX word&&(x6 fs word n&&(aU word.length 1000&&(bO (fV word 6)&&!ag (fV word 6) "movabs")))))
structure mK(F:ao)(word:ao)(gs:List GS)(name:ao)(ops:List OP):Prop where mk'::
 x:∃fs t,(F,fs)∈sets/\nj fs word gs.length=ac/\me fs word gs.length ((gs.map GS.o).reverse.any OP.xm)=(name,t)/\bO name=ac/\(∀(A:List OP->Prop)(E:Prop),A ops->AT fs word name (gs.map GS.o).reverse t.1 t.2 A E)
 ok:∀g∈gs,g.ok
 l:gs.length<=3
 c:(gs.all λg=>ii g.c word)=ac
 f:((gs.map GS.o).reverse.all OP.bR)=ac
 o:gR (gs.map GS.o).reverse=ac
 p:gR ops=ac
theorem I5{F word name:ao}{gs:List GS}{b:List OP}(h:mK F word gs name b){fs:List FD}{t:Int×Int}(e:nj fs word gs.length=ac)(x:me fs word gs.length ((gs.map GS.o).reverse.any OP.xm)=(name,t))(v:bO name=ac)(u:∀(A:List OP->Prop)(E:Prop),A b->AT fs word name (gs.map GS.o).reverse t.1 t.2 A E){os:List OM}{k:Nat->Int}{n j:Int}(g:JoinOk gs n j os k){a:ao}{C:aq}{d:Vs}{Q:Cs->b0->Prop}(w:Q [] (.v (.tup [.str "read",qN name a b]))):K8 fs (Tg Q) (EV Q) (ju k (vB n) [.lst []] os) a word C d:=by
 have H:os.length=gs.length:=by have :=congrArg dZ g.c;rwa[az,az]at this
 have y:=h.l;unfold nj at e;simp only[af]at e;refine Tv e λB D p q r s G=>?_;have f:(os.all λo=>ii o.c word)=ac:=by
  have :(os.all λo=>ii o.c word)=((os.map OM.c).all λc=>ii c word):=by rw[oh];rfl
  rw[this,g.c,oh];exact h.c
 refine Il k (vB n) ([.lst []]) word os ⟨rfl,aB (by refine p.symm▸f.symm▸(aV (show os.length<=3 by lia)).symm▸rfl) (aB (fits_of (by rw[az];lia)) ?_)⟩;rw[u5 (by rw[az];lia),g.v];have l:(bh (gs.map GS.o)).reverse=bh (gs.map GS.o).reverse:=(jK ..).symm;have m:(gs.map GS.o).reverse.length=gs.length:=by rw[fj,az]
 have i:((gs.map GS.o).reverse.all OP.ok)=ac:=am.mpr λo z=>OP.qx (am.mp h.f o z);refine dB fs word ((gs.map GS.o).reverse) ⟨by exact l.symm▸rfl,aB (by refine m.symm▸q.symm▸i.symm▸rfl) ?_⟩;refine m.symm▸x.symm▸l.symm▸⟨fs,a,word,C,d,name,(gs.map GS.o).reverse,t.1,t.2,rfl,aB ?_ (u _ _ (dB name b a ⟨rfl,aB h.p w⟩))⟩;unfold Hx;refine v.symm▸h.o.symm▸h.f.symm▸r.symm▸s.symm▸?_;rfl
theorem Dx{F word name:ao}{gs:List GS}{i:List OP}(h:mK F word gs name i){ws:List ao}{d:ao}(D:vS ws d):rQ (cA ws word (gs.map GS.R)) F (.tup [.str "read",qN name d i]):=by
  refine se h.x λv t y n z x w=>?_;have b:=n;unfold nj at b;simp only[af]at b;have A:=b.1;have c:=b.2.1;have u:∀(l:List TT),vA (toks 1 l)=(vB ((l.length:Int)+1)).t:=λl=>by unfold vA;rw[fZ];rfl
  induction D with
  |none=>
    refine ej (tK h.ok h.l (((cA [] word (gs.map GS.R)).length:Int)+1) (1+1)) λos k f=>⟨v,(TT.m word).tok 1::ju k (vB (((cA [] word (gs.map GS.R)).length:Int)+1)) [.lst []] os,y,?_,λQ o=>.inl (.inl ?_)⟩;·rw[u];exact dr (t:=.m word) rfl f.e
    · have q:∃g s,ju k (vB (((cA [] word (gs.map GS.R)).length:Int)+1)) [.lst []] os=g::s/\((∃E G,g=mark E uq G)\/∃e:EN,g=e.t):=by induction os using ai with
        |nil=>exact cM _ _ ⟨rfl,.inr ⟨_,rfl⟩⟩|cons a l=>induction l using ai<;>exact cM a.m _ ⟨rfl,.inl (cM a.kd (Af a.v a.c) rfl)⟩
      refine c8 q λg s e B=>mS 1 word g s ⟨by exact e.symm▸rfl,by refine A.symm▸c.symm▸rfl,B,λC m=>?_⟩;refine e▸I5 h n z x w f o|@one p r=>
    have j:=am.mp F9 p r;unfold PO at j;simp only[af]at j;refine ej (tK h.ok h.l (((cA [p] word (gs.map GS.R)).length:Int)+1) (1+1+1)) λos k f=>⟨v,(TT.m p).tok 1::(TT.m word).tok (1+1)::ju k (vB (((cA [p] word (gs.map GS.R)).length:Int)+1)) [.lst []] os,y,?_,λQ o=>.inl (.inr ?_)⟩;·rw[u];exact dr (t:=.m p) rfl (dr (t:=.m word) rfl f.e)
    ·rw[aL]at c;exact Il 1 (1+1) p word _ ⟨rfl,by refine j.1.symm▸j.2.1.symm▸j.2.2.symm▸A.symm▸rfl,dO c λC m=>I5 h n z x w f o⟩
def OF(p q:W3):Bool:=ag p.1 q.1&&(decide (p.2.1=q.2.1)&&decide (p.2.2=q.2.2))
structure FE where
 fs:List FD
 word:ao
 n:Nat
 xm:Bool
 nm:ao
 z:Int
 s:Int
def FE.b(e:FE)(b:Bool):Bool:=nj e.fs e.word e.n&&(OF (me e.fs e.word e.n e.xm) (e.nm,e.z,e.s)&&(bO e.nm&&(jU e.fs e.nm&&(!ag e.nm ""&&(HX e.word==b)))))
noncomputable def IK:List (ao×Int):=[("",0),("b",8),("w",16),("l",32),("q",64)]
noncomputable def KS:List (ao×Int):=[("",0),("w",16),("l",32),("q",64)]
def T4:List (ao×ao):=FJ.map (λn=>(n,n))++([("shl","sal")]:List (ao×ao))
def XX:List FE:=T4.flatMap λp=>IK.flatMap λs=>[1,2].map λn=>⟨DN p.1,p.2++s.1,n,ae,p.1,s.2,0⟩
def XO:List FE:=p6.flatMap λn=>IK.map λs=>⟨vq n,n++s.1,2,ae,n,s.2,0⟩
def Y4:List FE:=pK.flatMap λn=>IK.map λs=>⟨rs n,n++s.1,2,ae,n,s.2,0⟩
def t8(x:Int×Int)(so b:ao)(z:Int):FE:=⟨G6,(("mov"++so)++bT x.1)++b,2,ae,CO x.1 so,z,x.1⟩
def Y7:List FE:=exts.flatMap λx=>[t8 x "s" (bT x.2) x.2]++cd (decide (x.1<32)) [t8 x "z" (bT x.2) x.2,t8 x "z" "" 0] []
def X6:List FE:=Lq.flatMap λn=>[⟨jV,n++"",1,ae,n,0,0⟩,⟨jV,n++"q",1,ae,n,64,0⟩,⟨jV,n++"w",1,ae,n,16,0⟩]
def Tk:List FE:=MS.flatMap λn=>[⟨jV,n++"",1,ae,n,0,0⟩,⟨jV,n++"q",1,ae,n,64,0⟩]
def XU:List FE:=nw.flatMap λr=>r.flatMap λv=>(Fx (mm r) v).map λx=>⟨gT (mm r),x.2,1,ae,x.1,cd (ag x.2 "callq") 64 0,0⟩
def XW:List FE:=nw.flatMap λr=>r.flatMap λv=>[⟨gC (mm r),("set"++v)++"",1,ae,"set"++mm r,0,0⟩,⟨gC (mm r),("set"++v)++"b",1,ae,"set"++mm r,8,0⟩]
def Ze:List FE:=nw.flatMap λr=>r.flatMap λv=>KS.map λs=>⟨gC (mm r),("cmov"++v)++s.1,2,ae,"cmov"++mm r,s.2,0⟩
def Zi:List FE:=pb.map λx=>⟨oR x.2,x.1,0,ae,x.2,cd (ag x.1 "retq"||ag x.1 "leaveq") 64 0,0⟩
def X5:List FE:=KS.flatMap λs=>[2,3].map λn=>⟨rr,"imul"++s.1,n,ae,"imul",s.2,0⟩
def Ym:List FE:=KS.map λs=>⟨Ax,"lea"++s.1,2,ae,"lea",s.2,0⟩
def XN:List FE:=Bc.map λk=>⟨oQ,k.nm,2,ac,k.nm,0,0⟩
theorem Rk:((XX++(XO++(Y4++(Y7++X6)))).all λe=>e.b ae)=ac:=by kernel_rfl
theorem Xr:((Tk++XU).all λe=>e.b ac)=ac:=by kernel_rfl
theorem Oh:((XW++(Ze++(Zi++(X5++(Ym++XN))))).all λe=>e.b ae)=ac:=by kernel_rfl
structure NF(nm:ao)(tu co im xt le pu wi wd:Bool):Prop where
 tu:dK nm turns=tu
 co:dK nm dC=co
 im:ag nm "imul"=im
 xt:dK nm v0=xt
 le:ag nm "lea"=le
 pu:ag nm "push"=pu
 wi:dK nm uy=wi
 wd:dK nm jm=wd
def AQ(tu co im xt le pu wi wd:Bool)(nm:ao):Bool:=(dK nm turns==tu)&&((dK nm dC==co)&&((ag nm "imul"==im)&&((dK nm v0==xt)&&((ag nm "lea"==le)&&((ag nm "push"==pu)&&((dK nm uy==wi)&&(dK nm jm==wd)))))))
theorem NF.of{e a b i c d g f:Bool}{nm:ao}(h:AQ e a b i c d g f nm=ac):NF nm e a b i c d g f:=by unfold AQ at h;simp only[af,beq_iff_eq]at h;exact⟨h.1,h.2.1,h.2.2.1,h.2.2.2.1,h.2.2.2.2.1,h.2.2.2.2.2.1,h.2.2.2.2.2.2.1,h.2.2.2.2.2.2.2⟩
noncomputable def f0:OP->OP
 |.mem b i s w z a nm=>.mem b i s w 0 a nm|o=>o
theorem sB:(gQ.all λr=>(OP.ce r).bR)=ac:=by kernel_rfl
theorem GR.gen{r:RG}{z:Int}(h:GR r z):lX (.ce r)=ac:=by have k:=h.k;unfold r6 at k;rw[aZ,aI,aI]at k;show dK r.kd ["gpr","high"]=ac;rcases k with k|k<;>refine k.symm▸?_<;>rfl
theorem GR.wQ{r:RG}{z:Int}(h:GR r z):wQ r=ac:=by have k:=h.k;unfold r6 at k;unfold Mine.Internal.wQ;refine k.symm▸?_;rfl
theorem GR.bR{r:RG}{z:Int}(h:GR r z):(OP.ce r).bR=ac:=am.mp sB r h.m
theorem fJ{r:RG}{z a:Int}(h:GR r z)(hd:a=0\/a=z):gf (.ce r) a=ae:=by
 unfold gf;refine h.gen.symm▸?_;show(decide (0<a)&&(ac&&!decide (r.sz=a)))=ae;rcases hd with rfl|rfl;·rfl
 ·refine(decide_eq_true h.z).symm▸bY _
theorem em{o:OP}{a:Int}(h:lX o=ae):gf o a=ae:=by unfold gf;refine h.symm▸bY _
section
variable{fs:List FD}{nm word:ao}{z s:Int}{ops done todo:List OP}{A:List OP->Prop}{E:Prop}
theorem M4(hh:jU fs nm=ac)(f:ag nm ""=ae)(a:(ag nm "push"&&jc ops)=ae)(d:ag (fV word 6) "movabs"=ae)(b:iQ nm (mF nm ops) z s=ae)(c:dz fs nm z s [] (mF nm ops) A):AT fs word nm ops z s A E:=by refine dO (by refine f.symm▸hh.symm▸rfl) (dO ?_ (aB (by refine d.symm▸rfl) (dO b c)));induction e:ag nm "push"with
 |false=>rfl|true=>rw[e]at a;have a:jc ops=ae:=a;refine a.symm▸bY _
theorem jA{r:RG}(h:dz fs nm z s (done++[.ce r]) todo A):dz fs nm z s done (.ce r::todo) A:=h
theorem k8{b i:Option RG}{c w k:Int}{a n:ao}(d:ag nm "lea"=ae)(e:rV nm (done++.mem b i c w 0 a n::todo) z s=aa k)(h:dz fs nm z s (done++[.mem b i c w k a n]) todo A):dz fs nm z s done (.mem b i c w 0 a n::todo) A:=by refine dO d (ge rfl ?_);rw[e];exact h
theorem jW{R:List TT}{o:OP}{b:Bool}{k:Int}(d:n9 k R o b)(a:ag nm "lea"=ae)(c:b=ac->rV nm (done++f0 o::todo) z s=aa k)(h:dz fs nm z s (done++[o]) todo A):dz fs nm z s done (f0 o::todo) A:=by induction d with
 |ce=>exact h|mem=>exact k8 a (c rfl) h
theorem L1(h:0<s):rV nm ops z s=aa s:=by unfold rV;refine(decide_eq_true h).symm▸?_;rfl
theorem ng(h:0<z):rV nm ops z 0=aa z:=by unfold rV;refine(decide_eq_true h).symm▸?_;rfl
theorem L2{v:Int}(b:dK nm uy=ae)(a:fQ (dN nm ops)=aa v):rV nm ops 0 0=aa v:=by
 unfold rV;refine b.symm▸?_;show(match fQ (dN nm ops)with
  |aa v=>aa v|ak=>cd (dK nm jm) (aa 64) ak)=aa v;exact a.symm▸rfl
theorem Gl(b:dK nm uy=ae)(a:fQ (dN nm ops)=ak)(hd:dK nm jm=ac):rV nm ops 0 0=aa 64:=by
 unfold rV;refine b.symm▸?_;show(match fQ (dN nm ops)with
  |aa v=>aa v|ak=>cd (dK nm jm) (aa 64) ak)=aa 64;refine a.symm▸hd.symm▸?_;rfl
theorem gE{a:Type}{l:List a}(h:dK nm dC=ae):dN nm l=l:=by unfold dN;refine h.symm▸?_;rfl
theorem Fy{c:Type}{a b:c}(h:dK nm dC=ac):dN nm [a,b]=[a]:=by unfold dN;refine h.symm▸?_;rfl
theorem po_2{x y:OP}(a:(ag nm "imul"&&fe y)=ae)(b:(dK nm v0&&hP y)=ae):mF nm [x,y]=[x,y]:=by show cd (gJ x) (cd (ag nm "imul"&&fe y) [x,x,y] (cd (dK nm v0&&hP y) [y,x] [x,y])) [x,y]=_;refine a.symm▸b.symm▸?_;cases gJ x<;>rfl
theorem I9{x y:OP}(a:gJ x=ae):mF nm [x,y]=[x,y]:=by show cd (gJ x) (cd (ag nm "imul"&&fe y) [x,x,y] (cd (dK nm v0&&hP y) [y,x] [x,y])) [x,y]=_;refine a.symm▸?_;rfl
theorem jZ{R:List TT}{o:OP}{b:Bool}{k a:Int}(c:n9 k R o b)(hd:a=0\/a=k):gf (f0 o) a=ae:=by induction c with
 |ce h=>exact fJ h hd|mem=>exact em rfl
theorem chk_2{x y:OP}(a:gf x z=ae)(b:gf y z=ae):iQ nm [x,y] z 0=ae:=by
 have D:∀j:Nat,nv z 0 j=z:=λj=>rfl;delta iQ dN;have :r9 z 0 0 [x,y]=ae:=by show(gf x z||(gf y z||ae))=ae;refine a.symm▸b.symm▸?_;rfl
 have t:r9 z 0 0 [x]=ae:=by show(gf x z||ae)=ae;refine a.symm▸?_;rfl
 induction dK nm dC&&aU 2 [x,y].length with
 |true=>exact t|false=>exact this
end
section
set_option exponentiation.threshold 300
def Sv(gs:List GS)(word:ao)(br:Bool):Prop:=∀g∈gs,g.c=0\/(br=ae/\g.c=2)\/(stN word=ac/\g.c=1)\/(br=ac/\g.c=3)
theorem M6{gs:List GS}{word:ao}{b:Bool}(h:Sv gs word b)(c:HX word=b):(gs.all λg=>ii g.c word)=ac:=am.mpr λg d=>by
 unfold ii;rcases h g d with e|⟨a,e⟩|⟨a,e⟩|⟨a,e⟩;·refine e.symm▸rfl
 ·refine e.symm▸c.symm▸a.symm▸rfl
 ·refine e.symm▸a.symm▸rfl
 ·refine e.symm▸c.symm▸a.symm▸rfl
theorem gI{F nm:ao}{gs:List GS}{d:List OP}(e:FE){b:Bool}(i:e.b b=ac)(p:(F,e.fs)∈sets)(t:e.n=gs.length)(w:(gs.map GS.o).reverse.any OP.xm=e.xm)(j:e.nm=nm)(x:∀g∈gs,g.ok)(s:gs.length<=3)(q:Sv gs e.word b)(r:((gs.map GS.o).reverse.all OP.bR)=ac)(u:gR (gs.map GS.o).reverse=ac)(v:gR d=ac)(o:jU e.fs nm=ac->ag nm ""=ae->ag (fV e.word 6) "movabs"=ae->∀(A:List OP->Prop)(E:Prop),A d->AT e.fs e.word nm (gs.map GS.o).reverse e.z e.s A E):mK F e.word gs nm d:=by
 subst j;dsimp only[FE.b]at i;simp only[af,beq_iff_eq,aL]at i;refine Ws i λf h k l m n=>?_;rw[t]at f h;refine⟨(cM e.fs ((e.z,e.s)) ⟨p,f,?_,k,?_⟩),x,s,M6 q n,r,u,v⟩;·refine w.symm▸?_;dsimp only[OF]at h;simp only[af,decide_eq_true_iff,aI]at h;refine fi h λa b c=>Prod.ext a (Prod.ext b c)
 ·dsimp only[nj]at f;simp only[af,aL]at f;exact o l m f.2.2.2.2.2.2
theorem u7{R:List TT}{o:OP}{b:Bool}{k:Int}(a:n9 k R o b):∃c,nO R (f0 o) c/\(c=0\/c=2):=by induction a with
 |@ce r h=>exact⟨0,mz h.m h.wQ,.inl rfl⟩|mem h=>refine⟨_,wo h,?_⟩;induction hJ _ with
  |true=>exact .inr rfl|false=>exact .inl rfl
theorem Jv{r:RG}{z:Int}(h:GR r z):(OP.ce r).xm=ae:=by have k:=h.k;unfold r6 at k;rw[aZ,aI,aI]at k;show ag r.kd "xmm"=ae;rcases k with k|k<;>refine k.symm▸?_<;>rfl
theorem ke{R:List TT}{o:OP}{b:Bool}{k:Int}(a:n9 k R o b):(f0 o).xm=ae/\(f0 o).bR=ac:=by induction a with
 |ce h=>exact⟨Jv h,h.bR⟩|mem=>exact⟨rfl,rfl⟩
theorem KR{z:Int}(h:z∈z4):(bT z,z)∈IK:=by
  rcases aD.mp h with rfl|h;·exact .tail _ (.head _)
  · rcases aD.mp h with rfl|h;·exact .tail _ (.tail _ (.head _))
    · rcases aD.mp h with rfl|h;·exact .tail _ (.tail _ (.tail _ (.head _)))
      ·cases aF.mp h;exact .tail _ (.tail _ (.tail _ (.tail _ (.head _))))
theorem FK{z:Int}(h:z∈z3):(bT z,z)∈KS:=by
  rcases aD.mp h with rfl|h;·exact .tail _ (.head _)
  · rcases aD.mp h with rfl|h;·exact .tail _ (.tail _ (.head _))
    ·cases aF.mp h;exact .tail _ (.tail _ (.tail _ (.head _)))
theorem i6{z:Int}(h:kz z=ac):0<z:=by have :=i7 h;simp only[aD,dW,or_false]at this;lia
theorem mA{z:Int}{s:ao}{b:Bool}(c:z∈z4)(h:s=bT z\/(b=ae/\s="")):∃k,(s,k)∈IK/\(k=0\/k=z)/\(b=ac->k=z):=by
 rcases h with rfl|⟨a,rfl⟩;·exact⟨z,KR c,.inr rfl,λz9=>rfl⟩
 ·exact⟨0,.head _,.inl rfl,λh=>cy (a.symm.trans h)⟩
theorem ql{z:Int}{s:ao}(a:z∈z3)(h:s=bT z\/s=""):∃k,(s,k)∈KS/\(k=0\/k=z):=by
 rcases h with rfl|rfl;·exact⟨z,FK a,.inr rfl⟩
 ·exact⟨0,.head _,.inl rfl⟩
theorem isI_65{z w:Int}{nm:ao}{l:List TT}(c:kz z=ac)(h:JW z w nm l):-9223372036854775808<=w/\w<=9223372036854775808:=by
 have a:=h.lo;have b:=h.hi;have :=i7 c;simp only[aD,dW,or_false]at this;clear c h;rcases this with rfl|rfl|rfl|rfl;·have a:-(2:Int)^7<=w:=a;have b:w<(2:Int)^7:=b;exact iB ‹_› ‹_› rfl rfl
 ·have a:-(2:Int)^15<=w:=a;have b:w<(2:Int)^15:=b;exact iB ‹_› ‹_› rfl rfl
 ·have a:-(2:Int)^31<=w:=a;have b:w<(2:Int)^31:=b;exact iB ‹_› ‹_› rfl rfl
 ·have a:-(2:Int)^63<=w:=a;have b:w<(2:Int)^63:=b;exact iB ‹_› ‹_› rfl rfl
theorem Mz{z w:Int}{nm:ao}{l:List TT}(a:kz z=ac)(h:JW z w nm l):nO ([.s "$"]++l) (.d6 w nm) 0:=wq (tq h.s h.nk (isI_65 a h)) h.nk h.s.len
theorem jB{l:List FE}{b:Bool}(h:(l.all λe=>e.b b)=ac){e:FE}(m:e∈l):e.b b=ac:=am.mp h e m
def kf(l:Ln):Prop:=∃gs,gs.map GS.R=l.groups/\mK l.zd l.word gs l.name l.ops
theorem eZ{fs:List FD}{nm word:ao}{k s:Int}{A:List OP->Prop}{E:Prop}(b a:List OP)(g:ag nm "push"=ae\/jc b=ae)(i:mF nm b=a)(c:iQ nm a k s=ae)(d:dz fs nm k s [] a A)(hh:jU fs nm=ac)(f:ag nm ""=ae)(e:ag (fV word 6) "movabs"=ae):AT fs word nm b k s A E:=by
 subst i;refine M4 hh f ?_ e c d;rcases g with h|h<;>refine h.symm▸?_;·rfl
 ·exact bY _
theorem BS:(FJ.all (AQ ac ac ae ae ae ae ae ae))=ac:=by kernel_rfl
theorem BU{nm w s:ao}{k:Int}{n:Nat}(a:nm∈FJ)(c:w=nm\/(nm="shl"/\w="sal"))(b:(s,k)∈IK)(h:n∈[1,2]):(⟨DN nm,w++s,n,ae,nm,k,0⟩:FE).b ae=ac:=by
 refine jB Rk (av _ (aC.mpr ⟨(nm,w),?_,aC.mpr ⟨(s,k),b,aG.mpr ⟨n,h,rfl⟩⟩⟩));rcases c with rfl|⟨rfl,rfl⟩;·exact av _ (aG.mpr ⟨_,a,rfl⟩)
 ·exact an _ (.head _)
theorem wu{nm:ao}(h:nm∈FJ):(Rl nm,DN nm)∈sets:=av _ (av _ (av _ (av _ (av _ (av _ (aG.mpr ⟨nm,h,rfl⟩))))))
theorem BV{fs:List FD}{nm word:ao}{z k:Int}{R:List TT}{o y:OP}{b:Bool}{A:List OP->Prop}(f:NF nm ac ac ae ae ae ae ae ae)(a:n9 z R o b)(g:z∈z4)(e:k=0\/k=z)(d:b=ac->k=z)(c:dz fs nm k 0 [o] [y] A):iQ nm [f0 o,y] k 0=ae/\dz fs nm k 0 [] [f0 o,y] A:=by
 refine⟨?_,jW a f.le (λh=>?_) c⟩;· unfold iQ;refine(Fy f.co).symm▸?_;show(gf (f0 o) k||ae)=ae;refine(jZ a e).symm▸?_;rfl
 refine(d h).symm▸ng (i6 (jM g))
theorem HB:(gQ.all λr=>!(ag r.kd "gpr"&&(decide (r.num=1)&&decide (r.sz=8)))||ag r.nm "cl")=ac:=by kernel_rfl
theorem CZ{l:Ln}(h:LShift l):kf l:=by induction h with
  |@one z nm w s R o b h=>
    refine xK λK B=>?_;have f:=NF.of (am.mp BS nm h.hn);refine aE (u7 h.ho) λc v t=>cz (mA h.hz h.hs) λk u i r=>B ?_;refine⟨[⟨R,f0 o,c⟩],rfl,gI ⟨DN nm,w++s,1,ae,nm,k,0⟩ (BU h.hn h.hw u (.head _)) (wu h.hn) rfl (by show((f0 o).xm||ae)=ae;refine((ke h.ho).1).symm▸rfl) rfl (λg a=>?_) (aj rfl) (λg a=>?_) (by show((f0 o).bR&&ac)=ac;refine((ke h.ho).2).symm▸rfl) rfl rfl λj m p A E q=>?_⟩;·refine(aF.mp a).symm▸v
    ·refine(aF.mp a).symm▸t.elim .inl λh=>.inr (.inl ⟨rfl,h⟩)
    · have e:=BV (fs:=DN nm) (word:=w++s) (y:=.d6 1 "") f h.ho h.hz i r (A:=A) q;have x:mF nm [f0 o]=[f0 o,.d6 1 ""]:=by show cd (dK nm turns) [f0 o,.d6 1 ""] [f0 o]=_;refine f.tu.symm▸?_;rfl
      exact eZ (nm:=nm) [f0 o] _ (.inl f.pu) x e.1 e.2 j m p|@d6 z nm w s R o b d l h I J F=>
    refine xK λL C=>?_;have f:=NF.of (am.mp BS nm h.hn);refine aE (u7 h.ho) λc v t=>cz (mA h.hz h.hs) λk u i r=>C ?_;have y:nO ([.s "$"]++l) (.d6 d "") 0:=wq (q6 F (iB ‹_› ‹_› rfl rfl)) rfl (by have :=F.len;exact nT ‹_› rfl);refine⟨[⟨[.s "$"]++l,.d6 d "",0⟩,⟨R,f0 o,c⟩],rfl,gI ⟨DN nm,w++s,2,ae,nm,k,0⟩ (BU h.hn h.hw u (.tail _ (.head _))) (wu h.hn) rfl (by show((f0 o).xm||ae)=ae;refine((ke h.ho).1).symm▸rfl) rfl (λg a=>?_) (aj rfl) (λg a=>?_) (by show((f0 o).bR&&ac)=ac;refine((ke h.ho).2).symm▸rfl) rfl rfl λj m p A E q=>?_⟩
    · rcases aD.mp a with rfl|a;·exact y
      ·refine(aF.mp a).symm▸v
    · rcases aD.mp a with rfl|a;·exact .inl rfl
      ·refine(aF.mp a).symm▸t.elim .inl λh=>.inr (.inl ⟨rfl,h⟩)
    ·have e:=BV (fs:=DN nm) (word:=w++s) (y:=.d6 d "") f h.ho h.hz i r (A:=A) q;have x:mF nm [f0 o,.d6 d ""]=[f0 o,.d6 d ""]:=po_2 (by refine f.im.symm▸rfl) (bY _);exact eZ (nm:=nm) [f0 o,.d6 d ""] _ (.inl f.pu) x e.1 e.2 j m p|@cl z nm w s R o b n h G=>
    refine xK λM D=>?_;have f:=NF.of (am.mp BS nm h.hn);refine aE (u7 h.ho) λc v t=>cz (mA h.hz h.hs) λk u i r=>?_;have H:n="cl":=by
      have :=am.mp HB _ G;rw[aZ]at this;rcases this with h|h;·exact cy ((show(!(ac&&(ac&&ac)))=ac from h))
      ·exact aI.mp h
    refine D ?_;subst H;have y:nO [.r "cl"] (.ce ⟨"cl","gpr",1,8⟩) 0:=mz G rfl;refine⟨[⟨[.r "cl"],.ce ⟨"cl","gpr",1,8⟩,0⟩,⟨R,f0 o,c⟩],rfl,gI ⟨DN nm,w++s,2,ae,nm,k,0⟩ (BU h.hn h.hw u (.tail _ (.head _))) (wu h.hn) rfl (by show((f0 o).xm||_)=ae;refine((ke h.ho).1).symm▸rfl) rfl (λg a=>?_) (aj rfl) (λg a=>?_) (by show((f0 o).bR&&_)=ac;refine((ke h.ho).2).symm▸rfl) rfl rfl λj m p A E q=>?_⟩
    · rcases aD.mp a with rfl|a;·exact y
      ·refine(aF.mp a).symm▸v
    · rcases aD.mp a with rfl|a;·exact .inl rfl
      ·refine(aF.mp a).symm▸t.elim .inl λh=>.inr (.inl ⟨rfl,h⟩)
    ·have e:=BV (fs:=DN nm) (word:=w++s) (y:=.ce ⟨"cl","gpr",1,8⟩) f h.ho h.hz i r (A:=A) q;have x:mF nm [f0 o,.ce ⟨"cl","gpr",1,8⟩]=[f0 o,.ce ⟨"cl","gpr",1,8⟩]:=po_2 (by refine f.im.symm▸rfl) (bY _);exact eZ (nm:=nm) [f0 o,.ce ⟨"cl","gpr",1,8⟩] _ (.inl f.pu) x e.1 e.2 j m p
end
section
set_option exponentiation.threshold 300
def CW(word:ao)(br:Bool)(c:Int):Prop:=c=0\/(br=ae/\c=2)\/(stN word=ac/\c=1)\/(br=ac/\c=3)
structure OG(word:ao)(br:Bool)(xm:Bool)(g:GS):Prop where
 ok:g.ok
 c:CW word br g.c
 x:g.o.xm=xm
 f:g.o.bR=ac
section
variable{F:ao}{e:FE}{b:Bool}{ops:List OP}
abbrev V7(e:FE)(rd ops:List OP):Prop:=jU e.fs e.nm=ac->ag e.nm ""=ae->ag (fV e.word 6) "movabs"=ae->∀(A:List OP->Prop)(E:Prop),A ops->AT e.fs e.word e.nm rd e.z e.s A E
theorem yK{g:GS}{x:Bool}(i:e.b b=ac)(f:(F,e.fs)∈sets)(j:e.n=1)(l:(x||ae)=e.xm)(h:OG e.word b x g)(k:gR ops=ac)(d:V7 e [g.o] ops):mK F e.word [g] e.nm ops:=gI e i f j (by show(g.o.xm||ae)=_;exact h.x.symm▸l.symm▸rfl) rfl (λc a=>by refine(aF.mp a).symm▸h.ok) (aj rfl) (λc a=>by refine(aF.mp a).symm▸h.c) (by show(g.o.bR&&ac)=ac;refine h.f.symm▸rfl) rfl k d
theorem js{g g':GS}{x c:Bool}(i:e.b b=ac)(f:(F,e.fs)∈sets)(j:e.n=2)(l:(c||(x||ae))=e.xm)(h:OG e.word b x g)(h':OG e.word b c g')(k:gR ops=ac)(d:V7 e [g'.o,g.o] ops):mK F e.word [g,g'] e.nm ops:=gI e i f j (by show(g'.o.xm||(g.o.xm||ae))=_;exact h.x.symm▸h'.x.symm▸l.symm▸rfl) rfl (λq a=>(aD.mp a).elim (λe=>e▸h.ok) λa=>aF.mp a▸h'.ok) (aj rfl) (λq a=>(aD.mp a).elim (λe=>e▸h.c) λa=>aF.mp a▸h'.c) (by show(g'.o.bR&&(g.o.bR&&ac))=ac;refine h.f.symm▸h'.f.symm▸rfl) rfl k d
theorem Qj{g g' a:GS}{x i f:Bool}(l:e.b b=ac)(k:(F,e.fs)∈sets)(m:e.n=3)(p:(f||(i||(x||ae)))=e.xm)(h:OG e.word b x g)(h':OG e.word b i g')(d:OG e.word b f a)(n:gR [a.o,g'.o,g.o]=ac)(o:gR ops=ac)(j:V7 e [a.o,g'.o,g.o] ops):mK F e.word [g,g',a] e.nm ops:=gI e l k m (by show(a.o.xm||(g'.o.xm||(g.o.xm||ae)))=_;exact h.x.symm▸h'.x.symm▸d.x.symm▸p.symm▸rfl) rfl (λq c=>(aD.mp c).elim (λe=>e▸h.ok) λc=>(aD.mp c).elim (λe=>e▸h'.ok) λc=>aF.mp c▸d.ok) (aj rfl) (λq c=>(aD.mp c).elim (λe=>e▸h.c) λc=>(aD.mp c).elim (λe=>e▸h'.c) λc=>aF.mp c▸d.c) (by show(a.o.bR&&(g'.o.bR&&(g.o.bR&&ac)))=ac;refine h.f.symm▸h'.f.symm▸d.f.symm▸rfl) n o j
end
theorem iM{word:ao}{b:Bool}{r:RG}{z:Int}(h:GR r z):OG word b ae ⟨[.r r.nm],.ce r,0⟩:=⟨mz h.m h.wQ,.inl rfl,Jv h,h.bR⟩
theorem wR{word:ao}{b:Bool}{z w:Int}{nm:ao}{l:List TT}(a:kz z=ac)(h:JW z w nm l):OG word b ae ⟨[.s "$"]++l,.d6 w nm,0⟩:=⟨Mz a h,.inl rfl,rfl,rfl⟩
theorem kS{word:ao}{R:List TT}{o:OP}{b:Bool}{k:Int}(a:n9 k R o b):∃c,OG word ae ae ⟨R,f0 o,c⟩:=by refine aE (u7 a) λc h d=>⟨c,h,d.elim .inl λh=>.inr (.inl ⟨rfl,h⟩),(ke a).1,(ke a).2⟩
theorem rf{nm:ao}{a:List OP}{k z:Int}(e:0<z)(c:k=0\/k=z)(d:dK nm uy=ae)(b:fQ (dN nm a)=aa z):rV nm a k 0=aa z:=by
 rcases c with rfl|rfl;·exact L2 d b
 ·exact ng e
theorem jv{r:RG}{z:Int}{l:List OP}(h:GR r z):fQ (.ce r::l)=aa z:=by show cd (lX (.ce r)) (aa r.sz) (fQ l)=aa z;refine h.gen.symm▸h.z▸?_;rfl
theorem iO{o:OP}{l:List OP}(h:lX o=ae):fQ (o::l)=fQ l:=by show cd (lX o) (aa o.sz) (fQ l)=fQ l;refine h.symm▸?_;rfl
theorem Bi:(p6.all (AQ ae ae ae ae ae ae ae ae))=ac:=by kernel_rfl
theorem Bj{nm s:ao}{k:Int}(a:nm∈p6)(b:(s,k)∈IK):(⟨vq nm,nm++s,2,ae,nm,k,0⟩:FE).b ae=ac:=jB Rk (an _ (av _ (aC.mpr ⟨nm,a,aG.mpr ⟨(s,k),b,rfl⟩⟩)))
theorem we{nm:ao}(h:nm∈p6):(Hc nm,vq nm)∈sets:=av _ (av _ (av _ (av _ (av _ (an _ (aG.mpr ⟨nm,h,rfl⟩))))))
theorem yq{a:ao}{b i:Option RG}{c w z:Int}{n:ao}{l:List TT}(h:je a b i c w n l):n9 z l (.mem b i c w z a n) ac:=.mem h
theorem L8{l:Ln}(h:vT l):kf l:=by induction h with
 |@d6 z w nm s n l R o b e d y j G=>refine xK λI B=>?_;have f:=NF.of (am.mp Bi nm d);refine cz (mA e y) λk x g F=>aQ (kS (word:=nm++s) j) λc v=>B ?_;refine⟨[⟨[.s "$"]++l,.d6 w n,0⟩,⟨R,f0 o,c⟩],rfl,js (e:=⟨vq nm,nm++s,2,ae,nm,k,0⟩) (Bj d x) (we d) rfl rfl (wR (jM e) G) v rfl λp q t A E u=>?_⟩;refine eZ (nm:=nm) [f0 o,.d6 w n] _ (.inl f.pu) (po_2 (by refine f.im.symm▸rfl) (bY _)) (chk_2 (jZ j g) (em rfl)) (jW j f.le (λh=>?_) u) p q t;refine(F h).symm▸ng (i6 (jM e))|@ce z nm s R o b r e d y j m=>have f:=NF.of (am.mp Bi nm d);refine cz (mA (b:=ae) e (y.imp id λh=>⟨rfl,h⟩)) λk x g H=>aQ (kS (word:=nm++s) j) λc v=>⟨[⟨[.r r.nm],.ce r,0⟩,⟨R,f0 o,c⟩],rfl,js (e:=⟨vq nm,nm++s,2,ae,nm,k,0⟩) (Bj d x) (we d) rfl rfl (iM m) v rfl λp q t A E u=>?_⟩;refine eZ (nm:=nm) [f0 o,.ce r] _ (.inl f.pu) (po_2 (by refine f.im.symm▸rfl) (bY _)) (chk_2 (jZ j g) (fJ m g)) (jW j f.le (λh=>?_) u) p q t;subst h;cases j with|mem C=>exact rf (i6 (jM e)) g f.wi (by refine(gE f.co).symm▸jv m)
 |@mem z nm s r a b i D w n l e d y m C=>have f:=NF.of (am.mp Bi nm d);refine cz (mA (b:=ae) e (y.imp id λh=>⟨rfl,h⟩)) λk x g H=>aQ (kS (word:=nm++s) (yq (z:=z) C)) λc v=>⟨[⟨l,.mem b i D w 0 a n,c⟩,⟨[.r r.nm],.ce r,0⟩],rfl,js (e:=⟨vq nm,nm++s,2,ae,nm,k,0⟩) (Bj d x) (we d) rfl rfl v (iM m) rfl λp q t A E u=>?_⟩;refine eZ (nm:=nm) [.ce r,.mem b i D w 0 a n] _ (.inl f.pu) (po_2 (by refine f.im.symm▸rfl) (by refine f.xt.symm▸rfl)) (chk_2 (fJ m g) (em rfl)) (jA (k8 (k:=z) f.le ?_ u)) p q t;exact rf (i6 (jM e)) g f.wi (by refine(gE f.co).symm▸jv m)
theorem Ro:(pK.all (AQ ae ae ae ac ae ae ae ae))=ac:=by kernel_rfl
theorem JB{nm s:ao}{k:Int}(a:nm∈pK)(b:(s,k)∈IK):(⟨rs nm,nm++s,2,ae,nm,k,0⟩:FE).b ae=ac:=jB Rk (an _ (an _ (av _ (aC.mpr ⟨nm,a,aG.mpr ⟨(s,k),b,rfl⟩⟩))))
theorem D3{nm:ao}(h:nm∈pK):(nm++" rm*,r* bwlq",rs nm)∈sets:=av _ (av _ (av _ (av _ (an _ (aG.mpr ⟨nm,h,rfl⟩)))))
theorem Uk{nm:ao}{r:RG}{y:OP}:mF nm [.ce r,y]=cd (ag nm "imul"&&fe y) [.ce r,.ce r,y] (cd (dK nm v0&&hP y) [y,.ce r] [.ce r,y]):=rfl
theorem GB{l:Ln}(h:sS l):kf l:=by induction h with|@mk z nm s r a b i d w n l t y e D g C=>have f:=NF.of (am.mp Ro nm e);refine cz (mA (b:=ae) y (D.imp id λh=>⟨rfl,h⟩)) λk x u F=>aQ (kS (word:=nm++s) (yq (z:=z) C)) λc v=>?_;have B:rV nm [.mem b i d w 0 a n,.ce r] k 0=aa z:=rf (i6 (jM y)) u f.wi (by refine(gE f.co).symm▸(iO rfl).trans (jv g));have q:iQ nm [.mem b i d w 0 a n,.ce r] k 0=ae:=chk_2 (em rfl) (fJ g u);induction t with
 |true=>refine⟨[⟨l,.mem b i d w 0 a n,c⟩,⟨[.r r.nm],.ce r,0⟩],rfl,js (e:=⟨rs nm,nm++s,2,ae,nm,k,0⟩) (JB e x) (D3 e) rfl rfl v (iM g) rfl λj m o A E p=>?_⟩;refine eZ (nm:=nm) [.ce r,.mem b i d w 0 a n] [.mem b i d w 0 a n,.ce r] (.inl f.pu) ?_ q (k8 (k:=z) f.le B p) j m o;rw[Uk,f.im,f.xt];rfl|false=>refine⟨[⟨[.r r.nm],.ce r,0⟩,⟨l,.mem b i d w 0 a n,c⟩],rfl,js (e:=⟨rs nm,nm++s,2,ae,nm,k,0⟩) (JB e x) (D3 e) rfl rfl (iM g) v rfl λj m o A E p=>?_⟩;exact eZ (nm:=nm) [.mem b i d w 0 a n,.ce r] _ (.inl f.pu) (I9 rfl) q (k8 (k:=z) f.le B p) j m o
end
section
set_option exponentiation.threshold 300
theorem Rs:((["movzx","movsx","movsxd"]:List ao).all (AQ ae ae ae ae ae ae ac ae))=ac:=by kernel_rfl
theorem Rr:(exts.all λx=>Pf.all λa=>dK (CO x.1 a.1) ["movzx","movsx","movsxd"])=ac:=by kernel_rfl
theorem eE{F:ao}{g:List FD}(h:(F,g)∈([(Hd,G6),(AD,jV),(vy,rr),(MU,Ax),(DY,oQ),(tY,jw)]:List (ao×List FD))):(F,g)∈sets:=an _ h
theorem Rt{x:Int×Int}{d:ao×Bool}{b:ao}(i:x∈exts)(c:d∈Pf)(j:d.2=ae->x.1<32)(g:b=bT x.2\/(d.2=ae/\b="")):∃k,(t8 x d.1 b k).b ae=ac/\(k=0\/k=x.2):=by
  have f:∀{e:FE},e∈[t8 x "s" (bT x.2) x.2]++cd (decide (x.1<32)) [t8 x "z" (bT x.2) x.2,t8 x "z" "" 0] []->e.b ae=ac:=λh=>jB Rk (an _ (an _ (an _ (av _ (aC.mpr ⟨x,i,h⟩)))));rcases aD.mp c with rfl|c
  · rcases g with rfl|⟨h,_⟩;·exact⟨x.2,f (.head _),.inr rfl⟩
    ·exact mX h
  · cases aF.mp c;have a:=decide_eq_true (j rfl);rcases g with rfl|⟨_,rfl⟩;·exact⟨x.2,f (by refine a.symm▸.tail _ (.head _)),.inr rfl⟩
    ·exact⟨0,f (by refine a.symm▸.tail _ (.tail _ (.head _))),.inl rfl⟩
theorem Me{l:Ln}(h:xE l):kf l:=by induction h with|@mk x e b r R o C m a B y n i=>
 refine aE (Rt m a B y) λk g s=>?_;have d:dK (CO x.1 e.1) ["movzx","movsx","movsxd"]=ac:=am.mp (am.mp Rr x m) e a;have f:=NF.of (am.mp Rs _ (qs d));refine aQ (kS (word:=(t8 x e.1 b k).word) i) λc z=>⟨[⟨R,f0 o,c⟩,⟨[.r r.nm],.ce r,0⟩],rfl,js (e:=t8 x e.1 b k) g (eE (.head _)) rfl rfl z (iM n) rfl λt u v A E w=>?_⟩;have j:0<x.1:=i6 (DZ m).1;refine eZ (nm:=CO x.1 e.1) [.ce r,f0 o] _ (.inl f.pu) (po_2 (by refine f.im.symm▸rfl) (by refine f.xt.symm▸rfl)) ?_ (jA (jW (k:=x.1) i f.le (λz9=>L1 j) w)) t u v;unfold iQ;refine(gE f.co).symm▸?_;show(gf (.ce r) (nv k x.1 0)||(gf (f0 o) (nv k x.1 1)||ae))=ae;have p:nv k x.1 0=k:=by unfold nv;refine(decide_eq_true j).symm▸rfl
 have q:nv k x.1 1=x.1:=by unfold nv;refine(decide_eq_true j).symm▸rfl
 refine p.symm▸q.symm▸(fJ n s).symm▸(jZ i (.inr rfl)).symm▸?_;rfl
theorem PD:AQ ae ae ac ae ae ae ae ae "imul"=ac:=by kernel_rfl
theorem I8{s:ao}{k:Int}{n:Nat}(a:(s,k)∈KS)(h:n∈[2,3]):(⟨rr,"imul"++s,n,ae,"imul",k,0⟩:FE).b ae=ac:=jB Oh (an _ (an _ (an _ (av _ (aC.mpr ⟨(s,k),a,aG.mpr ⟨n,h,rfl⟩⟩)))))
theorem chk_3{nm:ao}{x y v:OP}{z:Int}(d:dK nm dC=ae)(a:gf x z=ae)(b:gf y z=ae)(c:gf v z=ae):iQ nm [x,y,v] z 0=ae:=by unfold iQ;refine(gE d).symm▸?_;show(gf x z||(gf y z||(gf v z||ae)))=ae;refine a.symm▸b.symm▸c.symm▸?_;rfl
theorem GA{l:Ln}(h:rO l):kf l:=by have f:=NF.of PD;induction h with
 |@two z s w nm l r e t n a=>refine aE (ql e t) λk p d=>⟨[⟨[.s "$"]++l,.d6 w nm,0⟩,⟨[.r r.nm],.ce r,0⟩],rfl,js (e:=⟨rr,"imul"++s,2,ae,"imul",k,0⟩) (I8 p (.head _)) (eE (.tail _ (.tail _ (.head _)))) rfl rfl (wR rfl n) (iM a) rfl λg i j A E m=>?_⟩;exact eZ (nm:="imul") [.ce r,.d6 w nm] [.ce r,.ce r,.d6 w nm] (.inl f.pu) rfl (chk_3 f.co (fJ a d) (fJ a d) (em rfl)) m g i j|@three z s w nm l r R o b e t n a q=>refine aE (ql e t) λk p d=>aQ (kS (word:="imul"++s) q) λc u=>⟨[⟨[.s "$"]++l,.d6 w nm,0⟩,⟨R,f0 o,c⟩,⟨[.r r.nm],.ce r,0⟩],rfl,Qj (e:=⟨rr,"imul"++s,3,ae,"imul",k,0⟩) (I8 p (.tail _ (.head _))) (eE (.tail _ (.tail _ (.head _)))) rfl rfl (wR rfl n) u (iM a) rfl rfl λg i j A E m=>?_⟩;refine eZ (nm:="imul") [.ce r,f0 o,.d6 w nm] [.ce r,f0 o,.d6 w nm] (.inl f.pu) rfl (chk_3 f.co (fJ a d) (jZ q d) (em rfl)) (jA (jW (k:=z) q f.le (λz9=>?_) m)) g i j;exact rf (i6 (rX e)) d f.wi (by rw[gE f.co];exact jv a)
theorem Qm:AQ ae ae ae ae ac ae ae ae "lea"=ac:=by kernel_rfl
theorem Qn{s:ao}{k:Int}(a:(s,k)∈KS):(⟨Ax,"lea"++s,2,ae,"lea",k,0⟩:FE).b ae=ac:=jB Oh (an _ (an _ (an _ (an _ (av _ (aG.mpr ⟨(s,k),a,rfl⟩))))))
theorem DX{fs:List FD}{nm:ao}{z s:Int}{c d:List OP}{A:List OP->Prop}{b i:Option RG}{e w k:Int}{a n:ao}(f:ag nm "lea"=ac)(h:dz fs nm z s (c++[.mem b i e w 0 a n]) d A):dz fs nm z s c (.mem b i e w k a n::d) A:=by refine ge f (h)
theorem Md{l:Ln}(h:AO l):kf l:=by have f:=NF.of Qm;induction h with|@mk z s r a b i e w nm l v u d t=>refine aE (ql v u) λk q g=>aQ (kS (word:="lea"++s) (yq (z:=0) t)) λc p=>⟨[⟨l,.mem b i e w 0 a nm,c⟩,⟨[.r r.nm],.ce r,0⟩],rfl,js (e:=⟨Ax,"lea"++s,2,ae,"lea",k,0⟩) (Qn q) (eE (.tail _ (.tail _ (.tail _ (.head _))))) rfl rfl p (iM d) rfl λj m n A E o=>?_⟩;exact eZ (nm:="lea") [.ce r,.mem b i e w 0 a nm] _ (.inl f.pu) (po_2 rfl rfl) (chk_2 (fJ d g) (em rfl)) (jA (DX f.le o)) j m n
theorem Iz:(Bc.all λk=>AQ ae ae ae ae ae ae ae ae k.nm)=ac:=by kernel_rfl
theorem xZ{k:VK}(h:k∈Bc):(⟨oQ,k.nm,2,ac,k.nm,0,0⟩:FE).b ae=ac:=jB Oh (an _ (an _ (an _ (an _ (an _ (aG.mpr ⟨k,h,rfl⟩))))))
theorem E0:(AU.all λr=>ag r.kd "xmm"&&decide (r.sz=128))=ac:=by kernel_rfl
structure XR(x:RG):Prop where
 m:x∈gQ
 k:x.kd="xmm"
 z:x.sz=128
theorem sd{x:RG}(h:x∈AU):XR x:=by have :=am.mp E0 x h;rw[af,aI,decide_eq_true_iff]at this;exact⟨dM (hG h),this.1,this.2⟩
theorem XR.gen{x:RG}(h:XR x):lX (.ce x)=ae:=by show dK x.kd ["gpr","high"]=ae;refine h.k.symm▸?_;rfl
theorem Gj{word:ao}{b:Bool}{x:RG}(h:XR x):OG word b ac ⟨[.r x.nm],.ce x,0⟩:=⟨mz h.m (by unfold wQ;refine h.k.symm▸rfl),.inl rfl,by show ag x.kd "xmm"=ac;refine h.k.symm▸rfl,am.mp sB x h.m⟩
theorem tC{nm:ao}{a:List OP}(c:dK nm uy=ae)(b:fQ (dN nm a)=ak)(hd:dK nm jm=ae):rV nm a 0 0=ak:=by
 unfold rV;refine c.symm▸?_;show(match fQ (dN nm a)with
  |aa v=>aa v|ak=>cd (dK nm jm) (aa 64) ak)=ak;refine b.symm▸hd.symm▸?_;rfl
theorem tX{fs:List FD}{nm:ao}{c d:List OP}{A:List OP->Prop}{b i:Option RG}{e w k:Int}{a n:ao}(f:ag nm "lea"=ae)(g:rV nm (c++.mem b i e w 0 a n::d) 0 0=ak)(j:NU fs nm (c++.mem b i e w 0 a n::d) (c.length:Int) k)(h:dz fs nm 0 0 (c++[.mem b i e w k a n]) d A):dz fs nm 0 0 c (.mem b i e w 0 a n::d) A:=by refine dO f (ge rfl ?_);rw[g];exact⟨k,j,h⟩
theorem L7{l:Ln}(h:xD l):kf l:=by induction h with
 |@mem k x a b i s w n l t m u B=>
  have f:=NF.of (am.mp Iz k m);have e:=sd u;refine aQ (kS (word:=k.nm) (yq (z:=k.size) B)) λc y=>?_;have v:x=⟨x.nm,"xmm",x.num,128⟩:=by obtain⟨a,b,c,d⟩:=x;have g:=e.k;have j:=e.z;dsimp only at g j;exact g.symm▸j.symm▸rfl
  induction t with
  |true=>
   refine⟨[⟨[.r x.nm],.ce x,0⟩,⟨l,.mem b i s w 0 a n,c⟩],rfl,js (e:=⟨oQ,k.nm,2,ac,k.nm,0,0⟩) (xZ m) (eE (.tail _ (.tail _ (.tail _ (.tail _ (.head _)))))) rfl rfl (Gj e) y rfl λg j o A E p=>?_⟩;refine eZ (nm:=k.nm) [.mem b i s w 0 a n,.ce x] _ (.inl f.pu) (I9 rfl) (chk_2 (em rfl) (em e.gen)) (tX (k:=k.size) f.le ?_ ?_ p) g j o;·exact tC f.wi (by refine(gE f.co).symm▸(iO rfl).trans (iO e.gen)) f.wd
   ·refine v.symm▸.vm m|false=>
   refine⟨[⟨l,.mem b i s w 0 a n,c⟩,⟨[.r x.nm],.ce x,0⟩],rfl,js (e:=⟨oQ,k.nm,2,ac,k.nm,0,0⟩) (xZ m) (eE (.tail _ (.tail _ (.tail _ (.tail _ (.head _)))))) rfl rfl y (Gj e) rfl λg j o A E p=>?_⟩;refine eZ (nm:=k.nm) [.ce x,.mem b i s w 0 a n] _ (.inl f.pu) (po_2 (by refine f.im.symm▸rfl) (by refine f.xt.symm▸rfl)) (chk_2 (em e.gen) (em rfl)) (jA (tX (k:=k.size) f.le ?_ ?_ p)) g j o;·exact tC f.wi (by refine(gE f.co).symm▸(iO e.gen).trans (iO rfl)) f.wd
   ·refine v.symm▸.vr m
 |@ce k x r t m z u q=>have f:=NF.of (am.mp Iz k m);have e:=sd u;induction t with
  |true=>refine⟨[⟨[.r x.nm],.ce x,0⟩,⟨[.r r.nm],.ce r,0⟩],rfl,js (e:=⟨oQ,k.nm,2,ac,k.nm,0,0⟩) (xZ m) (eE (.tail _ (.tail _ (.tail _ (.tail _ (.head _)))))) rfl rfl (Gj e) (iM q) rfl λg j o A E p=>?_⟩;exact eZ (nm:=k.nm) [.ce r,.ce x] _ (.inl f.pu) (po_2 (by refine f.im.symm▸rfl) (by refine f.xt.symm▸rfl)) (chk_2 (fJ q (.inl rfl)) (em e.gen)) p g j o|false=>refine⟨[⟨[.r r.nm],.ce r,0⟩,⟨[.r x.nm],.ce x,0⟩],rfl,js (e:=⟨oQ,k.nm,2,ac,k.nm,0,0⟩) (xZ m) (eE (.tail _ (.tail _ (.tail _ (.tail _ (.head _)))))) rfl rfl (iM q) (Gj e) rfl λg j o A E p=>?_⟩;exact eZ (nm:=k.nm) [.ce x,.ce r] _ (.inl f.pu) (po_2 (by refine f.im.symm▸rfl) (by refine f.xt.symm▸rfl)) (chk_2 (em e.gen) (fJ q (.inl rfl))) p g j o
end
section
set_option exponentiation.threshold 300
theorem IH:(r7.all λd=>AQ ae ae ae ae ae ae ae ae ("set"++d)&&AQ ae ae ae ae ae ae ae ae ("cmov"++d))=ac:=by kernel_rfl
theorem t9{u v:ao}(h:jg u v):u∈r7/\∃r∈nw,v∈r/\u=mm r:=by obtain⟨r,a,e,b⟩:=h;exact⟨aG.mpr ⟨r,a,e.symm⟩,r,a,b,e⟩
theorem JN{d:ao}(h:d∈r7):(fC d,gC d)∈sets:=av _ (av _ (an _ (aG.mpr ⟨d,h,rfl⟩)))
theorem OZ{d:ao}(h:d∈r7):(fT d,gT d)∈sets:=av _ (av _ (av _ (an _ (aG.mpr ⟨d,h,rfl⟩))))
theorem C0{l:Ln}(h:mL l):kf l:=by induction h with
 |@set u v s R o b p D d=>
  (refine bB (t9 p) λj t=>cz t λr C F G=>?_;subst G);have m:=am.mp IH _ j;rw[af]at m;have f:=NF.of m.1;have H:∃k,(⟨gC (mm r),("set"++v)++s,1,ae,"set"++mm r,k,0⟩:FE).b ae=ac/\(k=0\/k=8):=by
   have I:∀{e:FE},e∈([⟨gC (mm r),("set"++v)++"",1,ae,"set"++mm r,0,0⟩,⟨gC (mm r),("set"++v)++"b",1,ae,"set"++mm r,8,0⟩]:List FE)->e.b ae=ac:=λh=>jB Oh (av _ (aC.mpr ⟨r,C,aC.mpr ⟨v,F,h⟩⟩));rcases D with rfl|rfl;·exact⟨8,I (.tail _ (.head _)),.inr rfl⟩
   ·exact⟨0,I (.head _),.inl rfl⟩
  refine aE H λk a i=>aQ (kS (word:=("set"++v)++s) d) λc B=>⟨[⟨R,f0 o,c⟩],rfl,yK (e:=⟨gC (mm r),("set"++v)++s,1,ae,"set"++mm r,k,0⟩) a (JN j) rfl rfl B rfl λw x y A E n=>?_⟩;refine eZ (nm:="set"++mm r) [f0 o] [f0 o] (.inl f.pu) (by show cd (dK ("set"++mm r) turns) [f0 o,.d6 1 ""] [f0 o]=_;refine f.tu.symm▸rfl) ?_ ?_ w x y;·dsimp only[iQ];refine(gE f.co).symm▸?_;show(gf (f0 o) k||ae)=ae;refine(jZ d i).symm▸?_;rfl
  ·induction d with
   |ce=>exact n|mem L=>
    clear H L;rcases i with rfl|rfl;·exact tX (k:=8) f.le (tC f.wi (by refine(gE f.co).symm▸iO rfl) f.wd) (.set j) n
    ·exact k8 (k:=8) f.le (ng (show(0:Int)<8 by decide)) n
 |@HA u v s z q R o b p J D g d=>(refine bB (t9 p) λj t=>cz t λr C F G=>?_;(clear p t;subst G));have m:=am.mp IH _ j;rw[af]at m;have f:=NF.of m.2;refine aE (ql J D) λk K i=>?_;have a:(⟨gC (mm r),("cmov"++v)++s,2,ae,"cmov"++mm r,k,0⟩:FE).b ae=ac:=jB Oh (an _ (av _ (aC.mpr ⟨r,C,aC.mpr ⟨v,F,aG.mpr ⟨(s,k),K,rfl⟩⟩⟩)));refine aQ (kS (word:=("cmov"++v)++s) d) λc B=>⟨[⟨R,f0 o,c⟩,⟨[.r q.nm],.ce q,0⟩],rfl,js (e:=⟨gC (mm r),("cmov"++v)++s,2,ae,"cmov"++mm r,k,0⟩) a (JN j) rfl rfl B (iM g) rfl λw x y A E n=>?_⟩;refine eZ (nm:="cmov"++mm r) [.ce q,f0 o] _ (.inl f.pu) (po_2 (by refine f.im.symm▸rfl) (by refine f.xt.symm▸rfl)) (chk_2 (fJ g i) (jZ d i)) (jA (jW (k:=z) d f.le (λz9=>?_) n)) w x y;exact rf (i6 (rX J)) i f.wi (by refine(gE f.co).symm▸jv g)
theorem NP{x:ao×ao}(h:x∈pb):(fA x.2,oR x.2)∈sets:=av _ (an _ (aG.mpr ⟨x,h,rfl⟩))
theorem C1{l:Ln}(h:pc l):kf l:=by induction h with|@mk x b=>have a:(⟨oR x.2,x.1,0,ae,x.2,cd (ag x.1 "retq"||ag x.1 "leaveq") 64 0,0⟩:FE).b ae=ac:=jB Oh (an _ (an _ (av _ (aG.mpr ⟨x,b,rfl⟩))));refine⟨[],rfl,gI ⟨oR x.2,x.1,0,ae,x.2,cd (ag x.1 "retq"||ag x.1 "leaveq") 64 0,0⟩ a (NP b) rfl rfl rfl (λg h=>nomatch h) (dp _) (λg h=>nomatch h) rfl rfl rfl λc d e A E f=>?_⟩;refine eZ (nm:=x.2) [] [] (.inr rfl) rfl ?_ f c d e;dsimp only[iQ,dN];cases dK x.2 dC&&aU 2 ([]:List OP).length<;>rfl
theorem Rh:(MS.all (AQ ae ae ae ae ae ae ae ac))=ac:=by kernel_rfl
theorem Rg:(Tk.all λe=>stN e.word)=ac:=by kernel_rfl
theorem Lp{nm:ao}(h:nm∈Lq):∃p,NF nm ae ae ae ae ae p ae ac:=by
 rcases aD.mp h with rfl|h;·exact⟨ac,NF.of rfl⟩
 ·cases aF.mp h;exact⟨ae,NF.of rfl⟩
theorem chk_1{nm:ao}{x:OP}{z:Int}(b:dK nm dC=ae)(a:gf x z=ae):iQ nm [x] z 0=ae:=by unfold iQ;refine(gE b).symm▸?_;show(gf x z||ae)=ae;refine a.symm▸?_;rfl
theorem po_1{nm:ao}{x:OP}(h:dK nm turns=ae):mF nm [x]=[x]:=by show cd (dK nm turns) [x,.d6 1 ""] [x]=_;refine h.symm▸?_;rfl
theorem yA{R:List TT}{o:OP}{b:Bool}{k:Int}(a:n9 k R o b):jc [f0 o]=ae:=by induction a<;>rfl
theorem uK{fs:List FD}{nm:ao}{p:Bool}{R:List TT}{o:OP}{b:Bool}{z k:Int}{A:List OP->Prop}(f:NF nm ae ae ae ae ae p ae ac)(d:n9 z R o b)(g:0<z)(e:k=z\/(k=0/\(b=ac->z=64)))(h:A [o]):dz fs nm k 0 [] [f0 o] A:=by
 refine jW (k:=z) d f.le (λc=>?_) h;clear h;rcases e with rfl|⟨rfl,a⟩;·exact ng g
 ·refine(a c).symm▸?_;clear a;subst c;cases d with|mem=>exact Gl f.wi (by refine(gE f.co).symm▸iO rfl) f.wd
theorem Cv{nm:ao}(h:nm∈Lq){e:FE}(a:e∈([⟨jV,nm++"",1,ae,nm,0,0⟩,⟨jV,nm++"q",1,ae,nm,64,0⟩,⟨jV,nm++"w",1,ae,nm,16,0⟩]:List FE)):e.b ae=ac:=jB Rk (an _ (an _ (an _ (an _ (aC.mpr ⟨nm,h,a⟩)))))
theorem DV{nm:ao}(h:nm∈MS){e:FE}(a:e∈([⟨jV,nm++"",1,ae,nm,0,0⟩,⟨jV,nm++"q",1,ae,nm,64,0⟩]:List FE)):e∈Tk:=aC.mpr ⟨nm,h,a⟩
theorem Gf{R:List TT}{o:OP}{b:Bool}{k:Int}(a:n9 k R o b):nO ([.s "*"]++R) (f0 o) 1:=by induction a with
 |ce h=>exact FG h.m h.wQ|mem h=>exact FH h
theorem Gi{R:List TT}{o:OP}{b:Bool}{k:Int}(c:n9 k R o b)(d:hJ o=ae):nO R (f0 o) 0:=by induction c with
 |ce h=>exact mz h.m h.wQ|@mem a b i s w e l h=>have :=wo h;rw[show hJ (.mem b i s w 0 a e)=ae from d]at this;exact this
theorem L9{l:Ln}(h:vU l):kf l:=by induction h with
  |@pp nm z R o b s d F y a=>
    refine aQ (Lp d) λp f=>?_;have m:∃k,(⟨jV,nm++s,1,ae,nm,k,0⟩:FE).b ae=ac/\(k=0\/k=z)/\(k=z\/(k=0/\(b=ac->z=64))):=by
      have j:z=64\/z=16:=(aD.mp F).imp id λh=>aF.mp h;rcases y with rfl|⟨w,rfl⟩
      · rcases j with rfl|rfl;·exact⟨64,Cv d (.tail _ (.head _)),.inr rfl,.inl rfl⟩
        ·exact⟨16,Cv d (.tail _ (.tail _ (.head _))),.inr rfl,.inl rfl⟩
      · refine⟨0,Cv d (.head _),.inl rfl,.inr ⟨rfl,λh=>?_⟩⟩;rcases j with rfl|rfl;·rfl
        ·replace w:=h▸w;exact mX w
    refine cz m λk g n x=>?_;have C:0<z:=by
      rcases aD.mp F with rfl|h;·decide
      ·cases aF.mp h;decide
    refine aQ (kS (word:=nm++s) a) λc i=>⟨[⟨R,f0 o,c⟩],rfl,yK (e:=⟨jV,nm++s,1,ae,nm,k,0⟩) g (eE (.tail _ (.head _))) rfl rfl i rfl λq r u A E v=>eZ (nm:=nm) [f0 o] [f0 o] (.inr (yA a)) (po_1 f.tu) (chk_1 f.co (jZ a n)) (uK f a C x v) q r u⟩|@xi nm R o b s t d y H a=>
    have f:=NF.of (am.mp Rh nm d);have m:∃k,(⟨jV,nm++s,1,ae,nm,k,0⟩:FE)∈Tk/\(k=0\/k=64)/\(k=64\/(k=0/\(b=ac->(64:Int)=64))):=by
      rcases y with rfl|rfl;·exact⟨64,DV d (.tail _ (.head _)),.inr rfl,.inl rfl⟩
      ·exact⟨0,DV d (.head _),.inl rfl,.inr ⟨rfl,λz9=>rfl⟩⟩
    refine cz m λk D n x=>?_;have g:(⟨jV,nm++s,1,ae,nm,k,0⟩:FE).b ac=ac:=jB Xr (av _ D);have B:stN (nm++s)=ac:=am.mp Rg (⟨jV,nm++s,1,ae,nm,k,0⟩:FE) D;have i:∃c,OG (nm++s) ac ae ⟨cd t ([.s "*"]++R) R,f0 o,c⟩:=by induction t with
      |true=>exact⟨1,Gf a,.inr (.inr (.inl ⟨B,rfl⟩)),(ke a).1,(ke a).2⟩|false=>
        have G:hJ o=ae:=by induction e:hJ o with
          |false=>rfl|true=>exact cy (H e)
        exact⟨0,Gi a G,.inl rfl,(ke a).1,(ke a).2⟩
    refine aQ i λc i=>⟨[⟨cd t ([.s "*"]++R) R,f0 o,c⟩],rfl,yK (e:=⟨jV,nm++s,1,ae,nm,k,0⟩) g (eE (.tail _ (.head _))) rfl rfl i rfl λq r u A E v=>eZ (nm:=nm) [f0 o] [f0 o] (.inr (yA a)) (po_1 f.tu) (chk_1 f.co (jZ a n)) (uK f a (by decide) x v) q r u⟩
theorem OX:(nw.all λr=>r.all λv=>(Fx (mm r) v).all λx=>!dK x.1 turns&&!dK x.1 dC)=ac:=by kernel_rfl
theorem Ma{l:Ln}(h:AN l):kf l:=by induction h with|@mk u v x w nm l c g y d=>
 (refine bB (t9 c) λq j=>cz j λr e f z=>?_;(clear c j;subst z));refine fi (Le d (in32_65 y)) λp t s=>?_;have a:l.length<=12:=by induction d with
  |sum h=>exact h.len|dot=>have :=dY w;rw[aw];show 2+_<=_;exact nL ‹_› rfl|num h=>have :=h.len;rw[aw];show _+2<=_;exact nR ‹_› rfl
 have b:(⟨gT (mm r),x.2,1,ae,x.1,cd (ag x.2 "callq") 64 0,0⟩:FE).b ac=ac:=jB Xr (an _ (aC.mpr ⟨r,e,aC.mpr ⟨v,f,aG.mpr ⟨x,g,rfl⟩⟩⟩));refine⟨[⟨l,.rel w nm,3⟩],rfl,yK (e:=⟨gT (mm r),x.2,1,ae,x.1,cd (ag x.2 "callq") 64 0,0⟩) b (OZ q) rfl rfl ⟨KI p t s a,.inr (.inr (.inr ⟨rfl,rfl⟩)),rfl,rfl⟩ rfl λk m n A E o=>?_⟩;have i:dK x.1 turns=ae/\dK x.1 dC=ae:=by have :=am.mp (am.mp (am.mp OX r e) v f) x g;simp only[af,aL]at this;exact this
 exact eZ (nm:=x.1) [.rel w nm] [.rel w nm] (.inr rfl) (po_1 i.1) (chk_1 i.2 (em rfl)) o k m n
theorem Mf{l:Ln}(h:um l):kf l:=by induction h with
 |shift h=>exact CZ h|two h=>exact L8 h|Hf h=>exact GB h|ext h=>exact Me h|SL h=>exact L9 h|SN h=>exact Ma h|yd h=>exact C0 h|alone h=>exact C1 h|prod h=>exact GA h|S4 h=>exact Md h|vec h=>exact L7 h
end
section
set_option exponentiation.threshold 5000
structure Zo(v:V)(k:Nat)(d:PyData):Prop where
 e:toD v=aa d
 c:d.canLay0=ac
 k:d.depth<=k
structure V6(l:List V)(k:Nat)(ds:List PyData):Prop where
 e:lV l=aa ds
 c:eh ds=ac
 k:pY ds<=k
abbrev DK(v:V)(k:Nat):Prop:=∃d,Zo v k d
theorem ie{s:ao}{k:Nat}(h:bO s=ac):DK (.str s) k:=⟨.str s,rfl,by show _root_.PySem.PyData.strOk s=ac;rw[<-sOk_eq];exact h,dp _⟩
theorem vD{i:Int}{k:Nat}:DK (.int i) k:=⟨.int i,rfl,rfl,dp _⟩
theorem JD{k:Nat}:∀{l:List V},(∀v∈l,DK v k)->∃a,V6 l k a
 |[],_=>⟨[],rfl,rfl,dp _⟩|v::l,h=>by refine xK λm b=>?_;(refine aQ (h v (.head _)) λd c=>?_;obtain⟨e,f,n⟩:=c);(refine aQ (JD λv j=>h v (.tail _ j)) λa c=>?_;obtain⟨g,i,o⟩:=c);refine b ?_;refine⟨d::a,?_,by show(d.canLay0&&eh a)=ac;refine f.symm▸i.symm▸rfl,by show max d.depth (pY a)<=k;lia⟩;dsimp only[lV];refine e.symm▸g.symm▸?_;rfl
theorem pQ{k:Nat}{l:List V}(h:∀v∈l,DK v k):DK (.tup l) (k+1):=by(refine aQ (JD h) λa d=>?_;obtain⟨b,c,e⟩:=d);refine⟨.tuple a,?_,c,by show pY a+1<=k+1;exact j9 ‹_›⟩;dsimp only[toD];refine b.symm▸?_;rfl
theorem eq_self{v:V}{k:Nat}(h:DK v k)(f:k<=64){Q:Bool->Prop}(q:Q ac):uB v v Q:=by
 (refine aQ h λd c=>?_;obtain⟨b,a,e⟩:=c);unfold uB;refine b.symm▸?_;show gd (dH d&&dH d) (Q (d.eqv d));have s:dH d=ac:=by unfold dH;(refine a.symm▸(decide_eq_true (bC ‹_› ‹_›)).symm▸?_);rfl
 refine aB (by refine s.symm▸?_;rfl) ?_;refine(_root_.PySem.SeqAt.eqv_refl d a).symm▸q
def ER:Option RG->Bool
 |ak=>ac|aa r=>bO r.nm
def OP.r2:OP->Bool
 |.ce r=>bO r.nm|.d6 _ nm=>bO nm|.rel _ nm=>bO nm|.mem b i _ _ _ a nm=>ER b&&(ER i&&(bO a&&bO nm))
theorem Pq{b:Option RG}{k:Nat}(h:ER b=ac):DK (.str ((b.map RG.nm).getD "")) k:=by induction b with
 |none=>exact ie rfl|some r=>exact ie h
theorem all_cons{P:V->Prop}{v:V}{l:List V}(h:P v)(a:∀x∈l,P x):∀x∈v::l,P x:=λx b=>(aD.mp b).elim (λe=>e▸h) (a x)
theorem all_nil{P:V->Prop}:∀x∈([]:List V),P x:=λx h=>nomatch h
theorem Kv{o:OP}(h:o.r2=ac):DK o.told 1:=by induction o with
 |ce r=>exact pQ (all_cons (ie rfl) (all_cons (ie h) all_nil))|d6 w c=>exact pQ (all_cons (ie rfl) (all_cons vD (all_cons (ie h) all_nil)))|rel w c=>exact pQ (all_cons (ie rfl) (all_cons vD (all_cons (ie h) all_nil)))|mem b i s w z a c=>have h:(ER b&&(ER i&&(bO a&&bO c)))=ac:=h;simp only[af]at h;exact pQ (all_cons (ie rfl) (all_cons (Pq h.1) (all_cons (Pq h.2.1) (all_cons vD (all_cons vD (all_cons vD (all_cons (ie h.2.2.1) (all_cons (ie h.2.2.2) all_nil))))))))
theorem Lc{nm b:ao}{a:List OP}(d:bO nm=ac)(e:bO b=ac)(f:a.all OP.r2=ac):DK (.tup [.str "read",qN nm b a]) 4:=by refine pQ (all_cons (ie rfl) (all_cons ?_ all_nil));refine pQ (all_cons (ie d) (all_cons (ie e) (all_cons (pQ λv c=>?_) all_nil)));(refine aE (aG.mp c) λo g h=>?_;(clear c;subst h));exact Kv (am.mp f o g)
theorem iJ:(gQ.all λr=>bO r.nm)=ac:=by kernel_rfl
theorem hW{r:RG}{z:Int}(h:GR r z):(OP.ce r).r2=ac:=am.mp iJ r h.m
theorem oF{a:ao}{b i:Option RG}{s w z:Int}{nm:ao}{l:List TT}(h:je a b i s w nm l):(OP.mem b i s w z a nm).r2=ac:=by
 have d:∀o:Option RG,(∀r,o=aa r->r∈gQ)->ER o=ac:=λo j=>by induction o with
  |none=>rfl|some r=>exact am.mp iJ r (j r rfl)
 have c:ER b=ac/\ER i=ac:=by induction h.pl with
  |bare=>exact⟨rfl,rfl⟩|sum f g=>exact⟨d _ (rH f),d _ λr e=>(qt g r e).1⟩|tail f g=>exact⟨d _ (rH f),d _ λr e=>(qt g r e).1⟩
 show(ER b&&(ER i&&(bO a&&bO nm)))=ac;refine c.1.symm▸c.2.symm▸(B7 h.sg).symm▸((lE h.nk).1).symm▸?_;rfl
theorem iK{R:List TT}{o:OP}{b:Bool}{k:Int}(h:n9 k R o b):o.r2=ac:=by induction h with
 |ce h=>exact hW h|mem h=>exact oF h
theorem SS{o:OP}(h:o.r2=ac):[o].all OP.r2=ac:=by show(o.r2&&ac)=ac;refine h.symm▸rfl
theorem yk{o p:OP}(h:o.r2=ac)(h':p.r2=ac):[o,p].all OP.r2=ac:=by show(o.r2&&(p.r2&&ac))=ac;refine h.symm▸h'.symm▸rfl
theorem s3{o p q:OP}(h:o.r2=ac)(h':p.r2=ac)(a:q.r2=ac):[o,p,q].all OP.r2=ac:=by show(o.r2&&(p.r2&&(q.r2&&ac)))=ac;refine h.symm▸h'.symm▸a.symm▸rfl
theorem Mb{l:Ln}(h:um l):l.ops.all OP.r2=ac:=by induction h with
 |shift h=>induction h with
  |one h=>exact yk (iK h.ho) rfl|d6 h=>exact yk (iK h.ho) rfl|cl h f=>exact yk (iK h.ho) (am.mp iJ _ f)
 |two h=>induction h with
  |d6 d f c b i=>exact yk (iK b) (lE i.nk).1|ce d f c b a=>exact yk (iK b) (hW a)|mem d f c a e=>exact yk (hW a) (oF e)
 |Hf h=>induction h with|mk t d f c a e=>exact yk (oF e) (hW a)
 |ext h=>induction h with|mk g n d o a b=>exact yk (hW a) (iK b)
 |SL h=>induction h with
  |pp f d c b=>exact SS (iK b)|xi t f c q b=>exact SS (iK b)
 |SN h=>induction h with|mk j g r m=>induction m<;>exact SS rfl
 |yd h=>induction h with
  |set j c b=>exact SS (iK b)|HA j d c a b=>exact yk (hW a) (iK b)
 |alone h=>induction h;rfl|prod h=>induction h with
  |two d c i a=>exact s3 (hW a) (hW a) (lE i.nk).1|three d c i a b=>exact s3 (hW a) (iK b) (lE i.nk).1
 |S4 h=>induction h with|mk d c a e=>exact yk (hW a) (oF e)
 |vec h=>induction h with
  |mem t k g e=>induction t<;>first|exact yk (oF e) (am.mp iJ _ (sd g).m)|exact yk (am.mp iJ _ (sd g).m) (oF e)
  |ce t k p g a=>induction t<;>first|exact yk (hW a) (am.mp iJ _ (sd g).m)|exact yk (am.mp iJ _ (sd g).m) (hW a)
end
section
set_option exponentiation.threshold 5000
section
variable{K:bt}{w:aJ}{lf:Bool}{args:List Arg}{Q:Cs->b0->Prop}{X:aq->Prop}
theorem Nh(h:IN lf args Q X):aN pg nt 4 lf 545 args Q X:=by refine bB (bK h) λa b=>?_;clear h;subst a;refine xW b λk e h=>xG h λc h=>?_;rw[strA_eq e];exact bA (congrFun (congrFun (aH.mp BN k (qs c)) Q) X) h
theorem EC:(pb.all λx=>dK x.2 ED)=ac:=by kernel_rfl
theorem FP{p:ao×List FD}(h:p∈sets):h8 p=hZ p:=by
  have b:=aH.mp B3;have a2:=aH.mp B0;have c:=aH.mp BZ;have a:=aH.mp BY;rcases ee.mp h with h|h
  · rcases ee.mp h with h|h
    · rcases ee.mp h with h|h
      · rcases ee.mp h with h|h;·exact b p h
        ·exact a2 p h
      ·exact c p h
    ·(refine aE (aG.mp h) λx d e=>?_;subst e);exact a _ (av _ (aG.mpr ⟨x.2,qs (am.mp EC x d),rfl⟩))
  ·exact a p (an _ h)
theorem Ni(h:KW lf args Q X):aN pg (bM lS) 6 lf 1512 args Q X:=by refine bB (bK h) λb a=>cz a λp e d c=>?_;clear h;subst b;clear a;subst e;exact bA (congrFun (congrFun (FP d) Q) X) c
theorem Qs(a:bo pg K w):iE K w (Sm Seg) 8 lS:=.cons (bq.run a 4 (by decide) λz9 z9 z9 z9=>Nh) .nil
theorem KT(a:bo pg K w):bq K w (Sm Seg) 1512 KW 20:=(Qs a).fn a ci 6 (by decide) λz9 z9 z9 z9=>Ni
def IW(tb:List (aq×aS)):aS:=λlf args Q X=>gd (!lf) (∃fs ts its,args=[.v (cg fs),.c (cJ ts 0),.v cu]/\il Seg its ts/\ts.length<=5000/\NG tb fs its X)
theorem RZ{g:List (aq×aS)}(h:IW g lf args Q X):I7 (Sm Seg) (aN pg (bM g) 18) lf 1348 args Q X:=λa u=>by refine bB (bK h) λn d=>hY d λr z b e t y s=>?_;clear h;subst n;subst e;obtain⟨A,i,o,l,t1⟩:=u;obtain⟨a2,j,p,f,t2⟩:=t1;obtain⟨B,k,q,m,t3⟩:=t2;subst l;subst m;subst t3;(refine aE f λc d v=>?_;(clear f;subst d));subst v;subst q;subst p;subst o;refine⟨[.v (cg r),.c (.ch (.lst b)),.v cu],bl.mk _ _ rfl rfl (bl.mk _ _ rfl ⟨_,rfl,[],z,t,rfl,y⟩ (bl.mk _ _ rfl rfl rfl)),?_⟩;rcases s with⟨h,x⟩|⟨h,x⟩|⟨h,x⟩<;>exact h _ _ x
theorem HT(h:Ck lf args Q X):aN pg nt 8 lf 503 args Q X:=by refine bB (bK h) λa d=>fY d λt w e c b=>Em (aB (by refine a.symm▸rfl) (dB t w "" ⟨e,c,b⟩))
theorem HU(h:Cm lf args Q X):aN pg nt 8 lf 1219 args Q X:=by refine bB (bK h) λd c=>kB c λw C g e a b=>?_;clear h;subst d;clear c;subst e;have i:(⟨aa (gp "rax" 0 64),ak,1,""⟩:KE)∈Tp "rax" "" 0 0:=.tail _ (.tail _ (.head _));refine bA (congrFun (congrFun (aH.mp (JH "rax" "" 0 0 w "" C g) _ i) Q) X) ?_;show br (decide (-2147483648<=w)) (br (!decide (w<2147483648)) (X 99) _) (X 99);unfold hU at a;induction f:decide (-2147483648<=w)with
 |false=>exact b|true=>rw[f,Bool.true_and]at a;refine a.symm▸b
theorem HM(h:tl lf args Q X):yg lf args Q X:=by refine xW h λp e h=>AY e ?_;obtain⟨a,d⟩:=p;induction a using ai with
 |nil=>exact h|cons i g=>refine xG h λb h=>xG h λc h=>aB b (aB c ?_);exact xq h λz9 z9 z9 z9 h C f e=>by subst e;exact h
theorem uY(a:bo pg K w):bq K w (Sm Seg) 1481 tl 8:=dP.pick (gu a gg (1481,yg) (.tail _ (.tail _ (.tail _ (.tail _ (.tail _ (.tail _ (.head _)))))))) (a8 _) λlf f args Q X b=>bB b λe z=>⟨e,HM z⟩
theorem Mr(a:bo pg K w):iE K w (Sm Seg) 32 Ta:=.cons ((uY a).up (by decide))<|.cons (tZ a) (.cons (bq.run a 8 (by decide) λz9 z9 z9 z9=>HT) (.cons (bq.run a 8 (by decide) λz9 z9 z9 z9=>HU) (.cons ((rK a gg).up (by decide)) ((gu a gg).up (by decide)))))
theorem Mq(a:bo pg K w):iE K w (Sm Seg) 32 S9:=.cons ((uY a).up (by decide))<|.cons ((rK a gg).up (by decide)) ((gu a gg).up (by decide))
theorem Ew(b:bo pg K w){a:List (aq×aS)}(h:iE K w (Sm Seg) 32 a):bq K w (Sm Seg) 1348 (IW a) 72:=(lx ci (h.run b ci 18)).pick (by decide) λlf d args Q X c=>bB c λe z=>by subst e;exact RZ z
theorem H8(b:bo pg K w):bq K w (Sm Seg) 1348 IX 72:=dP.pick ((NI b).or ((Ew b (Mr b)).or (Ew b (Mq b)))) (a8 _) λlf f args Q X k=>bB k λe z=>by
 subst e;refine⟨rfl,?_⟩;refine bB (bK z) λc l=>hY l λd j a e g i h=>?_;rcases h with h|h|h;·exact .inl (aB (by refine c.symm▸rfl) (dB d j a ⟨e,g,i,h⟩))
 ·exact .inr (.inl (aB (by refine c.symm▸rfl) (dB d j a ⟨e,g,i,h⟩)))
 ·exact .inr (.inr (aB (by refine c.symm▸rfl) (dB d j a ⟨e,g,i,h⟩)))
theorem Mo(a:bo pg K w):iE K w (Sm Seg) 72 S7:=.cons ((KT a).up (by decide)) (.cons (H8 a) (.cons ((yS a).up (by decide)) .nil))
theorem Dw(a:bo pg K w):bq K w (Sm Seg) 1680 Ch 76:=(Mo a).fn a ci 2 (by decide) λz9 z9 z9 z9=>HR
end
def Vm:V:=TT.row (.s ",")
def WN(Q:Cs->b0->Prop):List V->List (List TT)->Prop
 |acc,[]=>Q [] (.v (.lst acc))|acc,R::l=>gd (fits acc.length) (gd (fits ((acc++[Vm]).length+(bw R).length)) (WN Q ((acc++[Vm])++bw R) l))
def WP(Q:Cs->b0->Prop)(acc:List V):List (List TT)->Prop
 |[]=>Q [] (.v (.lst acc))|R::l=>gd (fits (acc.length+(bw R).length)) (WN Q (acc++bw R) l)
def WO(ws Ov:ao)(word:ao)(a b c:List TT)(Q:Cs->b0->Prop)(X:aq->Prop):List (Prop×Prop):=([[],[ws],[ws,Ov]]:List (List ao)).flatMap λw=>([[],[a],[a,b],[a,b,c]]:List (List (List TT))).map λG=>(aN pg nt 2 ae 1685 [.v (.lst (iU w)),.v (.str word),.v (.lst (G.map cq))] Q X,WP Q (bw (w.map TT.m++[.m word])) G)
theorem Pm(ws d:ao)(word:ao)(a b c:List TT)(Q:Cs->b0->Prop)(X:aq->Prop):(WO ws d word a b c Q X).map (·.1)=(WO ws d word a b c Q X).map (·.2):=by kernel_rfl
end
section
set_option exponentiation.threshold 5000
noncomputable def IY(ws:List ao)(G:List (List TT)):Bool:=aU ws.length 2&&(aU G.length 3&&G.all λR=>aU R.length 24)
def Ce:aS:=λlf args Q z9=>gd (!lf) (∃ws word G,args=[.v (.lst (iU ws)),.v (.str word),.v (.lst (G.map cq))]/\gd (IY ws G) (Q [] (.v (cq (cA ws word G)))))
def I6(nm ic:ao)(ops:List OP):V:=.tup [.str "read",qN nm ic ops]
def G1(l:List TT):Bool:=!l.isEmpty&&(aU l.length 44&&l.all TT.bR)
def Dy(args:List Arg)(A:V->Prop):Prop:=(∃l F nm ic ops,args=[.v (cq l),.v (.str F)]/\gd (G1 l) (rQ l F (I6 nm ic ops)/\A (I6 nm ic ops)))\/∃l F x,args=[.v (cq l),.v (.str F)]/\gd (G1 l) (rQ l F (wJ x)/\A (wJ x))
def Ci:aS:=λlf args Q z9=>gd (!lf) (Dy args λv=>Q [] (.v v))
section
variable{K:bt}{w:aJ}{lf:Bool}{args:List Arg}{Q:Cs->b0->Prop}{X:aq->Prop}
theorem lu(a b:List TT):bw (a++b)=bw a++bw b:=cN
theorem cv(a:List TT):(bw a).length=a.length:=az ..
theorem Ei(h:Ce lf args Q X):aN pg nt 2 lf 1685 args Q X:=by
 obtain⟨u,f,d,G,e,l⟩:=bK h;clear h;subst u;subst e;refine xG l λo h=>?_;unfold IY at o;simp only[af]at o;obtain⟨r,m,s⟩:=o;have r:=aj r;have m:=aj m;have g:∀R∈G,R.length<=24:=λR x=>aj (am.mp s R x);have n:∃p q,f∈([[],[p],[p,q]]:List (List ao)):=by clear l;induction f using ai with
  |nil=>exact cM "" "" (.head _)|cons p f=>induction f using ai with
   |nil=>exact cM p "" (.tail _ (.head _))|cons q f=>induction f using ai with
    |nil=>exact cM p q (.tail _ (.tail _ (.head _)))|cons=>exact absurd (show _+3<=2from r) (by lia)
 refine ej n λp q n=>?_;have i:(bw (f.map TT.m++[.m d])).length<=3:=by rw[cv,aw,az];show _+1<=3;exact nR ‹_› rfl
 have j:∀a:List TT,a++[]=a:=bf;have t:WP Q (bw (f.map TT.m++[.m d])) G/\∃a b c,G∈([[],[a],[a,b],[a,b,c]]:List (List (List TT))):=by clear l s;induction G using ai with
  |nil=>exact⟨by rw[show cA f d []=f.map TT.m++[.m d]from j _]at h;exact h,[],[],[],.head _⟩|cons a G=>have B:=g a (.head _);induction G using ai with
   |nil=>refine⟨aB (fits_of (by rw[cv a];exact nA ‹_› ‹_› rfl)) ?_,a,[],[],.tail _ (.head _)⟩;rw[<-lu];rw[show cA f d [a]=(f.map TT.m++[.m d])++a from congrArg _ (j a)]at h;exact h|cons b G=>
    have C:=g b (.tail _ (.head _));have k:∀L R:List TT,(bw L++[Vm])++bw R=bw (L++(.s ","::R)):=λL R=>by rw[a0,lu];rfl
    induction G using ai with
    |nil=>refine⟨aB (fits_of (by rw[cv a];exact nA ‹_› ‹_› rfl)) ?_,a,b,[],.tail _ (.tail _ (.head _))⟩;rw[<-lu];refine aB (fits_of (by rw[cv,aw];rw[cv]at i;exact nA ‹_› ‹_› rfl)) (aB (fits_of (by rw[aw,cv,cv,aw];rw[cv]at i;show _+1+_<=_;lia)) ?_);rw[k];rw[show cA f d [a,b]=((f.map TT.m++[.m d])++a)++(.s ","::b)from by rw[a0];exact congrArg (λz=>_++(a++(TT.s ","::z))) (j b)]at h;exact h|cons c G=>have D:=g c (.tail _ (.tail _ (.head _)));clear g;induction G using ai with
     |cons=>exact absurd (show _+4<=3from m) (by lia)|nil=>refine⟨aB (fits_of (by refine(cv a).symm▸nA ‹_› ‹_› rfl)) ?_,a,b,c,.tail _ (.tail _ (.tail _ (.head _)))⟩;rw[<-lu];refine aB (fits_of (by rw[cv,aw];rw[cv]at i;exact nA ‹_› ‹_› rfl)) (aB (fits_of (by rw[aw,cv,cv,aw];rw[cv]at i;show _+1+_<=_;lia)) ?_);rw[k];refine aB (fits_of (by rw[cv,aw,aw];rw[cv]at i;show _+_+(_+1)<=_;lia)) (aB (fits_of (by rw[aw,cv,cv,aw,aw];rw[cv]at i;show _+_+(_+1)+1+_<=_;lia)) ?_);rw[k];rw[show cA f d [a,b,c]=(((f.map TT.m++[.m d])++a)++(.s ","::b))++(.s ","::c)from by rw[a0,a0];exact congrArg (λz=>_++(a++(TT.s ","::(b++(TT.s ","::z))))) (j c)]at h;exact h
 refine bB t λv A=>pv A λa b c y=>f4 (Pm p q d a b c Q X) (aC.mpr ⟨f,n,aG.mpr ⟨G,y,rfl⟩⟩) v
theorem yY(b:bo pg K w):bq K w (Sm Seg) 1680 Ci 76:=dP.pick (Dw b) (a8 _) λlf f args Q X g=>bB g λe z=>by
 subst e;refine⟨rfl,?_⟩;refine bB (bK z) λa z=>aB (by refine a.symm▸rfl) ?_;rcases z with⟨l,F,i,d,c,e,h⟩|⟨l,F,x,e,h⟩;·exact dB l F _ ⟨e,h⟩
 ·exact dB l F _ ⟨e,h⟩
end
def lQ:List (aq×aS):=(1673,d5 27 um)::(1685,Ce)::(1680,Ci)::(950,yh)::lD (upTo 11)
noncomputable def SU:List (ao×List ao):=[("",[]),("",[]),("lock",["lock"]),("rep",["repe"]),("rep",["repz"]),("repne",["repnz"]),("rep",["rep"]),("repne",["repne"])]
section
variable(m:Int)(Q:Cs->b0->Prop)(X:aq->Prop)
def X3(oW:ao)(l:Ln)(v:V):Prop:=gd (fits (l.ops.map OP.v).length) (∃nm ops ic,[Arg.v (oM l.name (l.ops.map OP.v) oW)]=[.v (oM nm (bh ops) ic)]/\gd (gR ops) (uB v (.tup [.str "read",qN nm ic ops]) λb=>Q (box (m+1+27)) (.v (.bool b))))
def WR(p:ao×List ao)(l:Ln):Prop:=∃ws word G,[Arg.v (.lst (iU p.2)),.v (.str l.word),.v (.lst (l.groups.map cq))]=[.v (.lst (iU ws)),.v (.str word),.v (.lst (G.map cq))]/\gd (IY ws G) (Dy [.v (cq (cA ws word G)),.v (.str l.zd)] (X3 m Q p.1 l))
theorem Ld:aN pg (bM lQ) 2 ae 1692 [.c (.ch (.int m))] Q X=gd (bm m) (rA (λp=>gd (bm (m+1+27)) (∀l,um l->WR m Q p l)) SU):=by kernel_rfl
end
end
section
set_option exponentiation.threshold 300
theorem j1{a:List TT}(h:a.length<=25):(joinR [a]).length<=40:=by show(a++[]).length<=40;rw[bf];exact nT ‹_› rfl
theorem j2{a b:List TT}(h:a.length+b.length<=39):(joinR [a,b]).length<=40:=by show(a++(TT.s ","::(b++[]))).length<=40;rw[bf,aw];show a.length+(b.length+1)<=40;exact cV ‹_› (by decide)
theorem j3{a b c:List TT}(h:a.length+b.length+c.length<=38):(joinR [a,b,c]).length<=40:=by show(a++(TT.s ","::(b++(TT.s ","::(c++[]))))).length<=40;rw[bf,aw];show a.length+((b++(TT.s ","::c)).length+1)<=40;rw[aw];show a.length+(b.length+(c.length+1)+1)<=40;lia
theorem hL{R:List TT}{o:OP}{b:Bool}{k:Int}(h:n9 k R o b):R.length<=24:=by refine aE (u7 h) λc h z4=>h.l
theorem tw{a:ao}{b i:Option RG}{s w:Int}{nm:ao}{l:List TT}(h:je a b i s w nm l):l.length<=24:=(wo h).l
theorem xf{z w:Int}{nm:ao}{l:List TT}(h:JW z w nm l):([.s "$"]++l:List TT).length<=13:=by have :=h.s.len;show l.length+1<=13;exact nR ‹_› rfl
theorem Mc{l:Ln}(h:um l):(joinR l.groups).length<=40:=by have c:∀x:ao,([.r x]:List TT).length=1:=λz9=>rfl;induction h with
 |shift h=>induction h with
  |one h=>exact j1 (by have :=hL h.ho;exact nT ‹_› rfl)|@d6 z q w s R o b d l h _ _ m=>exact j2 (by have :=hL h.ho;have :=m.len;show(l.length+1)+_<=39;exact W0 ‹_› ‹_› rfl)|cl h j=>exact j2 (by have :=hL h.ho;rw[c];exact nL ‹_› rfl)
 |two h=>induction h with
  |d6 f j e a k=>exact j2 (by have :=hL a;have :=xf k;exact nA ‹_› ‹_› rfl)|ce f j e a g=>exact j2 (by have :=hL a;rw[c];exact nL ‹_› rfl)|mem f j e g i=>exact j2 (by have :=tw i;rw[c];exact nR ‹_› rfl)
 |Hf h=>induction h with|mk t f j e g i=>induction t<;>exact j2 (by have :=tw i;rw[c];lia)
 |ext h=>induction h with|mk n y f A g a=>exact j2 (by have :=hL a;rw[c];exact nR ‹_› rfl)
 |SL h=>induction h with
  |pp j f e a=>exact j1 (by have :=hL a;exact nT ‹_› rfl)|@xi q R o b s t j e C a=>induction t with
   |true=>exact j1 (by have :=hL a;show R.length+1<=25;exact nR ‹_› rfl)|false=>exact j1 (by have :=hL a;show R.length<=25;exact nT ‹_› rfl)
 |SN h=>induction h with|@mk u v x w q l p n D m=>exact j1 (by induction m with
    |sum h=>have :=h.len;exact nT ‹_› rfl|dot=>have :=dY w;rw[aw];show 2+_<=_;exact nL ‹_› rfl|num h=>have :=h.len;rw[aw];show _+2<=_;exact nR ‹_› rfl)
 |yd h=>induction h with
  |set p e a=>exact j1 (by have :=hL a;exact nT ‹_› rfl)|HA p f e g a=>exact j2 (by have :=hL a;rw[c];exact nR ‹_› rfl)
 |alone h=>induction h;exact dp _|prod h=>induction h with
  |two f e k g=>exact j2 (by have :=xf k;rw[c];exact nR ‹_› rfl)|three f e k g a=>exact j3 (by have :=xf k;have :=hL a;rw[c];exact Yg ‹_› ‹_› rfl)
 |S4 h=>induction h with|mk f e g i=>exact j2 (by have :=tw i;rw[c];exact nR ‹_› rfl)
 |vec h=>induction h with
  |mem t r n i=>induction t<;>exact j2 (by have :=tw i;rw[c];lia)|ce t r B n g=>induction t<;>exact j2 (by rw[c,c];decide)
theorem Ao{G:List (List TT)}(h:∀R∈G,R.all TT.bR=ac):(joinR G).all TT.bR=ac:=by induction G with
 |nil=>rfl|cons a G c=>have d:=h a (.head _);have c:=c λR e=>h R (.tail _ e);clear h;induction G using ai with
  |nil=>show(a++[]).all TT.bR=ac;rw[bf];exact d|cons b G=>show(a++(TT.s ","::joinR (b::G))).all TT.bR=ac;refine bQ.symm▸d.symm▸cn.symm▸c.symm▸?_;rfl
theorem Lm:(SU.all λp=>bO p.1&&(aU p.2.length 1&&ac))=ac:=by kernel_rfl
theorem F5{p:ao×List ao}(h:p∈SU):vS p.2 p.1:=by
  have one:∀x,x∈m9->vS [x] (gb x):=λx h=>.one h;rcases aD.mp h with rfl|h;·exact .none
  · rcases aD.mp h with rfl|h;·exact .none
    · rcases aD.mp h with rfl|h;·exact one "lock" (.head _)
      · rcases aD.mp h with rfl|h;·exact one "repe" (.tail _ (.tail _ (.head _)))
        · rcases aD.mp h with rfl|h;·exact one "repz" (.tail _ (.tail _ (.tail _ (.head _))))
          · rcases aD.mp h with rfl|h;·exact one "repnz" (.tail _ (.tail _ (.tail _ (.tail _ (.tail _ (.head _))))))
            · rcases aD.mp h with rfl|h;·exact one "rep" (.tail _ (.head _))
              ·cases aF.mp h;exact one "repne" (.tail _ (.tail _ (.tail _ (.tail _ (.head _)))))
theorem GF{l:Ln}(h:um l){p:ao×List ao}(n:p∈SU){m:Int}{Q:Cs->b0->Prop}(q:Q (box (m+1+27)) (.v (.bool ac))):WR m Q p l:=by
  refine aE (Mf h) λw d a=>?_;have i:=am.mp Lm p n;simp only[af]at i;have f:=aj i.2.1;have j:l.groups.length<=3:=by(refine d▸?_;rw[az]);exact a.l
  have b:∀R∈l.groups,R.length<=24/\R.all TT.bR=ac:=λR b=>by replace b:=d.symm▸b;(refine aE (aG.mp b) λg k z4=>?_;subst z4);exact⟨(a.ok g k).l,(a.ok g k).f⟩
  refine dB p.2 l.word l.groups ⟨rfl,aB ?_ (.inl (Il (cA p.2 l.word l.groups) l.zd l.name p.1 l.ops ⟨rfl,aB ?_ ⟨?_,?_⟩⟩))⟩;· unfold IY;refine(aV (show p.2.length<=2 by exact nT ‹_› rfl)).symm▸(aV j).symm▸am.mpr λR h=>aV (b R h).1
  · unfold G1;have c:(cA p.2 l.word l.groups).length<=44:=by have :=Mc h;unfold cA;(refine aw.symm▸?_;rw[aw,az]);show _+1+_<=44;exact W0 ‹_› ‹_› rfl
    have e:(cA p.2 l.word l.groups).isEmpty=ae:=by unfold cA;clear f j;cases p.2<;>rfl
    have r:(cA p.2 l.word l.groups).all TT.bR=ac:=by
      unfold cA;refine bQ.symm▸bQ.symm▸(Ao λR h=>(b R h).2).symm▸?_;have :(p.2.map TT.m).all TT.bR=ac:=am.mpr λt o=>by(refine aE (aG.mp o) λx z3 z4=>?_;(clear o;subst z4));rfl
      refine this.symm▸?_;rfl
    refine e.symm▸(aV c).symm▸r.symm▸?_;rfl
  ·have :=Dx a (F5 n);replace this:=d▸this;exact this
  ·have u:l.ops.length<=3:=sD a.p;refine aB (fits_of (by rw[az];exact nT ‹_› rfl)) (dB l.name l.ops p.1 ⟨rfl,aB a.p ?_⟩);refine se a.x λy z3 z A B s v=>eq_self (Lc s i.1 (Mb h)) (by decide) q
def tp:aS:=λlf args Q z9=>gd (!lf) (iL args 28 λm as=>gd as.isEmpty (Q (box (m+28)) (.v (.bool ac))))
section
variable{K:bt}{w:aJ}{lf:Bool}{args:List Arg}{Q:Cs->b0->Prop}{X:aq->Prop}
theorem Nj(h:tp lf args Q X):aN pg (bM lQ) 2 lf 1692 args Q X:=by refine bB (bK h) λb d=>?_;clear h;subst b;refine db d λm i e a h=>xG h λc h=>?_;rw[e,aX.mp c,Ld];exact aB (bI a (iZ rfl)) (jE λp g=>aB (bI a (pH rfl)) λl f=>GF f g (by refine(show m+1+27=m+28from by lia).symm▸h))
theorem Qu(a:bo pg K w):iE K w (Sm Seg) 76 lQ:=.cons ((Nn a gg).up (by decide)) (.cons (bq.run a 2 (by decide) λz9 z9 z9 z9=>Ei) (.cons (yY a) (.cons ((yS a).up (by decide)) ((mi a).up (by decide)))))
theorem F2(a:bo pg K w):bq K w (Sm Seg) 1692 tp 80:=(Qu a).fn a ci 2 (by decide) λz9 z9 z9 z9=>Nj
end
end
section
set_option exponentiation.threshold 300
def JI(s:ao)(i:Int)(A:ao->Prop):Prop:=gd (fits s.length&&PySem.fitsSsize i&&(Txt.charAt s i).isSome) (A (Txt.item s i))
def oE:V:=cq [.r "rcx"]
def F3:V:=cq [.r "rax"]
def vY(Q:Cs->b0->Prop)(m:Int)(oW:ao)(ws:List V)(word:ao)(G:List V):Prop:=∃Ov sh G',[Arg.v (.lst ws),.v (.str word),.v (.lst G)]=[.v (.lst (iU Ov)),.v (.str sh),.v (.lst (G'.map cq))]/\gd (IY Ov G') (Q (box m) (.v (.tup [.str oW,cq (cA Ov sh G')])))
noncomputable def TF(v:V):Option (ao×ao):=match v with
 |.tup l=>(match l with
  |[.str a,.str b]=>aa (a,b)|_=>ak)|_=>ak
noncomputable def OH:List (List ao):=[["lock","rep"],["repz","lock"],["rep","rep"]]
noncomputable def Tz:List Int:=[3,0,16,5,6,7,9]
noncomputable def Ww:List (ao×ao):=[("rax","rsp"),("eax","rbx"),("rax","ebx"),("rip","rbx"),("xmm1","rax")]
noncomputable def OE:List ao:=["addd","addlq","jmpl","hltq","movdl","movzlq","pushl"]
noncomputable def XJ:List ao:=["SymbolError","OperandError"]
noncomputable def J5:List ao:=["rip","rex","r16","al1","xmm16"]
noncomputable def WJ(b i:ao):List TT:=[.s "(",.r b,.s ",",.r i,.s ")"]
section
variable(Q:Cs->b0->Prop)(m d:Int)
def KL:Prop:=JI "bwl" (d.fmod 3) λc=>gd (fits (("add":ao).length+c.length)) (vY Q m "ReadError" [] ("add"++c) [oE,F3])
def Pe:Prop:=ro (OH.map λl=>V.lst (iU l)) (d.fmod 3) λv=>wp (nG v) λl=>vY Q m "ReadError" l "add" [oE,F3]
def Pd:Prop:=vY Q m "ReadError" [] "add" [oE,cq [.s "*",.r "rax"]]
def Pc:Prop:=ro (Tz.map V.int) (d.fmod 7) λv=>wp (fu v) λk=>vY Q m "ReadError" [] "add" [cq [.s "(",.r "rax",.s ",",.r "rbx",.s ",",.n k,.s ")"],oE]
def KK:Prop:=ro (Ww.map λp=>V.tup [.str p.1,.str p.2]) (d.fmod 5) λv=>wp (TF v) λp=>vY Q m "OperandError" [] "add" [cq (WJ p.1 p.2),oE]
def Pb:Prop:=gd (bm m) (∀l,dE d l->vY Q (m+1) "OperandError" [] "jmp" [cq l])
def Pa:Prop:=ro (iU OE) (d.fmod 7) λv=>wp (dX v) λw=>vY Q m "ReadError" [] w [oE,F3]
def O9:Prop:=ro [.int (1*2^(31:Int).toNat+d),.int (-1-1*2^(31:Int).toNat-d)] (d.fmod 2) λv=>wp (fu v) λk=>gd (bm m) (∀l,dE k l->jd (bw l) (bw [.s "(",.r "rax",.s ")"]) λL=>vY Q (m+1) "OperandError" [] "add" [.lst L,oE])
def KJ:Prop:=JI "+-" (d.fmod 2) λc=>ro (iU XJ) (d.fmod 2) λv=>wp (dX v) λoW=>vY Q m oW [] "add" [cq [.s "$",.m "alpha",.s c,.m "beta"],oE]
def O8:Prop:=vY Q m "ReadError" [] "add" [cq [.s "(",.r "rax"],oE]
def IJ:Prop:=ro (iU J5) (d.fmod 5) λv=>wp (dX v) λn=>vY Q m "ReadError" [] "add" [cq [.r n],oE]
def II:Prop:=gd (bm m) (∀l,dE d l->jd (bw [.s "$"]) (bw l) λL=>vY Q (m+1) "ReadError" [] "pushw" [.lst L])
end
def LU:List Prop->Nat->Prop
 |[],_=>True|p::l,n=>match n with
  |0=>p|n+1=>LU l n
noncomputable def WH(Q:Cs->b0->Prop)(m d:Int):List Prop:=[KL Q m d,Pe Q m d,Pd Q m,Pc Q m d,KK Q m d,Pb Q m d,Pa Q m d,O9 Q m d,KJ Q m d,O8 Q m,IJ Q m d,II Q m d]
def lY:List (aq×aS):=(1533,qo)::(1685,Ce)::lD (upTo 12)
theorem O7(m:Int)(Q:Cs->b0->Prop)(X:aq->Prop):aN pg (bM lY) 2 ae 1699 [.c (.ch (.int m))] Q X=gd (bm m) (rA (λn=>gd (bm (m+1)) (∀d:Int,0<=d->d<1048576->LU (WH Q (m+1+1) d) n)) (cU 12)):=by kernel_rfl
end
section
set_option exponentiation.threshold 300
def AM(g:List TT):List TT:=cA [] "add" [g,[.r "rcx"]]
noncomputable def Pz:RG:=⟨"rcx","gpr",1,64⟩
noncomputable def N8:RG:=⟨"rax","gpr",0,64⟩
def XK(k:Int):List TT:=AM [.s "(",.r "rax",.s ",",.r "rbx",.s ",",.n k,.s ")"]
def Wu(c:ao):List TT:=AM [.s "$",.m "alpha",.s c,.m "beta"]
def xw:List (List TT×aq):=[(cA [] "add" [[.r "rcx"],[.s "*",.r "rax"]],87)]++Tz.map (λk=>(XK k,87))++Ww.map (λp=>(AM (WJ p.1 p.2),99))++[(Wu "+",111),(Wu "-",99),(AM [.s "(",.r "rax"],87)]++J5.map λn=>(AM [.r n],87)
inductive i9:ao->List TT->Prop|w0{c}(h:c∈(["b","w","l"]:List ao)):i9 "ReadError" (cA [] ("add"++c) [[.r "rcx"],[.r "rax"]])|w1{ws}(h:ws∈OH):i9 "ReadError" (cA ws "add" [[.r "rcx"],[.r "rax"]])|wC{p}(h:p∈xw):i9 (Oi p.2) p.1|w5{d l}(h0:0<=d)(h1:d<1048576)(h:dE d l):i9 "OperandError" (cA [] "jmp" [l])|w6{w}(h:w∈OE):i9 "ReadError" (cA [] w [[.r "rcx"],[.r "rax"]])|w7{k l}(h0:hU k=ae)(h1:-9223372036854775808<=k/\k<=9223372036854775808)(h:dE k l):i9 "OperandError" (cA [] "add" [l++[.s "(",.r "rax",.s ")"],[.r "rcx"]])|TA{d l}(h0:0<=d)(h1:d<1048576)(h:dE d l):i9 "ReadError" (cA [] "pushw" [[.s "$"]++l])
def o9(l:List TT):List V:=toks 1 l++[vA (toks 1 l),.lst []]
def NE(tb:List (aq×aS))(its:List V):Go:=aN pg (bM tb) 18 ae 1348 [.v (cg jw),.c (.ch (.lst its)),.v cu]
section
variable{Q:Cs->b0->Prop}{X:aq->Prop}
theorem H7:(xw.map λp=>NE S9 (o9 p.1) Q X)=xw.map λp=>X p.2:=by kernel_rfl
def Vh(w:Int)(A:Int->Prop):Prop:=∀C' jx,mM w "" (.inst C' jx)->∃t w',[Arg.v (.inst C' jx),.v cu,.v (.str ".")]=[.v t,.v cu,.v (.str ".")]/\mM w' "" t/\A w'
def Xz(kd:ao)(w j:Int):List V:=[(TT.m "jmp").tok 1,eM kd w "",(vB j).t,.lst []]
def Xy(kd:ao)(w j n:Int):List V:=(TT.m "add").tok 1::eM kd w ""::(toks j ([.s "(",.r "rax",.s ")"]++([.s ","]++[.r "rcx"]))++[(vB n).t,.lst []])
theorem Sd(w j:Int):(yN.map λa=>NE Ta (Xz a w j) Q X)=yN.map λa=>∀(C:aq)(fs:Vs),SX (Vh w λz9=>X 99):=by kernel_rfl
theorem Sc(w j n:Int):(yN.map λb=>NE Ta (Xy b w j n) Q X)=yN.map λb=>∀(C:aq)(fs:Vs),SX (Vh w λc=>∃w C' a,[Arg.v (hM (aa N8) ak 1 c 0 "" ""),.v (.inst C fs)]=[.v (hM (aa ⟨"rax","gpr",0,64⟩) ak 1 w 0 "" ""),.v (.inst C' a)]/\hU w=ae/\X 99):=by kernel_rfl
end
end
section
set_option exponentiation.threshold 5000
noncomputable def ct(l:List Int):List V:=l.map V.int
noncomputable def RB:aY->aY×eJ
 |.ListComp e _ sc _=>(e,sc)|_=>(default,default)
noncomputable def VL(v:dG):aY:=by cases v with
 |Assign _ e _=>exact e|_=>exact default
def Eo:aY×eJ:=RB (VL ((fnOf 1493).body[0]?.getD default))
def JR:aY×List dG:=Ay ((fnOf 1493).body[4]?.getD default)
abbrev Sb(m:Nat)(env:Vs)(l acc:List V)(cs:Cs)(Q:List V->Cs->Prop):Prop:=(wv pg s1 m).Comp ⟨env,Eo.2,ae⟩ Eo.1 "cell" [] l acc cs Q
theorem H3(m:Nat)(i:Int)(l acc:List V)(cs:Cs)(Q:List V->Cs->Prop):Sb (m+25) [] (.int i::l) acc cs Q=gd (fits (acc.length+1)) (Sb (m+24) [] l (acc++[.int i]) cs Q):=by kernel_rfl
noncomputable def Ev(S:V)(g s:Int)(e:Vs):Vs:=([("script",S),("cells",.ptr 1),("great",.int g),("state",.int s)]:Vs)++e
abbrev Sa(m:Nat)(S:V)(g s:Int)(e:Vs)(l:List V)(cs:Cs)(Q:Fl->Vs->Cs->Prop)(X:XS):Prop:=(wv pg s1 m).For ⟨Ev S g s e,(fnOf 1493).scope,ae⟩ JR.1 l JR.2 cs Q X
noncomputable def Uv(s c:Int):Int:=(s*48271+c.fmod 2147483647+1979).fmod 2147483647
noncomputable def HE(u:V):Vs:=[("cell",u)]
theorem H0(m:Nat)(S:V)(g s i:Int)(u:V)(l:List V)(cs:Cs)(Q:Fl->Vs->Cs->Prop)(X:XS):([[],HE u].map λe=>Sa (m+25) S g s e (.int i::l) cs Q X)=[[],HE u].map λe=>gd (small s&&small 48271) (Sa (m+24) S g (Uv s i) (HE (.int i)) l cs Q X):=by kernel_rfl
theorem zv{cs:Cs}{Q:List V->Cs->Prop}:∀(l:List Int)(acc:List Int)(m:Nat),acc.length+l.length<=1000->Q (ct (acc++l)) cs->Sb (m+l.length+25) [] (ct l) (ct acc) cs Q
 |[],acc,m,_,h=>by rw[bf]at h;exact h|i::l,acc,m,a,h=>by
  have a:acc.length+(l.length+1)<=1000:=a;show Sb (m+(l.length+1)+25) [] (.int i::ct l) (ct acc) cs Q;(refine(show m+(l.length+1)+25=m+l.length+1+25from by exact rfl).symm▸?_;rw[H3]);refine aB (fits_of (by refine(show(ct acc).length=acc.length from az ..).symm▸?_;lia)) ?_;have e:ct acc++[.int i]=ct (acc++[i]):=by unfold ct;refine cN.symm▸rfl
  refine e.symm▸(show m+l.length+1+24=m+l.length+25from by exact rfl).symm▸zv l (acc++[i]) m (by refine aw.symm▸?_;show acc.length+1+l.length<=1000;exact nC a) (by rw[a0];exact h)
theorem zu{S:V}{g:Int}{cs:Cs}{Q:Fl->Vs->Cs->Prop}{X:XS}:∀(l:List Int)(s:Int)(e:Vs)(m:Nat),s.natAbs<2^60->(e=[]\/∃u,e=HE u)->(∀f a,f.natAbs<2^60->(a=[]\/∃u,a=HE u)->Q .next (Ev S g f a) cs)->Sa (m+l.length+25) S g s e (ct l) cs Q X
 |[],s,e,m,d,b,h=>h s e d b|i::l,s,e,m,d,b,h=>by
  show Sa (m+(l.length+1)+25) S g s e (.int i::ct l) cs Q X;refine(show m+(l.length+1)+25=m+l.length+1+25from by exact rfl).symm▸?_;have c:∃u,e∈([[],HE u]:List Vs):=by
   rcases b with rfl|⟨u,rfl⟩;·exact⟨.none,.head _⟩
   ·exact⟨u,.tail _ (.head _)⟩
  refine aQ c λu c=>bA (aH.mp (H0 (m+l.length+1) S g s i u (ct l) cs Q X) e c) (aB (by refine(m4 (a:=60) d (by decide)).symm▸rfl) ?_);refine(show m+l.length+1+24=m+l.length+25from by exact rfl).symm▸zu l _ _ m ?_ (.inr ⟨_,rfl⟩) h;have j:0<=Uv s i:=dm _ (by decide);have k:Uv s i<2147483647:=fU _ (by decide);lia
noncomputable def EH(i:Int):Int:=if i<0then-i else i
section
variable(S:V)(P:List V)(Q:Cs->b0->Prop)(X:aq->Prop)
abbrev VB(n i:Nat)(env:Vs)(cs:Cs):Prop:=(wv pg s1 n).Ss ⟨env,(fnOf 1493).scope,ae⟩ ((fnOf 1493).body.drop i) cs (xa (aa ac) 0 Q) (λC z9 z9=>X C)
def JS(fl:Fl)(env:Vs)(cs:Cs):Prop:=match fl with
 |.next=>VB Q X 395 5 env cs|fl=>xa (aa ac) 0 Q fl env cs
def Tq(l:List V)(g:Int):Prop:=gd (fits l.length) (Sa 394 S g 1 [] l [.dead (.lst P),.dead (.lst l)] (JS Q X) (λC z9 z9=>X C))
def R6(l:List V):Prop:=VB Q X 399 1 [("script",S),("cells",.ptr 1)] [.dead (.lst P),.lst ae l]
theorem Nz:R6 S P Q X []=Tq S P Q X [] 0:=by kernel_rfl
theorem HW(i:Int)(l:List V):R6 S P Q X (.int i::l)=gd (fits (l.length+1)) (gd (fits (l.length+1)) (br (decide ((10:Int)^(15:Int).toNat<=EH i)) (gd (fits (l.length+1)) (Tq S P Q X (.int i::l) (((EH i).fdiv 2).fmod ((10:Int)^(260:Int).toNat)))) (Tq S P Q X (.int i::l) 0))):=by kernel_rfl
theorem NA(g s:Int)(u:V)(a:V)(l:List V):([[],HE u].map λe=>JS Q X .next (Ev S g s e) [.dead a,.dead (.lst l)])=[[],HE u].map λz9=>Q [] (.fresh ac [.lst l,.int g,.int s,.int 0]):=by kernel_rfl
theorem Ny(s:List Int):aN pg nt 2 ae 1493 [.v (.lst (ct s))] Q X=gd (fits (ct s).length) (gd (fits (ib (ct s) ak (aa 48) ak).length) (Sb 397 [] (ib (ct s) ak (aa 48) ak) [] [.dead (.lst (ib (ct s) ak (aa 48) ak))] λa cs=>VB Q X 399 1 [("script",.lst (ct s)),("cells",.ptr cs.length)] (cs++[.lst ae a]))):=by kernel_rfl
end
def K5:aS:=λlf args Q z9=>gd (!lf) (∃l:List Int,args=[.v (.lst (ct l))]/\l.length<=63/\∀cs g s,nU 0 cs g s 0->Q [] (.fresh ac [.lst (ct cs),.int g,.int s,.int 0]))
noncomputable def GX(n:Nat):List Nat:=sliceRange (sliceBounds ak (aa 48) ak n).1 (sliceBounds ak (aa 48) ak n).2.1 (sliceBounds ak (aa 48) ak n).2.2
theorem GW:((cU 64).all λn=>aU (GX n).length 63)=ac:=by kernel_rfl
theorem Ae(l:List Int):∃c:List Int,ib (ct l) ak (aa 48) ak=ct c/\c.length<=(GX l.length).length:=by refine⟨(GX l.length).filterMap (l[·]?),?_,List.length_filterMap_le ..⟩;delta ib ct;rw[az,List.map_filterMap];refine congrArg (λf=>List.filterMap f (GX l.length)) (funext λi=>?_);exact jk
section
variable{K:bt}{w:aJ}{lf:Bool}{args:List Arg}{Q:Cs->b0->Prop}{X:aq->Prop}
theorem NB{S:V}{P:List V}{c:List Int}{g:Int}(k:c.length<=63)(j:0<=g)(b:g.natAbs<2^3000)(h:∀cs g s,nU 0 cs g s 0->Q [] (.fresh ac [.lst (ct cs),.int g,.int s,.int 0])):Tq S P Q X (ct c) g:=by
 have f:(ct c).length=c.length:=az ..;refine aB (fits_of (by refine f.symm▸nT ‹_› rfl)) ?_;obtain⟨m,a⟩:∃m,394=m+c.length+25:=⟨394-c.length-25,by exact nQ k rfl⟩;refine a.symm▸zu c 1 [] m (by decide) (.inl rfl) λe d l i=>?_;have a:∃u,d∈([[],HE u]:List Vs):=by
  rcases i with rfl|⟨u,rfl⟩;·exact⟨.none,.head _⟩
  ·exact⟨u,.tail _ (.head _)⟩
 obtain⟨u,a⟩:=a;exact bA (aH.mp (NA S Q X g e u (.lst P) (ct c)) d a) (h c g e ⟨by exact nT ‹_› rfl,j,b,l,Int.le_refl _,Int.le_refl _⟩)
theorem RY(h:K5 lf args Q X):aN pg nt 2 lf 1493 args Q X:=by obtain⟨q,l,e,u,o⟩:=bK h;clear h;subst q;subst e;rw[Ny];refine aE (Ae l) λc k r=>?_;have t:=aj (am.mp GW l.length (gi.mpr (cV ‹_› (by decide))));have n:(ct l).length=l.length:=az ..;have a:(ct c).length=c.length:=az ..;refine k.symm▸aB (fits_of (by refine n.symm▸nT ‹_› rfl)) (aB (fits_of (by refine a.symm▸?_;lia)) ?_);obtain⟨m,p⟩:∃m,397=m+c.length+25:=⟨397-c.length-25,by lia⟩;refine p.symm▸zv c [] m (by show 0+_<=1000;lia) ?_;show R6 (.lst (ct l)) (ct c) Q X (ct c);have F:=λg s b=>NB (S:=.lst (ct l)) (P:=ct c) (X:=X) (c:=c) (g:=g) (bC ‹_› ‹_›) s b o;induction c using ai with
  |nil=>show R6 _ _ Q X [];rw[Nz];exact F 0 (by decide) (by decide)|cons i c=>
    show R6 _ (ct (i::c)) Q X (.int i::ct c);rw[HW];have j:(ct c).length=c.length:=az ..;have YI:c.length+1<=63:=by
      have :(i::c).length<=63:=by exact bC ‹_› ‹_›
      exact this
    have f:=fits_of (n:=(ct c).length+1) (by refine j.symm▸nT ‹_› rfl);refine aB f (aB f ?_);clear u t n k r a p j YI;induction v:decide ((10:Int)^(15:Int).toNat<=EH i)with
    |false=>exact F 0 (by decide) (by decide)|true=>
      refine aB f (F _ ?_ ?_);·exact dm _ (by decide)
      · have o:0<=((EH i).fdiv 2).fmod ((10:Int)^(260:Int).toNat):=dm _ (by decide);have x:((EH i).fdiv 2).fmod ((10:Int)^(260:Int).toNat)<(10:Int)^(260:Int).toNat:=fU _ (by decide);have y:(10:Int)^(260:Int).toNat<2^3000:=by decide
        lia
theorem NC(a:bo pg K w):bq K w (Sm Seg) 1493 K5 4:=bq.run a 2 (by decide) λz9 z9 z9 z9=>RY
end
end
section
set_option exponentiation.threshold 300
theorem nD:(tY,jw)∈sets:=eE (.tail _ (.tail _ (.tail _ (.tail _ (.tail _ (.head _))))))
theorem endT_eq(l:List TT):vA (toks 1 l)=(vB ((l.length:Int)+1)).t:=by unfold vA;rw[fZ];rfl
theorem zf{l:List TT}(h:l.all TT.bR=ac):il Seg (o9 l) (toks 1 l++[vA (toks 1 l)]):=by unfold o9;rw[endT_eq];exact jD (jX _) h
def Vl(fs:List FD)(word nm:ao)(ops:List OP)(z s:Int):Bool:=(ag nm ""||!jU fs nm)||((ag nm "push"&&(decide (z=16)&&jc ops))||(!ag (fV word 6) "movabs"&&iQ nm (mF nm ops) z s))
theorem Hv{fs:List FD}{word nm:ao}{a:List OP}{z s:Int}{A:List OP->Prop}{E:Prop}(h:Vl fs word nm a z s=ac)(e:E):AT fs word nm a z s A E:=by unfold Vl at h;unfold AT;induction b:ag nm ""||!jU fs nm with
 |true=>exact e|false=>rw[b]at h;refine dO rfl ?_;induction c:ag nm "push"&&(decide (z=16)&&jc a)with
  |true=>exact e|false=>rw[c]at h;have h:(!ag (fV word 6) "movabs"&&iQ nm (mF nm a) z s)=ac:=h;rw[af]at h;refine dO rfl (aB h.1 ?_);refine h.2.symm▸e
def rk(word:ao)(ops:List OP):Bool:=nj jw word ops.length&&(bO (me jw word ops.length (ops.any OP.xm)).1&&Vl jw word (me jw word ops.length (ops.any OP.xm)).1 ops (me jw word ops.length (ops.any OP.xm)).2.1 (me jw word ops.length (ops.any OP.xm)).2.2)
theorem K7{word:ao}{gs:List GS}(d:rk word (gs.map GS.o).reverse=ac)(A:gs.length<=3)(v:(gs.all λg=>ii g.c word)=ac)(q:((gs.map GS.o).reverse.all OP.bR)=ac)(x:gR (gs.map GS.o).reverse=ac){os:List OM}{k:Nat->Int}{n j:Int}(h:JoinOk gs n j os k){b:ao}{C:aq}{a:Vs}{Q:Cs->b0->Prop}(z:EV Q 87):K8 jw (Tg Q) (EV Q) (ju k (vB n) [.lst []] os) b word C a:=by
 refine xK λD l=>?_;have H:os.length=gs.length:=by have :=congrArg dZ h.c;rwa[az,az]at this
 have m:(gs.map GS.o).reverse.length=gs.length:=by rw[fj,az]
 unfold rk at d;rw[m]at d;simp only[af]at d;refine fi d λe w y=>?_;unfold nj at e;simp only[af]at e;refine Tv e λE F r s t u G=>?_;have f:(os.all λo=>ii o.c word)=ac:=by
  have :(os.all λo=>ii o.c word)=((os.map OM.c).all λc=>ii c word):=by rw[oh];rfl
  rw[this,h.c,oh];exact v
 refine l ?_;refine Il k (vB n) ([.lst []]) word os ⟨rfl,aB (by refine r.symm▸f.symm▸(aV (show os.length<=3 by lia)).symm▸rfl) (aB (fits_of (by rw[az];lia)) ?_)⟩;rw[u5 (by rw[az];lia),h.v];have p:(bh (gs.map GS.o)).reverse=bh (gs.map GS.o).reverse:=(jK ..).symm;have i:((gs.map GS.o).reverse.all OP.ok)=ac:=am.mpr λo B=>OP.qx (am.mp q o B);refine dB jw word ((gs.map GS.o).reverse) ⟨by exact p.symm▸rfl,aB (by refine m.symm▸s.symm▸i.symm▸rfl) ?_⟩;refine m.symm▸p.symm▸⟨jw,b,word,C,a,_,(gs.map GS.o).reverse,_,_,rfl,aB ?_ (Hv y z)⟩;unfold Hx;refine w.symm▸x.symm▸q.symm▸t.symm▸u.symm▸?_;rfl
theorem oO{word:ao}{gs:List GS}(j:rk word (gs.map GS.o).reverse=ac)(v:∀g∈gs,g.ok)(c:gs.length<=3)(o:(gs.all λg=>ii g.c word)=ac)(p:((gs.map GS.o).reverse.all OP.bR)=ac)(q:gR (gs.map GS.o).reverse=ac):rQ (cA [] word (gs.map GS.R)) tY (wJ "ReadError"):=by
  have b:=j;have x:(gs.map GS.o).reverse.length=gs.length:=by rw[fj,az]
  unfold rk nj at b;simp only[af]at b;have t:=b.1.1;have h:=b.1.2.1;refine ej (tK v c (((cA [] word (gs.map GS.R)).length:Int)+1) (1+1)) λos m k=>⟨jw,(TT.m word).tok 1::ju m (vB (((cA [] word (gs.map GS.R)).length:Int)+1)) [.lst []] os,nD,?_,λQ r=>.inl (.inl ?_)⟩;·rw[endT_eq];exact dr (t:=.m word) rfl k.e
  · have f:∃d i,ju m (vB (((cA [] word (gs.map GS.R)).length:Int)+1)) [.lst []] os=d::i/\((∃u w,d=mark u uq w)\/∃e:EN,d=e.t):=by induction os using ai with
      |nil=>exact cM _ _ ⟨rfl,.inr ⟨_,rfl⟩⟩|cons a l=>induction l using ai<;>exact cM a.m _ ⟨rfl,.inl (cM a.kd (Af a.v a.c) rfl)⟩
    refine c8 f λd i e s=>mS 1 word d i ⟨by exact e.symm▸rfl,by refine t.symm▸h.symm▸rfl,s,λC n=>?_⟩;refine e▸K7 j c o p q k r
theorem C8{w:Int}{l:List TT}(h:dE w l)(d:-9223372036854775808<=w/\w<=9223372036854775808):∃a∈yN,∀j is ts,il Seg is ts->il Seg (eM a w ""::is) (toks j l++ts):=by refine aE (ry (q6 h d)) λa c b=>⟨a,gP c,b⟩
theorem D4{w:Int}{A:Int->Prop}(h:A w):Vh w A:=λC b a=>(cM _ w ⟨rfl,a,h⟩)
theorem J6:((["b","w","l"]:List ao).all λc=>rk ("add"++c) [.ce N8,.ce Pz])=ac:=by kernel_rfl
theorem J4:(OE.all λw=>rk w [.ce N8,.ce Pz])=ac:=by kernel_rfl
theorem E9(d:Int):rk "pushw" [.d6 d ""]=ac:=by kernel_rfl
theorem Co:N8∈gQ/\Pz∈gQ:=⟨.head _,.tail _ (.head _)⟩
def U6:List GS:=[⟨[.r "rcx"],.ce Pz,0⟩,⟨[.r "rax"],.ce N8,0⟩]
theorem DO:∀g∈U6,g.ok:=λg a=>(aD.mp a).elim (λe=>e▸mz (r:=Pz) Co.2 rfl) λa=>aF.mp a▸mz (r:=N8) Co.1 rfl
theorem sP:(xw.all λp=>p.1.all TT.bR&&(a7 p.2 87||(a7 p.2 99||a7 p.2 111)))=ac:=by kernel_rfl
theorem AL{f:ao}{l:List TT}(h:i9 f l):rQ l tY (wJ f):=by induction h with
  |@w0 c h=>exact oO (gs:=U6) (am.mp J6 c h) DO (aj rfl) rfl rfl rfl|@w6 w h=>exact oO (gs:=U6) (am.mp J4 w h) DO (aj rfl) rfl rfl rfl|@TA d l n i h=>have D:nO ([.s "$"]++l) (.d6 d "") 0:=wq (q6 h (iB ‹_› ‹_› rfl rfl)) rfl (by have :=h.len;exact nT ‹_› rfl);exact oO (gs:=[⟨[.s "$"]++l,.d6 d "",0⟩]) (E9 d) (λg B=>by rw[aF.mp B];exact D) (aj rfl) rfl rfl rfl|@wC p h=>
    have o:=am.mp sP p h;rw[af]at o;have br:Ij S9 jw (o9 p.1) p.2:=λQ X x=>bA (aH.mp (H7 (Q:=Q) (X:=X)) p h) x;refine⟨jw,o9 p.1,nD,zf o.1,λQ a=>.inr (.inr ?_)⟩;have a:EV Q p.2:=a;have b:=o.2;simp only[aZ]at b;rcases b with b|b|b;·have e:=a9 b;rw[e]at br a;exact .inl ⟨br,a⟩
    ·have e:=a9 b;rw[e]at br a;exact .inr (.inl ⟨br,a⟩)
    ·have e:=a9 b;rw[e]at br a;exact .inr (.inr ⟨br,a⟩)|@w1 F h=>
    have m:∀p q,mb p=ac->dK p m9=ac->nz p=ac->mb q=ac->dK q m9=ac->rQ (cA [p,q] "add" [[.r "rcx"],[.r "rax"]]) tY (wJ "ReadError"):=λp q i v y z A=>by refine⟨jw,o9 _,nD,zf rfl,λQ a=>.inl (.inr (Il 1 (1+1) p q _ ⟨rfl,by refine i.symm▸v.symm▸y.symm▸z.symm▸rfl,ge A a⟩))⟩
    rcases aD.mp h with rfl|h;·exact m _ _ rfl rfl rfl rfl rfl
    · rcases aD.mp h with rfl|h;·exact m _ _ rfl rfl rfl rfl rfl
      ·cases aF.mp h;exact m _ _ rfl rfl rfl rfl rfl|@w5 d l n i h=>
    refine aE (C8 h (iB ‹_› ‹_› rfl rfl)) λj s r=>⟨jw,Xz j d (((cA [] "jmp" [l]).length:Int)+1),nD,?_,λQ a=>.inr (.inl (.inr (.inl ⟨λQ X x=>?_,a⟩)))⟩;·rw[endT_eq];refine dr (t:=.m "jmp") rfl ?_;show il Seg _ (toks (1+1) (l++[])++_);rw[bf];exact r _ _ _ (jX _)
    ·exact bA (aH.mp (Sd (Q:=Q) (X:=X) d (((cA [] "jmp" [l]).length:Int)+1)) j s) λC t z9 z9 z9 z9=>D4 x|@w7 k l n i h=>
    refine aE (C8 h i) λj s r=>⟨jw,Xy j k (1+1+(l.length:Int)) (((cA [] "add" [l++[.s "(",.r "rax",.s ")"],[.r "rcx"]]).length:Int)+1),nD,?_,λQ a=>.inr (.inl (.inr (.inl ⟨λQ X x=>?_,a⟩)))⟩
    · rw[endT_eq];refine dr (t:=.m "add") rfl ?_;have u:joinR [l++[.s "(",.r "rax",.s ")"],[.r "rcx"]]=l++([.s "(",.r "rax",.s ")"]++([.s ","]++[.r "rcx"])):=by show(l++[.s "(",.r "rax",.s ")"])++(TT.s ","::([.r "rcx"]++[]))=_;rw[bf,a0];rfl
      show il Seg _ (toks (1+1) (joinR [l++[.s "(",.r "rax",.s ")"],[.r "rcx"]])++_);have E:∀T:List TT,toks (1+1) (l++T)=toks (1+1) l++toks (1+1+(l.length:Int)) T:=λT=>eC l T _;rw[u,E,a0];exact r _ _ _ (jD (l:=[.s "(",.r "rax",.s ")"]++([.s ","]++[.r "rcx"])) (jX _) rfl)
    ·refine bA (aH.mp (Sc (Q:=Q) (X:=X) k (1+1+(l.length:Int)) _) j s) λC t z9 z9 z9 z9=>D4 (dB k C t ⟨rfl,n,x⟩)
end
section
set_option exponentiation.threshold 5000
def wy:aS:=λlf args Q z9=>gd (!lf) (iL args 3 λm as=>gd as.isEmpty (∀oW l,i9 oW l->Q (box (m+3)) (.v (.tup [.str oW,cq l]))))
theorem lz{l:List V}{k:Int}{Q:V->Prop}(a:0<=k)(c:k<l.length)(d:l.length<=1000)(h:∀v∈l,Q v):ro l k Q:=by
 obtain⟨j,rfl⟩:∃j:Nat,k=(j:Int):=⟨k.toNat,by exact(iG a).symm⟩;have b:j<l.length:=by exact nI c
 exact aB (fits_of (nT ‹_› rfl)) (dO (decide_eq_false (ku.mpr a)) (yr (h _ (List.getElem_mem b)) (bg b)))
theorem ow{Q:Cs->b0->Prop}{m M:Int}{a word:ao}{ws:List ao}{G:List (List TT)}(c:m<=M)(b:IY ws G=ac)(h:Q (box M) (.v (.tup [.str a,cq (cA ws word G)]))):vY (lb M Q) m a (iU ws) word (G.map cq):=(dB ws word G ⟨rfl,aB b (gc h c)⟩)
theorem tD{d k:Int}(a:0<k):0<=d.fmod k/\d.fmod k<k:=⟨dm _ a,fU _ a⟩
theorem KM{Q:Cs->b0->Prop}{m M d:Int}(y:bm M=ac)(hm:m+1<=M)(E:0<=d)(r:d<1048576)(H:∀b l,i9 b l->Q (box M) (.v (.tup [.str b,cq l]))):∀n,LU (WH (lb M Q) m d) n:=by
 have C:∀{p:List TT×aq},p∈xw->Q (box M) (.v (.tup [.str (Oi p.2),cq p.1])):=λh=>H _ _ (.wC h);have o:∀{b i:ao}{ws:List ao},IY ws [[.r "rcx"],[.r "rax"]]=ac->i9 b (cA ws i [[.r "rcx"],[.r "rax"]])->vY (lb M Q) m b (iU ws) i [oE,F3]:=λX h=>ow (G:=[[.r "rcx"],[.r "rax"]]) (yW ‹_› rfl) X (H _ _ h);have j:∀{g:List TT}{C':aq},aU g.length 24=ac->(AM g,C')∈xw->vY (lb M Q) m (Oi C') [] "add" [cq g,oE]:=λ{g}{C'}Y h=>ow (ws:=[]) (G:=[g,[.r "rcx"]]) (yW ‹_› rfl) (by show(ac&&(ac&&(aU g.length 24&&ac)))=ac;refine Y.symm▸?_;rfl) (C h);have B:=tD (d:=d) (k:=3) (by decide);have t:=tD (d:=d) (k:=5) (by decide);have q:=tD (d:=d) (k:=7) (by decide);have A:=tD (d:=d) (k:=2) (by decide);have F:KL (lb M Q) m d:=by
  unfold KL;have z:d.fmod 3=0\/d.fmod 3=1\/d.fmod 3=2:=by lia
  rcases z with e|e|e<;>refine e.symm▸?_;·exact aB rfl (aB rfl (o (ws:=[]) rfl (.w0 (.head _))))
  ·exact aB rfl (aB rfl (o (ws:=[]) rfl (.w0 (.tail _ (.head _)))))
  ·exact aB rfl (aB rfl (o (ws:=[]) rfl (.w0 (.tail _ (.tail _ (.head _))))))
 have G:Pe (lb M Q) m d:=lz (l:=OH.map λl=>V.lst (iU l)) B.1 B.2 (by decide) λv a=>by(refine aE (aG.mp a) λws s c=>?_;subst c);exact o (am.mp (by rfl:(OH.all λws=>IY ws [[.r "rcx"],[.r "rax"]])=ac) ws s) (.w1 s)
 have I:Pd (lb M Q) m:=ow (ws:=[]) (G:=[[.r "rcx"],[.s "*",.r "rax"]]) (yW ‹_› rfl) rfl (C (p:=(_,87)) (av _ (av _ (av _ (av _ (.head _))))));have W3:Pc (lb M Q) m d:=lz (l:=Tz.map V.int) q.1 q.2 (by decide) λv a=>by(refine aE (aG.mp a) λk Z c=>?_;subst c);exact j (C':=87) rfl (av _ (av _ (av _ (an _ (aG.mpr ⟨k,Z,rfl⟩)))))
 have J:KK (lb M Q) m d:=by unfold KK;refine lz t.1 t.2 (by decide) λv a=>?_;(refine aE (aG.mp a) λp hp c=>?_;subst c);exact j (C':=99) rfl (av _ (av _ (an _ (aG.mpr ⟨p,hp,rfl⟩))))
 have K:Pb (lb M Q) m d:=aB (bI y (yW ‹_› rfl)) λl f=>ow (ws:=[]) (G:=[l]) ‹_› (by show(ac&&(ac&&(aU l.length 24&&ac)))=ac;refine(aV (show l.length<=24 by have :=f.len;exact nT ‹_› rfl)).symm▸?_;rfl) (H _ _ (.w5 E r f));have N:Pa (lb M Q) m d:=lz (l:=iU OE) q.1 q.2 (by decide) λv a=>by(refine aE (aG.mp a) λw s c=>?_;subst c);exact o (ws:=[]) rfl (.w6 s)
 have O:O9 (lb M Q) m d:=by
  have D:∀k:Int,hU k=ae->(-9223372036854775808<=k/\k<=9223372036854775808)->gd (bm m) (∀l,dE k l->jd (bw l) (bw [.s "(",.r "rax",.s ")"]) λL=>vY (lb M Q) (m+1) "OperandError" [] "add" [.lst L,oE]):=λk r W=>by refine aB (bI y (yW ‹_› rfl)) λl f=>?_;have :=f.len;have e:(l++[TT.s "(",.r "rax",.s ")"]).length=l.length+3:=aw;refine cP (by show l.length+3<=1000;exact nR ‹_› rfl) (ow (ws:=[]) (G:=[l++[TT.s "(",.r "rax",.s ")"],[.r "rcx"]]) ‹_› ?_ (H _ _ (.w7 r W f)));show(ac&&(ac&&(aU (l++[TT.s "(",.r "rax",.s ")"]).length 24&&(ac&&ac))))=ac;refine(aV (show(l++[TT.s "(",.r "rax",.s ")"]).length<=24 by lia)).symm▸?_;rfl
  have S:hU (1*2^(31:Int).toNat+d)=ae:=by
   have :¬(1*2^(31:Int).toNat+d<2147483648):=by show¬((1:Int)*2147483648+d<2147483648);lia
   unfold hU;(refine(decide_eq_false this).symm▸?_;rw[bY])
  have a2:hU (-1-1*2^(31:Int).toNat-d)=ae:=by
   have :¬(-2147483648<=-1-1*2^(31:Int).toNat-d):=by show¬((-2147483648:Int)<=-1-1*2147483648-d);lia
   unfold hU;(refine(decide_eq_false this).symm▸?_;rw[Bool.false_and])
  have T:-9223372036854775808<=1*2^(31:Int).toNat+d/\1*2^(31:Int).toNat+d<=9223372036854775808:=by show(-9223372036854775808:Int)<=1*2147483648+d/\(1:Int)*2147483648+d<=9223372036854775808;lia
  have U:-9223372036854775808<=-1-1*2^(31:Int).toNat-d/\-1-1*2^(31:Int).toNat-d<=9223372036854775808:=by show(-9223372036854775808:Int)<=-1-1*2147483648-d/\(-1:Int)-1*2147483648-d<=9223372036854775808;lia
  refine lz (l:=[.int (1*2^(31:Int).toNat+d),.int (-1-1*2^(31:Int).toNat-d)]) A.1 A.2 (aj rfl) λv a=>?_;clear hm C o B q A;rcases aD.mp a with rfl|a;·exact D _ S T
  ·cases aF.mp a;exact D _ a2 U
 have P:KJ (lb M Q) m d:=by
  unfold KJ;have z:d.fmod 2=0\/d.fmod 2=1:=by lia
  rcases z with e|e<;>refine e.symm▸?_;·exact aB rfl (j (g:=[.s "$",.m "alpha",.s "+",.m "beta"]) (C':=111) rfl (av _ (an _ (.head _))))
  ·exact aB rfl (j (g:=[.s "$",.m "alpha",.s "-",.m "beta"]) (C':=99) rfl (av _ (an _ (.tail _ (.head _)))))
 have R:O8 (lb M Q) m:=j (g:=[.s "(",.r "rax"]) (C':=87) rfl (av _ (an _ (.tail _ (.tail _ (.head _)))));have u:IJ (lb M Q) m d:=lz (l:=iU J5) t.1 t.2 (by decide) λv a=>by(refine aE (aG.mp a) λn hn c=>?_;(clear a;subst c));exact j (g:=[.r n]) (C':=87) rfl (an _ (aG.mpr ⟨n,hn,rfl⟩))
 have x:II (lb M Q) m d:=aB (bI y (yW ‹_› rfl)) λl f=>by have :=f.len;refine cP (by show 1+l.length<=1000;exact nL ‹_› rfl) (ow (ws:=[]) (G:=[[TT.s "$"]++l]) ‹_› ?_ (H _ _ (.TA E r f)));show(ac&&(ac&&(aU ([TT.s "$"]++l).length 24&&ac)))=ac;refine(aV (show([TT.s "$"]++l).length<=24 by show l.length+1<=24;exact nR ‹_› rfl)).symm▸?_;rfl
 intro n;rcases n with _|_|_|_|_|_|_|_|_|_|_|_|n;·exact F
 ·exact G
 ·exact I
 ·exact W3
 ·exact J
 ·exact K
 ·exact N
 ·exact O
 ·exact P
 ·exact R
 ·exact u
 ·exact x
 ·exact trivial
section
variable{K:bt}{w:aJ}{lf:Bool}{args:List Arg}{Q:Cs->b0->Prop}{X:aq->Prop}
theorem HH(h:wy lf args Q X):∃m,aN pg (bM lY) 2 lf 1699 args (lb m Q) X:=by refine bB (bK h) λc a=>?_;clear h;subst c;refine db a λm i e b h=>xG h λf h=>e.symm▸(aX.mp f).symm▸⟨m+3,?_⟩;rw[O7];exact aB (bI b (iZ rfl)) (jE λn z9=>aB (bI b (qu rfl)) λd a g=>KM b (yV rfl) a g h n)
theorem Qp(a:bo pg K w):iE K w (Sm Seg) 20 lY:=.cons ((yM a gg).fn a ci 2 (by decide) λz9 z9 z9 z9=>rD) (.cons (bq.run a 2 (by decide) λz9 z9 z9 z9=>Ei) ((mi a).up (by decide)))
theorem BM(a:bo pg K w):bq K w (Sm Seg) 1699 wy 24:=(Qp a).vw a 2 (by decide) λz9 z9 z9 z9=>HH
end
end
section
set_option exponentiation.threshold 5000
theorem Ex:(xw.all λp=>!p.1.isEmpty&&aU p.1.length 44)=ac:=by kernel_rfl
theorem H5{b:ao}{l:List TT}(h:i9 b l):G1 l=ac:=by have f:∀{w:Int}{l:List TT},dE w l->(-9223372036854775808<=w/\w<=9223372036854775808)->l.all TT.bR=ac:=λh n=>(q6 h n).f;induction h with
 |@w0 c h=>exact am.mp (by rfl:((["b","w","l"]:List ao).all λc=>G1 (cA [] ("add"++c) [[.r "rcx"],[.r "rax"]]))=ac) c h|@w1 g h=>exact am.mp (by rfl:(OH.all λg=>G1 (cA g "add" [[.r "rcx"],[.r "rax"]]))=ac) g h|@wC p h=>have a:=am.mp Ex p h;have j:=am.mp sP p h;rw[af]at a j;unfold G1;refine a.1.symm▸a.2.symm▸j.1.symm▸?_;rfl|@w5 d l i a h=>have e:cA [] "jmp" [l]=.m "jmp"::l:=congrArg (TT.m "jmp"::·) (bf l);refine e.symm▸?_;show(ac&&(aU (l.length+1) 44&&(ac&&l.all TT.bR)))=ac;refine(aV (show l.length+1<=44 by have :=h.len;exact nR ‹_› rfl)).symm▸(f h (iB ‹_› ‹_› rfl rfl)).symm▸?_;rfl|@w6 w h=>exact am.mp (by rfl:(OE.all λw=>G1 (cA [] w [[.r "rcx"],[.r "rax"]]))=ac) w h|@w7 k l i a h=>
  have e:cA [] "add" [l++[.s "(",.r "rax",.s ")"],[.r "rcx"]]=.m "add"::(l++[.s "(",.r "rax",.s ")",.s ",",.r "rcx"]):=by show TT.m "add"::((l++[.s "(",.r "rax",.s ")"])++[TT.s ",",.r "rcx"])=_;rw[a0];rfl
  refine e.symm▸?_;unfold G1;have o:=h.len;have m:(TT.m "add"::(l++[.s "(",.r "rax",.s ")",.s ",",.r "rcx"])).length=l.length+5+1:=by refine bH.symm▸aw.symm▸rfl
  refine m.symm▸(aV (show l.length+5+1<=44 by exact Uz ‹_› rfl)).symm▸cn.symm▸bQ.symm▸(f h a).symm▸?_;rfl|@TA d l i a h=>have e:cA [] "pushw" [[.s "$"]++l]=.m "pushw"::(.s "$"::l):=congrArg (λz=>TT.m "pushw"::(TT.s "$"::z)) (bf l);refine e.symm▸?_;show(ac&&(aU (l.length+1+1) 44&&(ac&&(ac&&l.all TT.bR))))=ac;refine(aV (show l.length+1+1<=44 by have :=h.len;exact Uz ‹_› rfl)).symm▸(f h (iB ‹_› ‹_› rfl rfl)).symm▸?_;rfl
theorem MZ(C:aq):bO (Oi C)=ac:=by unfold Oi;induction a7 C 87with
 |true=>rfl|false=>cases a7 C 99<;>rfl
theorem H6{a:ao}{l:List TT}(h:i9 a l):bO a=ac:=by induction h<;>first|exact MZ _|rfl
def wD:aS:=λlf args Q z9=>gd (!lf) (iL args 3 λm as=>gd as.isEmpty (Q (box (m+3)) (.v (.bool ac))))
noncomputable def lZ:List (aq×aS):=[(1699,wy),(1680,Ci)]
section
variable{K:bt}{w:aJ}{lf:Bool}{args:List Arg}{Q:Cs->b0->Prop}{X:aq->Prop}
theorem La(m:Int):aN pg (bM lZ) 2 ae 1706 [.c (.ch (.int m))] Q X=gd (bm (m+3)) (∀a l,i9 a l->Dy [.v (cq l),.v (.str tY)] λv=>uB v (.tup [.str "refused",.str a]) λb=>Q (box (m+3)) (.v (.bool b))):=by kernel_rfl
theorem RN(h:wD lf args Q X):aN pg (bM lZ) 2 lf 1706 args Q X:=by refine bB (bK h) λc f=>?_;clear h;subst c;refine db f λm i e g h=>xG h λd h=>?_;rw[e,aX.mp d,La];refine aB g λa l b=>.inr (dB l tY a ⟨rfl,aB (H5 b) ⟨AL b,?_⟩⟩);exact eq_self (v:=wJ a) (k:=1) (pQ (all_cons (ie rfl) (all_cons (ie (H6 b)) all_nil))) (by decide) h
theorem Qo(a:bo pg K w):iE K w (Sm Seg) 76 lZ:=.cons ((BM a).up (by decide)) (.cons (yY a) .nil)
theorem Lb(a:bo pg K w):bq K w (Sm Seg) 1706 wD 80:=(Qo a).fn a ci 2 (by decide) λz9 z9 z9 z9=>RN
def Pu(c:Cell)(A:Int->Prop):Prop:=by cases c with
 |ch v=>exact wp (fu v) λm=>gd (bm (m+28)) (A (m+28))|lst b l=>exact br b (∃cs g s,l=[.lst (ct cs),.int g,.int s,.int 0]/\nU 0 cs g s 0/\A 28) False|_=>exact False
def Pv(a:Arg)(A:Int->Prop):Prop:=by cases a with
 |c c=>exact Pu c A|v=>exact False
def Pt(args:List Arg)(A:Int->Prop):Prop:=wp (one? args) λa=>Pv a A
def wz:aS:=λlf args Q z9=>gd (!lf) (Pt args λm=>Q (box m) (.v (.bool ac)))
theorem HN(h:wz lf args Q X):I7 (Sm Seg) (λlf f args Q X=>f=1692/\tp lf args Q X) lf 1692 args Q X:=λe d=>by refine bB (bK h) λj h=>xW h λa i h=>?_;rw[one_eq i]at d;induction a using Arg.casesOn with
 |v=>exact h.elim|c c=>induction c using Cell.casesOn with
  |ch v=>refine xW h λm p h=>?_;rw[asInt_eq p]at d;refine xG h λt h=>⟨_,d,rfl,aB (by refine j.symm▸rfl) (aB t (aB rfl h))⟩|lst b l=>induction b with
   |false=>exact h.elim|true=>obtain⟨o,g,s,rfl,q,h⟩:=h;obtain⟨u,k,i,n,t1⟩:=d;subst t1;obtain⟨c,rfl,r⟩:=n;subst r;subst i;refine⟨[.c (.ch (.int 0))],bl.mk _ _ rfl ⟨_,rfl,o,g,s,0,rfl,q⟩ rfl,rfl,aB (by refine j.symm▸rfl) ?_⟩;exact aB (b:=bm (0+28)) (decide_eq_true (by decide)) (aB rfl h)
  |_=>exact h.elim
theorem Cr(a:bo pg K w):bq K w (Sm Seg) 1692 wz 80:=(lx ci (F2 a)).pick (a8 _) λlf c args Q X b=>bB b λe z=>by subst e;exact HN z
noncomputable def S6:List (aq×aS):=[(1493,K5),(1692,wz),(1706,wD)]
theorem Mj(S:List V):aN pg (bM S6) 2 ae 1713 [.v (.lst S)] Q X=∃l:List Int,[Arg.v (.lst S)]=[.v (.lst (ct l))]/\l.length<=63/\∀cs g s,nU 0 cs g s 0->∃cs' g' a,[V.lst (ct cs),.int g,.int s,.int 0]=[.lst (ct cs'),.int g',.int a,.int 0]/\nU 0 cs' g' a 0/\gd (bm (28+28)) (gd (bm (28+28+28)) (gd (bm (28+28+28+3)) (gd (bm (28+28+28+3+3)) (Q [] (.v (.bool ac)))))):=by kernel_rfl
theorem Mn(a:bo pg K w):iE K w (Sm Seg) 80 S6:=.cons ((NC a).up (by decide)) (.cons (Cr a) (.cons (Lb a) .nil))
theorem GI{l:List Int}(d:l.length<=63)(h:Q [] (.v (.bool ac))):aN pg (bM S6) 2 ae 1713 [.v (.lst (ct l))] Q X:=by rw[Mj];refine⟨l,rfl,d,λa g s c=>(dB a g s ⟨rfl,c,?_⟩)⟩;have b:∀m:Int,m<=1000->bm m=ac:=λm e=>decide_eq_true (bx e (by decide));exact aB (b _ (by decide)) (aB (b _ (by decide)) (aB (b _ (by decide)) (aB (b _ (by decide)) h)))
theorem Mk(a:bo pg K w):dP K w (Sm Seg) (aN pg (bM S6) 2) 84:=(Mn a).run a ci 2
end
end
section
open PySem.Builtin PySem.Builtin.ObjectAttr
theorem wY{K:bt}{w:aJ}{C f:aq}(l:makesIn K C=ac)(k:findIn K (.ref C) "__init__"=aa (aa (.ref f)))(j:typeIn K (.ref f)=aa (.type "function"))(m:d7.contains C=ae):uk K w C f:=by
 intro A s i R X _ h;obtain⟨a,g,d,t,os⟩:=s;refine make_core (makes_of X l) (l9 X k) (λc=>bind_fn X c j) (.inl rfl) ?_;have n:(iI "type.__call__" ⟨.ref C::i,[]⟩).weight=1:=by kernel_rfl
 have p:(iI "type.__call__" ⟨.ref C::i,[]⟩).cUnits=1:=by kernel_rfl
 have q:(iI "type.__call__" ⟨.ref C::i,[]⟩).envs=[]:=by kernel_rfl
 refine h (A.under (.builtin "type.__call__" ⟨.ref C::i,[]⟩)) (a.objs.size+1) a.objs.size ((a.push emptyDict).push (instObj C a.objs.size)) (instObj C a.objs.size) rfl (by show pushEnvs (iI "type.__call__" ⟨.ref C::i,[]⟩).envs A.frames=A.frames;refine q.symm▸rfl) (by show A.depth+_<=_;refine n.symm▸a8 _) (by show A.units+_<=_;refine p.symm▸S2 rfl) (λb o e=>ay _ (ay _ e)) (lG (eT _)) (lG (a8 _)) (Nat.succ_ne_self _) ?_ ⟨⟨rfl,rfl,rfl,rfl⟩,λe=>by rw[m]at e;exact cy e⟩ ?_;·have :=aO (a.push emptyDict) (o:=instObj C a.objs.size) rfl;rwa[cL]at this
 ·exact ay _ (aO _ rfl)
theorem uZ{name:ao}{hh:Int}{key v:al}:∀{es:List ba},(putL name hh key v es).length<=es.length+1
 |[]=>a8 _|e::r=>by
  dsimp only[putL];split;·exact eT _
  ·exact j9 uZ
set_option tactic.hygienic true in theorem BK{w:aJ}{A:bc}{s:ax}{dx:aq}{es:List ba}{n:Nat}{name:ao}{v:al}{t:Tok}{Q:PySem.Fin->ax->Prop}{E:al->ax->Prop}(D:s.heap.get? dx=aa (dictOf es n))(hl:(getL name es).isSome=ac)(hz:es.length<=901)(k:∀h' tk hh t n',(∀b o,b≠dx->s.heap.get? b=aa o->h'.get? b=aa o)->h'.get? dx=aa (dictOf (putL name hh (.str name t) v es) n')->Q (.done (.ret .none)) {s with heap:=h',toks:=tk}):wpAny (model pw w) A (storeInDict dx (.str name t) name v) Q E s:=by
  refine ah (aA (ah ?_));unfold nsSet;refine ah (ah (wpAny_askSetting (aA (ah (wpAny_mkText (ah (g6 D ?_)))))));have c:(!es.toArray.any (·.key.isStr name)&&es.toArray.any (·.refKey))=ae:=by
    rw[List.any_toArray,List.any_toArray];unfold getL at hl;split at hl;·rename_i en he;rw[fb.mpr ⟨en,ja he,List.find?_some (p:=λx:ba=>x.key.isStr name) he⟩];rfl
    · split at hl;·exact cy hl
      ·rename_i z;rw[Bool.not_eq_true]at z;rw[z,bY]
  dsimp only;rw[aRefKeyMayBeTheName_at,c];refine wpAny_updatePart D ?_;have e:Obj.putName name (fW w.params name) (.str name s.toks) v (dictOf es n)=dictOf (putL name (fW w.params name) (.str name s.toks) v es) (putN name es n):=putName_dict ..;have D':=dy (h:=s.heap) (Obj.putName name (fW w.params name) (.str name s.toks) v) D (by rw[e];rfl);rw[e]at D';have len:=uZ (name:=name) (hh:=fW w.params name) (key:=.str name s.toks) (v:=v) (es:=es);refine ah (wpAny_lookBehind D' (pastItsLine_dict (by rw[aT,sizeLine_eq];lia)) ?_);exact aA (k _ _ _ _ _ (λb o ne h=>(cw _ _ ne.symm).trans h) D')
noncomputable def yt:List al->Bool
 |.ref _::r=>yt r|l=>l==[.type "object"]||l==[.type "Exception",.type "BaseException",.type "object"]
def oG(K:bt)(C:aq):Bool:=(clsIn K C).any λcd=>yt cd.mro
theorem over_of:∀{l:List al},yt l=ac->l.isEmpty=ae/\l.contains (.type "object")=ac/\∀a,refuseLoop a "__setattr__" l=pure ()
 |.ref c::r,h=>by refine fi (over_of (l:=r) h) λf d e=>⟨rfl,by rw[List.contains_cons,d,Bool.or_true],λa=>(refuseLoop_ref a _ c r).trans (e a)⟩|[],h=>by exact cy h|.type n::r,h=>by
  delta yt at h;rw[aZ,beq_iff_eq,beq_iff_eq]at h;rcases h with h|h<;>refine h.symm▸?_;·exact⟨rfl,by decide+kernel,PySem.F.store_object.passes⟩
  ·exact⟨rfl,by decide+kernel,PySem.F.store_Exception.passes⟩
section
variable{w:aJ}{A:bc}{K:bt}{C x:aq}{s:ax}{R:n4->ax->Prop}
theorem PU{B:dJ}{z:Option dJ}{name:ao}{tk:Tok}{v:al}(X:K.In s.heap)(I:InstAt s.heap x B C z)(t:oG K C=ac)(y:takerIn K C name=aa ak)(h:∀b,wpAny (model pw w) A.in1 (storeInOwnDict (.ref x) (.ref C) (.str name tk) name v b) (λg d=>match g with|.done f=>R (.ok f) d|.again c'=>c'.quiet=ac/\codeAny (model pw w) A c' R d) (λe d=>R (.error e) d) s):codeAny (model pw w) A (.call (.builtin "object.__setattr__") ⟨[.ref x,.str name tk,v],[]⟩) R s:=by
 refine xK λD i=>aE (any_some t) λcd l r=>fi (over_of r) λn o p=>aE (cG.mp y) λc q u=>?_;have F:=PySem.F.store_object;have isObj:fE (model pw w) s.heap (isInstance (.ref x) (.type "object")) ac:=I.type.andThen (iS X (by unfold mroIn;(refine l.symm▸?_;rw[Option.bind_some,if_neg (by refine n.symm▸?_;decide),o])));have m:fE (model pw w) s.heap (mroOf (.ref C)) cd.mro:=(looks_clsIn X l).andThen .now;have j:fE (model pw w) s.heap (storeTaker? c) ak:=by induction c with
  |none=>exact .now|some a=>refine aE (aM.mp u) λb k e=>(looks_takesIn X k).andThen ?_;clear k;induction b<;>first|exact .now|exact us e
 refine i ?_;refine nY F.slot.plain F.entry (@check_slot (model pw w) _ _ s "object.__setattr__" "object" "__setattr__" (.ref x) [.str name tk,v] [] _ F.kind F.split isObj (F.args (.ref x) (.str name tk) v) ?_);rw[osa_eq,refuse_eq];refine ah (ah (I.type.here (ah (m.here ?_))));rw[p];exact aA (ah (I.type.here (ah ((l9 X q).here (ah (j.here (h _)))))))
end
def BX(K:bt)(C:aq)(name:ao):Bool:=findIn K (.ref C) "__setattr__"==aa (aa (.builtin "object.__setattr__"))&&oG K C&&takerIn K C name==aa ak&&hasDictIn K C
theorem qW{K:bt}{w:aJ}{C:aq}{name:ao}(p:findIn K (.ref C) "__setattr__"=aa (aa (.builtin "object.__setattr__")))(o:oG K C=ac)(q:takerIn K C name=aa ak)(hd:hasDictIn K C=ac):EK K w C name:=by intro A s x i h j n v Q E X g I D m r k;have d:InstAt s.heap x h C (aa (dictOf j n)):=⟨g,I.cls,I.no,by refine I.dict.symm▸D⟩;refine set_plain X d p (PU (s:={s with toks:=s.toks+1}) X d o q λb=>?_);refine aE (any_some hd) λcd l f=>?_;have a:=I.cls;have c:=I.dict;obtain⟨L,B,z,F⟩:=h;dsimp only at a c;clear I d;subst a c;refine ah (aA (ah (ah (g6 g (ah (looks_clsIn (M:=model pw w) X l _ _ _ _ (λz9 z9 e=>e) ?_))))));refine f.symm▸aA (a:=aa i) (BK (s:={s with toks:=s.toks+1}) D m r λG M H t J u y=>k _ _ _ _ u y (cM _ _ rfl))
end
section
open PySem.Builtin PySem.Builtin.ObjectAttr
abbrev nE:String:="Exception.__new__"
noncomputable def qy(K:bt)(C:aq):Bool:=match K.lookup C with
 |aa ⟨_,_,.cls cd,sl⟩=>!cd.hasDel&&cd.hasDict&&(sl.toList[4]?).join==aa (.builtin nE)&&!cd.mro.isEmpty&&cd.mro.contains (.ref C)&&cd.mro.contains (.type "Exception")&&!cd.mro.contains (.type "AttributeError")&&!cd.mro.contains (.type "NameError")&&specialIn K (.ref C) "__call__"==aa (aa (.builtin "type.__call__"))&&instIn K (.ref C) (.type "type")==aa ac|_=>ae
structure VX(M:Model)(h:bz)(C:aq):Prop where
 obj:∃oc od cd sl,h.get? C=aa ⟨oc,od,.cls cd,sl⟩/\cd.hasDel=ae/\cd.hasDict=ac/\cd.mro.isEmpty=ae
 made:fE M h (Bind.madeBy (.ref C)) (aa nE)
 base:fE M h (Bind.staticBase (.ref C)) (.ref C)
 self:fE M h (isSubtype (.ref C) (.ref C)) ac
 exc:fE M h (isSubtype (.ref C) (.type "Exception")) ac
 attr:fE M h (isSubtype (.ref C) (.type "AttributeError")) ae
 Zq:fE M h (isSubtype (.ref C) (.type "NameError")) ae
 call:fE M h (specialOf (.ref C) "__call__") (aa (.builtin "type.__call__"))
 typ:fE M h (isInstance (.ref C) (.type "type")) ac
set_option tactic.hygienic true in theorem L3{K:bt}{M:Model}{h:bz}(X:K.In h){C:aq}(e:qy K C=ac):VX M h C:=by
  dsimp only[qy]at e;split at e
  · rename_i oc od cd sl ho;simp only[af,aL,beq_iff_eq]at e;refine bB e λz1 Za=>bB z1 λz2 e9=>bB z2 λz3 e8=>bB z3 λz4 e7=>bB z4 λz5 e6=>bB z5 λz6 e5=>bB z6 λz7 e4=>bB z7 λz8 e3=>bB z8 λe1 e2=>?_;have hc:clsIn K C=aa cd:=by dsimp only[clsIn];exact ho.symm▸rfl
    have hm:fE M h (mroOf (.ref C)) cd.mro:=(looks_clsIn X hc).andThen .now;have sub:∀b r,cd.mro.contains b=r->fE M h (isSubtype (.ref C) b) r:=λb r q=>iS X (by dsimp only[mroIn];(refine hc.symm▸?_;rw[Option.bind_some,if_neg (by refine e4.symm▸?_;decide),q]));obtain⟨c,l,hl⟩:∃c l,cd.mro=c::l:=by induction q:cd.mro using ai with|nil=>replace e4:=q▸e4;exact mX e4|cons c l=>exact cM c l rfl
    have made:fE M h (Bind.madeBy (.ref C)) (aa nE):=by intro A Q E s k q;dsimp only[Bind.madeBy];refine ah (hm A _ E s k ?_);(refine hl.symm▸?_;rw[da]);refine ah (ah (ah (ah (g6 (k _ _ (X _ _ ho)) (aA ?_)))));dsimp only;refine Array.getElem?_toList▸e3.symm▸?_;exact aA (aA (aA q))
    refine⟨(mS oc od cd sl ⟨X _ _ ho,e1,e2,e4⟩),made,?_,sub _ _ e5,sub _ _ e6,sub _ _ e7,sub _ _ e8,looks_specialIn X e9,looks_instIn X Za⟩;intro A Q E s k q;dsimp only[Bind.staticBase];refine ah (hm A _ E s k ?_);(refine hl.symm▸?_;rw[da]);exact ah (ah (ah (made A _ E s k (aA (aA (aA q))))))
  ·exact cy e
abbrev ug(xs:List al):dJ:={cls:=.type "tuple",data:=.seq xs.toArray}
abbrev nr(C:aq)(t:aq):dJ:={cls:=.ref C,data:=.fields #[.ref t,.none,.none,.none,.bool ae,.none]}
section
variable{w:aJ}{A:bc}{K:bt}{C:aq}{R:n4->ax->Prop}{h:bz}{g:Array n7}{d:Drawn}{t:Nat}{os:cQ}{rest:List al}
theorem MY(Y:VX (model pw w) h C)(z:rest.length<=sizeLine)(s:R (.ok (.ret (.ref (h.objs.size+1)))) ⟨(h.push (ug rest)).push (nr C h.objs.size),g,d,t,os⟩):codeAny (model pw w) A (.call (.builtin nE) ⟨.ref C::rest,[]⟩) R ⟨h,g,d,t,os⟩:=by
 obtain⟨⟨D,G,cd,H,l,o,x,y⟩,b,a,n,r,k,u,call,v⟩:=Y;have F:=PySem.F.excBase_Exception;have m:fE (model pw w) h (Bind.madeHere "BaseException.__new__" (.ref C)) ():=a.andThen (b.andThen (mv (by simp only[j8,F.canon,bne_self_eq_false,cm,if_false])));have j:fE (model pw w) h (Bind.madeHere nE (.ref C)) ():=a.andThen (b.andThen (mv (by simp only[j8,bne_self_eq_false,cm,if_false])));have c:Bind.checkArgs nE ⟨.any,"Exception","Exception",.cls,[⟨"args",.varPos,ae⟩,⟨"kwargs",.varKw,ae⟩]⟩ ⟨.ref C::rest,[]⟩=pure ():=by kernel_rfl
 have f:∀(B:bc)(Q:Unit->ax->Prop)(E:al->ax->Prop),Q () ⟨h,g,d,t,os⟩->wpAny (model pw w) B (checkBuiltinCall nE ⟨.ref C::rest,[]⟩) Q E ⟨h,g,d,t,os⟩:=by
  intro B Q E q;simp only[checkBuiltinCall,F.newKind,F.newSplit,F.newRow];refine c.symm▸?_;repeat(first|dsimp only[bne_self_eq_false,cm,if_false]|lk)
  exact q
 refine codeAny_call_builtin_code (mV _ F.quiet) (f _ _ _ ?_);have i:=F.ends;refine codeAny_builtinAt F.entry ?_;unfold Builtin.«BaseException.__new__»;refine PySem.wpAt_bind ?_;show PySem.wpAt _ _ _ (stack>>=_) _ _ _;refine PySem.wpAt_bind (PySem.wpAt_stack λp e=>PySem.wpAt_of_wpAny ?_);wp_walk;refine PySem.wpAt_of_wpAny ?_;refine F.owner.symm▸?_;repeat(first|with_reducible refine wpAny_loadPart_at l ?_|lk|wp_step)
 all_goals refine wpAny_load (ay _ (ay _ l)) ?_;refine aA ?_;refine o.symm▸aA (aA ?_);show R _ _;rw[cL];exact s
theorem Hl{a:al}(Y:VX (model pw w) h C)(B:rest.length<=sizeLine)(x:fE (model pw w) h (typeLookup (.ref C) "__init__") (aa a))(u:∀c,fE (model pw w) h (bindSpecial a c) (a,[c]))(y:codeAny (model pw w) (A.under (.builtin "type.__call__" ⟨.ref C::rest,[]⟩)) (.call a ⟨.ref (h.objs.size+1)::rest,[]⟩) (InitBack (h.objs.size+1) R) ⟨(h.push (ug rest)).push (nr C h.objs.size),g,d,t,os⟩):codeAny (model pw w) A (.call (.ref C) ⟨rest,[]⟩) R ⟨h,g,d,t,os⟩:=by
 have p:=Y;obtain⟨⟨L,M,cd,P,m,G,H,q⟩,n,l,c,s,j,E,call,i⟩:=Y;refine codeAny_of_tree ?_;show wpAny _ _ (callAny (.ref C) _) _ _ _;refine nd_load m ?_;show wpAny _ _ (callAny.viaDunder (.ref C) _) _ _ _;dsimp only[callAny.viaDunder];refine ah (call.at ?_);dsimp only;rw[tc_bind];refine ah (aA (ah (aA ?_)));refine aA (a:=PySem.Fin.again (.call (.builtin "type.__call__") ⟨.ref C::rest,[]⟩)) (And.intro rfl ?_);refine codeAny_call_builtin_at (mV _ (by decide+kernel)) entry_typeCall (check_slot tc_kind tc_split i (tc_args _ _ _) ?_);dsimp only[Builtin.«type.__call__»];have I:fE (model pw w) h (mroOf (.ref C)) cd.mro:=((Looks.ld (part:=ak) m).andThen .now).andThen .now;repeat(first|simp only[q,cm,if_false]|with_reducible refine iy ?_|lk)
 refine MY p B ?_;have k:∀b o,h.get? b=aa o->((h.push (ug rest)).push (nr C h.objs.size)).get? b=aa o:=λb o e=>ay _ (ay _ e);have D:((h.push (ug rest)).push (nr C h.objs.size)).get? (h.objs.size+1)=aa (nr C h.objs.size):=by heap_get
 have Q:fE (model pw w) ((h.push (ug rest)).push (nr C h.objs.size)) (typeOf (.ref (h.objs.size+1))) (.ref C):=(Looks.ld D).andThen .now;have O:=c.keeps k;have J:=x.keeps k;have F:=(u (.ref (h.objs.size+1))).keeps k;dsimp only[isInstance,callSpecial?,specialOf];repeat(first|with_reducible refine iy ?_|lk)
 refine codeAny_mono y λr N z=>?_;rcases r with e|(v|_|_|_)<;>first|exact z|exact z.elim|skip
 obtain⟨rfl,z⟩:=z;exact aA (aA z)
end
end
section
open PySem.Builtin PySem.Builtin.ObjectAttr
section
variable{w:aJ}{A:bc}{K:bt}{C x:aq}{s:ax}{ox:dJ}{name:ao}{v:al}
abbrev sO(C:aq)(vs:Array al):dJ:={cls:=.ref C,data:=.fields vs}
theorem FR{f:Array al}{Q:Unit->ax->Prop}{E:al->ax->Prop}(q:findIn K (.ref C) "__setattr__"=aa (aa (.builtin "object.__setattr__")))(p:oG K C=ac)(r:takerIn K C name=aa ak)(hd:hasDictIn K C=ac)(X:K.In s.heap)(a:s.heap.get? x=aa (sO C f))(k:∀h' tk hh t n,(∀b o,b≠x->s.heap.get? b=aa o->h'.get? b=aa o)->h'.get? x=aa {sO C f with dict:=aa s.heap.objs.size}->h'.get? s.heap.objs.size=aa (dictOf [⟨hh,.str name t,v⟩] n)->Q () {s with heap:=h',toks:=tk}):wpAny (model pw w) A (setAttr (.ref x) name v) Q E s:=by
 have g:InstAt s.heap x (sO C f) C ak:=⟨a,rfl,rfl,trivial⟩;refine set_plain X g q (PU (s:={s with toks:=s.toks+1}) X g p r λb=>?_);refine aE (any_some hd) λcd c d=>ah (aA (ah (ah (g6 a (ah (looks_clsIn (M:=model pw w) X c _ _ _ _ (λz9 z9 e=>e) ?_))))));refine d.symm▸?_;have i:x≠s.heap.objs.size:=bP (bp a);have l:=aO s.heap (o:=dictOf [] 0) rfl;have j:=ay (h:=s.heap) (dictOf [] 0) a;have B:=dy (h:=s.heap.push (dictOf [] 0)) (λo=>{o with dict:=aa s.heap.objs.size}) j rfl;have m:((s.heap.push (dictOf [] 0)).update x λo=>{o with dict:=aa s.heap.objs.size}).get? s.heap.objs.size=aa (dictOf [] 0):=(cw _ _ i).trans l;refine ah (wpAny_alloc (ah (wpAny_update j ?_)));refine aA (BK (es:=[]) (n:=0) m rfl (dp _) λh' tk hh t y h u=>k h' tk hh t y (λb o z e=>?_) (h _ _ i ?_) u);·exact h _ _ (bP (bp e)) ((cw _ _ z.symm).trans (ay _ e))
 ·exact B
theorem Hk{i:Array al}{D:aq}{Q:al->ax->Prop}{E:al->ax->Prop}(X:K.In s.heap)(m:mroIn K C (.type "Exception")=aa ac)(l:s.heap.get? x=aa (sO C i))(z:i[0]?=aa (.ref D))(H:4<i.size)(k:∀h' t,(∀b o,b≠x->s.heap.get? b=aa o->h'.get? b=aa o)->h'.get? x=aa (sO C (i.setIfInBounds 0 (.ref t)))->Q .none {s with heap:=h'}):wpAny (model pw w) A (call (.builtin "Exception.__init__") [.ref x,v]) Q E s:=by
 have F:=PySem.F.excBase_Exception;refine aE (cG.mp m) λcd a G=>?_;have j:∃n p q,s.heap.get? C=aa ⟨n,p,.cls cd,q⟩:=by
  unfold clsIn at a;split at a;·rename_i y;(injection a with a;(clear G;subst a));exact dB _ _ _ (X _ _ y)
  ·exact bn a
 refine pv j λn p q j=>?_;obtain⟨f,g,d,t,os⟩:=s;have r:fE (model pw w) f (typeOf (.ref x)) (.ref C):=(Looks.ld l).andThen .now;have u:fE (model pw w) f (isInstance (.ref x) (.type "Exception")) ac:=r.andThen (iS X m);refine iy (nY F.init.plain F.initEntry ?_);dsimp only[checkBuiltinCall,F.initKind,F.initSplit,F.initRow];refine ah (u.here ?_);simp only[Bool.not_true,cm,if_false];have h:=F.noStar;repeat(first|with_reducible refine wpAny_loadPart_at l ?_|with_reducible refine wpAny_loadPart_at j ?_|wp_step)
 all_goals
  refine z.symm▸?_;have c:=ay (h:=f) {cls:=.type "tuple",data:=.seq #[v]} l;refine aA (ah (jI c rfl (by lia) (wpAny_letGo (aA (k _ f.objs.size (λb o B e=>?_) ?_)))));·exact(cw _ _ B.symm).trans (ay _ e)
  ·exact dy _ c rfl
end
end
section
open PySem.Builtin PySem.Builtin.ObjectAttr
abbrev fnX:Fn:=T.aR (T.fm 3 0) [.none] ak
structure un(K:bt)(w:aJ)(C:aq):Prop where
 Yl:qy K C=ac
 exc:mroIn K C (.type "Exception")=aa ac
 init:findIn K (.ref C) "__init__"=aa (aa (.ref 64))
 fn:typeIn K (.ref 64)=aa (.type "function")
 set:findIn K (.ref C) "__setattr__"=aa (aa (.builtin "object.__setattr__"))
 over:oG K C=ac
 E4:takerIn K C "what"=aa ak
 at_:takerIn K C "at"=aa ak
 dict:hasDictIn K C=ac
structure ui(K:bt)(w:aJ):Prop where
 SZ:∃o es ep,K.lookup mainGlobals=aa o/\o.data=.dict es ep/\StrKeys es
 S0:∃o es ep,K.lookup builtinsNs=aa o/\o.data=.dict es ep/\StrKeys es/\∀x:ao,x≠"__name__"->nsFind es x=bootBuiltins x
 LV:∃o es ep,K.lookup cStatics=aa o/\o.data=.dict es ep/\StrKeys es/\nsFind es "sys.recursionlimit"=ak
 glob:nsIn K mainGlobals "Exception"=aa ak
 fn:∃o fd D,K.lookup 64=aa o/\Ih K w fnX o fd D
theorem R9:fnX.body=[.Expr (.Call (.Attribute (.Name "Exception" ⟨16,8,16,17⟩) "__init__" ⟨16,8,16,26⟩) [.Name "self" ⟨16,27,16,31⟩,.Name "what" ⟨16,33,16,37⟩] [] ⟨16,8,16,38⟩) ⟨16,8,16,38⟩,.Assign [.Attribute (.Name "self" ⟨17,8,17,12⟩) "what" ⟨17,8,17,17⟩] (.Name "what" ⟨17,20,17,24⟩) ⟨17,8,17,24⟩,.Assign [.Attribute (.Name "self" ⟨18,8,18,12⟩) "at" ⟨18,8,18,15⟩] (.Name "at" ⟨18,18,18,20⟩) ⟨18,8,18,20⟩]:=by kernel_rfl
abbrev WS:List ao:=["self","what","at"]
theorem Uq:fnX.params=WS:=by kernel_rfl
section
variable{K:bt}{w:aJ}{C L x t0:aq}{env:Env}{A:bc}{m:ao->Option al}{v u:al}{s:ax}{E:al->ax->Prop}
theorem Rm{Q:al->ax->Prop}(H:un K w C)(T:ui K w)(X:K.In s.heap)(i:env.scope.kind=.function)(k1:env.kindOf "self"=aa .local)(k2:env.kindOf "what"=aa .local)(O:env.kindOf "Exception"=aa .globalImplicit)(n:env.locals=L)(J:env.globals=mainGlobals)(I:env.builtins=builtinsNs)(p:s.heap.Ns L m)(P:m "self"=aa (.ref x))(R:m "what"=aa v)(N:s.heap.get? x=aa (nr C t0))(k:∀h' t tk,(∀b o,b≠x->s.heap.get? b=aa o->h'.get? b=aa o)->h'.get? x=aa (nr C t)->Q .none {s with heap:=h',toks:=tk}):wpAny (model pw w) A (eval (.Call (.Attribute (.Name "Exception" ⟨16,8,16,17⟩) "__init__" ⟨16,8,16,26⟩) [.Name "self" ⟨16,27,16,31⟩,.Name "what" ⟨16,33,16,37⟩] [] ⟨16,8,16,38⟩) env) Q E s:=by
 refine kB T.SZ λU g f r y z=>?_;have l:s.heap.Ns mainGlobals _:=(dB U g f ⟨X _ _ r,y,z,λz9=>rfl⟩);refine hY T.S0 λS c e B D F G=>?_;have h:nsFind c "Exception"=aa (.type "Exception"):=(G _ (by decide+kernel)).trans (by kernel_rfl);rw[arm_eval_Call,jP rfl];refine ah (n5 i O (loadGlobal_builtin (by refine J.symm▸l) (mg_none_of X l T.glob) (by refine I.symm▸dB S c e ⟨X _ _ B,D,F,λz9=>rfl⟩) h ?_) (by decide+kernel));refine ah (gh ?_);dsimp only[methodCall];rw[kU (by decide+kernel)];have V:methodCallPos ac (.Name "Exception" ⟨16,8,16,17⟩) env ⟨16,8,16,26⟩ ⟨16,8,16,38⟩=pure ⟨16,8,16,38⟩:=by dsimp only[methodCallPos];rw[if_pos (by decide)]
 refine ah (bW ?_);dsimp only[calleeOf];refine(if_pos rfl).symm▸?_;have M:(typeOf (.type "Exception"):j5 al)=pure (.type "type"):=by kernel_rfl
 have j:fE (model pw w) s.heap (typeOf (.type "Exception")) (.type "type"):=mv M;have d:findIn K (.type "type") "__getattribute__"=aa (aa (.builtin "type.__getattribute__")):=type_tga;dsimp only[getMethod,specialOf];refine ah (ah (j.here ((l9 X d).here ?_)));dsimp only;refine(if_pos canon_tga).symm▸ah ?_;have q:fE (model pw w) s.heap (opaqueClassAbove (.type "Exception")) ak:=mv (by kernel_rfl);refine cls_open X q j d (looks_hook X (r:=ak) rfl) (by show subIn K _ _=_;rfl) (r:=.val (.builtin "Exception.__init__")) (by kernel_rfl) (aA ?_);show wpAny _ _ (handedOut _) _ _ _;rw[handedOut_of (by decide+kernel)];refine aA (aA ?_);refine V.symm▸ah (aA ?_);refine kb rfl (Calls.evalArgs_plain ?_);refine spliced_more (iz (dd i k1 (by refine n.symm▸p) P ?_) (by decide+kernel)) rfl;refine spliced_more (iz (dd i k2 (by refine n.symm▸p) R ?_) (by decide+kernel)) rfl;refine spliced_none (Hk (s:={s with toks:=s.toks+1}) X H.exc N rfl (by simp) λh' t k1 k2=>k h' t _ k1 k2)
theorem MX{Q:Flow->ax->Prop}(H:un K w C)(T:ui K w)(X:K.In s.heap)(g:env.scope.kind=.function)(k1:env.kindOf "self"=aa .local)(k2:env.kindOf "what"=aa .local)(k3:env.kindOf "at"=aa .local)(k4:env.kindOf "Exception"=aa .globalImplicit)(i:env.locals=L)(hg:env.globals=mainGlobals)(hb:env.builtins=builtinsNs)(U:s.heap.Ns L m)(G:m "self"=aa (.ref x))(R:m "what"=aa v)(m3:m "at"=aa u)(hx:s.heap.get? x=aa (nr C t0))(nL:L≠x)(nK:K.lookup x=ak)(k:∀h' y o t1 M d l n tk,(∀b o,b≠x->s.heap.get? b=aa o->h'.get? b=aa o)->s.heap.get? y=ak->h'.get? x=aa o->nP C y o->h'.get? y=aa (dictOf [⟨d,.str "what" t1,v⟩,⟨l,.str "at" M,u⟩] n)->Q .next {s with heap:=h',toks:=tk}):wpAny (model pw w) A (execs [.Expr (.Call (.Attribute (.Name "Exception" ⟨16,8,16,17⟩) "__init__" ⟨16,8,16,26⟩) [.Name "self" ⟨16,27,16,31⟩,.Name "what" ⟨16,33,16,37⟩] [] ⟨16,8,16,38⟩) ⟨16,8,16,38⟩,.Assign [.Attribute (.Name "self" ⟨17,8,17,12⟩) "what" ⟨17,8,17,17⟩] (.Name "what" ⟨17,20,17,24⟩) ⟨17,8,17,24⟩,.Assign [.Attribute (.Name "self" ⟨18,8,18,12⟩) "at" ⟨18,8,18,15⟩] (.Name "at" ⟨18,18,18,20⟩) ⟨18,8,18,20⟩] env) Q E s:=by
 have h:∀{h':bz},(∀b o,b≠x->s.heap.get? b=aa o->h'.get? b=aa o)->K.In h':=λF a o e=>F _ _ (λz=>by replace e:=nK▸z▸e;exact bn e) (X _ _ e);have f:∀{h':bz},(∀b o,b≠x->s.heap.get? b=aa o->h'.get? b=aa o)->h'.Ns L m:=λF=>let⟨o,es,Z,e,r⟩:=U;(dB o es Z ⟨F _ _ nL e,r⟩);have hi:interactive env=ae:=by dsimp only[interactive];refine g.symm▸rfl
 refine wpAny_execs_cons (wpAny_Expr (Rm H T X g k1 k2 k4 i hg hb U G R hx λd t tk j V=>?_) hi);refine wpAny_execs_cons (plainObj_wpAny_Assign_Attribute (iz (dd g k2 (by refine i.symm▸f j) R ?_) (by decide+kernel)));refine iz (dd g k1 (by refine i.symm▸f j) G ?_) (by decide+kernel);refine FR (s:={s with heap:=d,toks:=tk}) H.set H.over H.E4 H.dict (h j) V λl N B M n2 q1 W q3=>?_;have q:∀b o,b≠x->s.heap.get? b=aa o->l.get? b=aa o:=λb o p e=>q1 _ _ p (j _ _ p e);have S:d.objs.size≠x:=bX (bp V);have P:s.heap.get? d.objs.size=ak:=by induction e:s.heap.get? d.objs.size with
  |none=>rfl|some o=>exact absurd (bp (j _ _ S e)) (mU _)
 refine wpAny_execs_cons (plainObj_wpAny_Assign_Attribute (iz (dd g k3 (by refine i.symm▸f q) m3 ?_) (by decide+kernel)));refine iz (dd g k1 (by refine i.symm▸f q) G ?_) (by decide+kernel);have I:nP C d.objs.size {sO C #[.ref t,.none,.none,.none,.bool ae,.none]with dict:=aa d.objs.size}:=⟨⟨rfl,rfl,rfl,rfl⟩,λz9=>⟨_,rfl,by simp,rfl,rfl⟩⟩;refine qW H.set H.over H.at_ H.dict A {s with heap:=l,toks:=N} x d.objs.size _ _ n2 u _ _ (h q) W I q3 (by kernel_rfl) (by simp) λh3 O ZA n3 Y J y0=>ej y0 λD t3 r3=>mt ?_;replace J:=r3▸J;exact k h3 d.objs.size _ M t3 B D n3 O (λb o p e=>Y _ _ (λz=>by replace e:=P▸z▸e;exact bn e) (q _ _ p e)) P (Y _ _ S.symm W) I J
end
theorem D0{K:bt}{w:aJ}{C:aq}(H:un K w C)(T:ui K w):pe K w C:=by
 intro A s j v u R X Z B k;refine d0 T.fn λo fd D ho a=>?_;have L:D=[.none]:=by have :=a.dt λz9=>ak;change bl _ _ _ at this;obtain⟨y,ys,e,h,t⟩:=this;change y=.none at h;change ys=[]at t;exact e.symm▸h.symm▸t.symm▸rfl
 obtain⟨c,g,d,t,os⟩:=s;refine Hl (L3 X H.Yl) (by refine sizeLine_eq.symm▸?_;rcases B with rfl|⟨rfl,rfl⟩<;>simp) (l9 X H.init) (λx=>bind_fn X x H.fn) ?_;have P:∀b o,c.get? b=aa o->((c.push (ug j)).push (nr C c.objs.size)).get? b=aa o:=λb o e=>ay _ (ay _ e);have i:((c.push (ug j)).push (nr C c.objs.size)).get? (c.objs.size+1)=aa (nr C c.objs.size):=by heap_get
 have m:K.In ((c.push (ug j)).push (nr C c.objs.size)):=X.keeps P;generalize M:(c.push (ug j)).push (nr C c.objs.size)=l at P i m⊢;have r:EP l fd.defaults D:=by
  rcases a.df with⟨p,q⟩|⟨T,oT,n,p,q,W⟩;·exact .inl ⟨p,q⟩
  ·exact .inr (dB T oT n ⟨p,m _ _ q,W⟩)
 have bind:BindsTo ⟨l,g,d,t,os⟩ fd ⟨.ref (c.objs.size+1)::j,[]⟩ [("self",.ref (c.objs.size+1)),("what",v),("at",u)]:=by have z:=@nB ⟨l,g,d,t,os⟩ fd WS D (.ref (c.objs.size+1)::j) a.pos (a.args.symm▸Uq.symm▸rfl) a.W9 a.va a.Xa r (by decide+kernel) (by refine L.symm▸?_;decide) (by rcases B with rfl|⟨rfl,rfl⟩<;>simp) (by refine L.symm▸?_;rcases B with rfl|⟨rfl,rfl⟩<;>simp);replace z:=L▸z;rcases B with rfl|⟨rfl,rfl⟩<;>exact z
 refine hY T.LV λo2 J I q1 q2 q3 q4=>?_;have N:l.objs.size=c.objs.size+2:=by(refine M▸?_;rw[cL,cL])
 have w1:(iI "type.__call__" ⟨.ref C::j,[]⟩).weight=1:=by kernel_rfl
 refine codeAny_call_def (fd:=fd) (body:=fnX.body) (by show A.depth+_<1000;refine w1.symm▸cV ‹_› (by decide)) (m _ _ ho) a.data ⟨_,(dB o2 J I ⟨m _ _ q1,q2,q3,λz9=>rfl⟩),q4⟩ (codeRec_of m a.code) a.body bind (by refine a.scope.symm▸?_;decide+kernel) (by refine a.scope.symm▸?_;simp only[List.forall_mem_cons];exact⟨by kernel_rfl,by kernel_rfl,by kernel_rfl,λz9 h=>nomatch h⟩) (λV O Q=>?_) (by refine a.scope.symm▸a.co) (by refine a.scope.symm▸a.gen) (by refine a.scope.symm▸a.kind);have E:∀y,(callEnv fd l.objs.size 64).kindOf y=fnX.scope.names.lookup y:=λy=>by refine a.scope▸rfl
 refine R9.symm▸?_;have S:∀b o,c.get? b=aa o->V.get? b=aa o:=λb o e=>Q _ _ (P _ _ e);have U:c.get? (c.objs.size+1)=ak:=lG (eT _);refine MX (v:=v) (u:=u) (s:=⟨V,g,d,t+3,os⟩) H T (X.keeps S) (by show fd.scope.kind=_;refine a.scope.symm▸a.kind) (by rw[E];kernel_rfl) (by rw[E];kernel_rfl) (by rw[E];kernel_rfl) (by rw[E];kernel_rfl) rfl a.glob a.bi O (by kernel_rfl) (by kernel_rfl) (by kernel_rfl) (Q _ _ i) (by show l.objs.size≠_;refine N.symm▸nN rfl) (by induction e:K.lookup (c.objs.size+1)with
  |none=>rfl|some o=>exact nomatch U.symm.trans (X _ _ e)) λY G o3 t1 t2 p q n tk p1 F p3 p4 p5=>?_;have nd:c.get? G=ak:=by induction e:c.get? G with
  |none=>rfl|some o=>exact bn (F.symm.trans (S _ _ e))
 refine⟨rfl,k Y (c.objs.size+1) G o3 t1 t2 p q n tk (λb o e=>p1 _ _ (λz=>by replace e:=U▸z▸e;exact bn e) (S _ _ e)) U nd (λz=>?_) p3 p4 p5⟩;replace F:=z.symm▸F;exact bn (F.symm.trans (Q _ _ i))
end
section
open PySem.Builtin PySem.Builtin.ObjectAttr
section
variable{w:aJ}{A:bc}{K:bt}{C x:aq}{s:ax}{ox:dJ}{od:Option dJ}{name:ao}{v:al}
theorem Hi{b:Bool}{Q:al->ax->Prop}{E:al->ax->Prop}(X:K.In s.heap)(I:InstAt s.heap x ox C od)(e:findIn K (.ref C) "__getattribute__"=aa (aa (.builtin "BaseException.__getattribute__")))(f:findIn K (.ref C) "__getattr__"=aa ak)(k:mroIn K C (.type "BaseException")=aa ac)(j:findObj K C od name=aa (.value v))(hh:handedIn v=ac)(h:Q v {s with toks:=s.toks+1}):wpAny (model pw w) A (getAttr (.ref x) name b) Q E s:=by obtain⟨i,g,d,t,os⟩:=s;have T:=I.type (M:=model pw w);have F:=PySem.F.excAttr_ValueError.ga;have c:fE (model pw w) i (hookBefore (.ref C)) ak:=looks_hook X (f);refine ah (wpAny_mkText (bW (ah (T.at (ah ((l9 X e).at ?_))))));dsimp only;(refine(show(Value.builtin "BaseException.__getattribute__"==Value.builtin "object.__getattribute__")=ae from by decide+kernel).symm▸?_;rw[bY,if_neg (by decide)]);refine ah (c.at (ah (wpAny_attempt (bW ?_))));dsimp only[callGetattribute];(refine(show(b&&onTheHeap (Value.builtin "BaseException.__getattribute__"))=ae from bY _).symm▸?_;rw[if_neg (by decide)]);dsimp only[boundAndCalled];rw[F.bind];refine ah (aA ?_);show wpAny _ _ (call (.builtin "BaseException.__getattribute__") [.ref x,.str name t]) _ _ _;refine iy (nY F.plain PySem.F.entry_bexc_ga (@check_slot (model pw w) _ _ ⟨i,g,d,t+1,os⟩ "BaseException.__getattribute__" "BaseException" "__getattribute__" (.ref x) [.str name t] [] _ (by decide+kernel) (by decide+kernel) (T.andThen (iS X k)) (PySem.F.args_bexc_ga _ _) ?_));have L:=looks_find (M:=model pw w) X I j;unfold Builtin.«object.__getattribute__»;refine ah (aA (ah (aA (ah (T.at (ah (L.at ?_)))))));refine aA ?_;show wpAny _ _ (handedOut v) _ _ _;refine(handedOut_of hh).symm▸aA h
end
end
noncomputable def vP(v:al):Option V:=by cases v with
 |none=>exact aa .none|bool b=>exact aa (.bool b)|int i _=>exact aa (.int i)|str s _=>exact aa (.str s)|_=>exact ak
theorem OI{w:aJ}{g:Gh}{x:al}{v:V}(h:vP x=aa v):TR w g v x:=by induction x<;>(first|exact bn h|exact cy h|(injection h with h;subst h))<;>first|rfl|exact⟨_,rfl⟩
theorem Bf{w:aJ}{g:Gh}:∀{xs:List al}{a:List V},xs.map vP=a.map aa->eA w g a xs
 |[],[],_=>rfl|x::xs,v::a,h=>by rw[aK,aK]at h;injection h with b c;exact bl.mk x xs rfl (OI b) (Bf c)|[],_::_,h=>nomatch h|_::_,[],h=>nomatch h
noncomputable def Vi(K:bt):al->Option (List al)
 |.none=>aa []|.ref T=>match K.lookup T with
  |aa ⟨_,_,.seq xs _,_⟩=>aa xs.toList|_=>ak
 |_=>ak
theorem M0{K:bt}{a:al}{D:List al}(h:Vi K a=aa D):Su K a D:=by
  induction a<;>first|(first|exact bn h|exact cy h|cases h);done|skip
  ·(injection h with h;subst h);exact .inl ⟨rfl,rfl⟩
  · unfold Vi at h;dsimp only at h;split at h;·rename_i b;(injection h with h;subst h);exact .inr (dB _ _ _ ⟨rfl,b,rfl⟩)
    ·exact bn h
noncomputable def Xs(K:bt)(fd:FuncData):Bool:=codeIn K fd.code fd.qualname&&(a7 fd.globals 3&&(a7 fd.builtins 0&&(fd.closure.isEmpty&&(fd.params.posonlyargs.isEmpty&&(fd.params.kwonlyargs.isEmpty&&(fd.params.vararg.isNone&&fd.params.kwarg.isNone))))))
abbrev Row:=eJ×FuncBody×List ao×Option (List (Option V))×Bool
def pj(K:bt)(f:aq):Option Row:=match K.lookup f with
 |aa ⟨_,_,.func fd,_⟩=>aa (fd.scope,fd.body,fd.params.args.map (·.arg),(Vi K fd.defaults).map (·.map vP),Xs K fd)|_=>ak
def P8:List ao->Bool
 |[]=>ac|x::r=>!qd x r&&P8 r
theorem vp{x:ao}:∀{l:List ao},x∈l->qd x l=ac|y::r,h=>by show cd (ag x y) ac (qd x r)=ac;induction e:ag x y with
 |true=>rfl|false=>cases h with
  |head=>replace e:=(aI.mpr rfl)▸e;exact mX e|tail _ h=>exact vp h
theorem wX:∀{l:List ao},P8 l=ac->l.Nodup
 |[],_=>.nil|x::r,h=>by dsimp only[P8]at h;rw[af,aL]at h;exact d9.mpr ⟨λm=>(mX ((vp m).symm.trans h.1)),wX h.2⟩
noncomputable def Yn:Option eK->Bool
 |aa .local=>ac|aa .cell=>ac|_=>ae
noncomputable def Y3(v:ScopeKind):Bool:=by cases v with
 |function=>exact ac|_=>exact ae
def vw(F:Fn):Bool:=!F.scope.isCoroutine&&(!F.scope.isGenerator&&(Y3 F.scope.kind&&(P8 F.params&&(aU F.pO.length F.params.length&&(F.params.all (λp=>Yn (iv p F.scope.names))&&(P8 (F.scope.names.map (·.1))&&(iv "__debug__" F.scope.names).isNone))))))
theorem nb{a b:Nat}(h:a7 a b=ac):a=b:=a9 h
set_option tactic.hygienic true in theorem Rf{K:bt}{w:aJ}{f:aq}{F:Fn}(h:pj K f=aa (F.scope,.stmts F.body,F.params,aa (F.pO.map aa),ac))(hb:vw F=ac):∃o fd D,K.lookup f=aa o/\Ih K w F o fd D:=by
  unfold pj at h;split at h
  · rename_i fd sl ho;injection h with h;injection h with h1 h;injection h with h2 h;injection h with h3 h;injection h with h4 h5;refine xK λZ1 GL=>aE (aM.mp h4) λD d1 d2=>?_;unfold Xs at h5;simp only[af,aX,dA]at h5;refine Wr h5 λc e1 e2 e3 e4 e5 e6 e7=>?_;unfold vw at hb;simp only[af,aL,am,dA]at hb;refine Wr hb λb1 b2 b3 b4 b5 b6 b7 b8=>GL ?_;refine dB _ fd D ⟨ho,rfl,h1,b1,b2,?_,h2,c,nb e1,nb e2,e3,e4,h3,e5,e6,e7,wX b4,aj b5,λp m=>?_,wX b7,by rw[lkS_eq];exact b8,M0 d1,λg=>Bf d2⟩;·induction e:F.scope.kind with
      |function=>rfl|_=>replace b3:=e▸b3;exact cy b3
    ·have :=b6 p m;rw[lkS_eq];clear ho h1 h2 h3 h4 d1 d2 h5 c e1 e2 e3 e4 e5 e6 e7 hb b1 b2 b3 b4 b5 b6 b7 b8 m;induction e:iv p F.scope.names with
      |none=>rw[e]at this;exact cy this|some k=>rw[e]at this;clear e;induction k with
        |«local»=>exact .inl rfl|cell=>exact .inr rfl|_=>exact cy this
  ·exact bn h
def Tj:List (Nat×Fn):=T.Jy.flatten
theorem MR:∀P,Tj.map (λp=>pj (H.K P) p.1)=Tj.map (λp=>aa (p.2.scope,.stmts p.2.body,p.2.params,aa (p.2.pO.map aa),ac)):=by intro P;kernel_rfl
theorem DR:Tj.all (λp=>vw p.2)=ac:=by kernel_rfl
theorem yI{a β:Type}{f g:a->β}:∀{l:List a},l.map f=l.map g->∀x∈l,f x=g x
 |[],_,_,m=>nomatch m|y::l,h,x,m=>by rw[aK,aK]at h;injection h with b c;cases m with
  |head=>exact b|tail _ m=>exact yI c x m
theorem vg{c:Type}{a:Nat}{v:c}:∀{l:List (Nat×c)},T.jr a l=aa v->(a,v)∈l
 |[],h=>bn h|(b,u)::r,h=>by
  dsimp only[T.jr]at h;refine xB (a7 a b) (λe=>?_) λe=>?_;·rw[e]at h;exact .tail _ (vg h)
  ·rw[e]at h;(injection h with h;subst h);rw[a9 e];exact .head _
set_option tactic.hygienic true in theorem uf{α:Type}{a:Nat}{v:α}{l:List (List (Nat×α))}(h:T.jr a (T.bk l a)=aa v):(a,v)∈l.flatten:=by
 unfold T.bk at h;split at h;·rename_i r e;exact List.mem_flatten.mpr ⟨r,lN e,vg h⟩
 ·exact bn h
theorem DT{w:aJ}{P:dw}{f:aq}{F:Fn}(h:T.pg.fn f=aa F):∃o fd D,(H.K P).lookup f=aa o/\Ih (H.K P) w F o fd D:=by have m:(f,F)∈Tj:=uf h;exact Rf (yI (MR P) _ m) (am.mp DR _ m)
noncomputable def Yb:Option (Option al):=aa (aa (.builtin "object.__getattribute__"))
noncomputable def SH:al:=.type "type"
noncomputable def Ti:al:=.type "function"
noncomputable def Ve(o:Option CFound)(f:aq):Bool:=match o with
 |aa (.val v)=>v==.ref f|_=>ae
theorem MT{o:Option CFound}{f:aq}(h:Ve o f=ac):o=aa (.val (.ref f)):=by
 unfold Ve at h;split at h;·exact(beq_iff_eq.mp h).symm▸rfl
 ·exact cy h
def F8(K:bt)(C:aq)(x:ao)(r:Option al):Bool:=findIn K (.ref C) "__getattribute__"==Yb&&(findIn K (.ref C) "__getattr__"==aa ak&&findIn K (.ref C) x==aa r)
def mB(K:bt)(C:aq)(x:ao)(f:aq):Bool:=(T.pg.fn f).isSome&&(specialIn K (.ref C) "__getattribute__"==aa (aa (.builtin "type.__getattribute__"))&&(readsIn K C SH&&(Ve (findCls K (.ref C) SH x) f&&(cK T.pg C||(F8 K C x (aa (.ref f))&&typeIn K (.ref f)==aa Ti)))))
def fB(K:bt)(C:aq)(x:ao):Bool:=BX K C x&&(cK T.pg C||(F8 K C x ak&&hasDictIn K C))
def Ok(K:bt)(C:aq):Bool:=qy K C&&(mroIn K C (.type "Exception")==aa ac&&(findIn K (.ref C) "__init__"==aa (aa (.ref 64))&&(typeIn K (.ref 64)==aa Ti&&(findIn K (.ref C) "__setattr__"==aa (aa (.builtin "object.__setattr__"))&&(oG K C&&(takerIn K C "what"==aa ak&&(takerIn K C "at"==aa ak&&hasDictIn K C)))))))
def eG(K:bt)(C:aq):Bool:=mroIn K C (.type "BaseException")==aa ac&&(typeIn K (.ref C)==aa SH&&(findIn K (.ref C) "__getattribute__"==aa (aa (.builtin "BaseException.__getattribute__"))&&(findIn K (.ref C) "__getattr__"==aa ak&&(findIn K (.ref C) "what"==aa ak&&d7.all λD=>mroIn K C (.ref D)==aa (T.pg.sub C D)))))
def cB(K:bt)(C:aq)(k:JX):Bool:=keepIn K (.ref C)&&cd (jT k.kind) (d7.contains C&&(Ok K C&&eG K C)) (!d7.contains C&&(makesIn K C&&(findIn K (.ref C) "__init__"==aa (aa (.ref k.init))&&typeIn K (.ref k.init)==aa Ti)))
theorem CQ:∀P,T.qr.flatten.all (λp=>p.2.all λq=>mB (H.K P) p.1 q.1 q.2)=ac:=by intro P;kernel_rfl
theorem AB:∀P,T.nq.flatten.all (λp=>p.2.all λx=>fB (H.K P) p.1 x)=ac:=by intro P;kernel_rfl
theorem M7:∀P,T.Ed.flatten.all (λp=>cB (H.K P) p.1 p.2)=ac:=by intro P;kernel_rfl
theorem tI{a:Type}{x:ao}{v:a}:∀{l:List (ao×a)},iv x l=aa v->(x,v)∈l
 |(y,u)::r,h=>by
  change cd (ag x y) (aa u) (iv x r)=aa v at h;refine xB (ag x y) (λe=>?_) λe=>?_;·rw[e]at h;exact .tail _ (tI h)
  ·rw[e]at h;(injection h with h;subst h);rw[aI.mp e];exact .head _
theorem yX{x:ao}:∀{l:List ao},T.hit x l=ac->x∈l
 |y::r,h=>by
  dsimp only[T.hit]at h;refine xB (ag x y) (λe=>?_) λe=>?_;·replace h:=e▸h;exact .tail _ (yX h)
  ·refine(aI.mp e).symm▸.head _
set_option tactic.hygienic true in theorem CT{C:aq}{x:ao}{f:aq}(h:T.pg.meth C x=aa f):∃l,(C,l)∈T.qr.flatten/\(x,f)∈l:=by
 change(match T.jr C (T.bk T.qr C)with|aa l=>iv x l|ak=>ak)=aa f at h;split at h;·rename_i l e;exact⟨l,uf e,tI h⟩
 ·exact bn h
set_option tactic.hygienic true in theorem AC{C:aq}{x:ao}(h:T.pg.field C x=ac):∃l,(C,l)∈T.nq.flatten/\x∈l:=by
 change(match T.jr C (T.bk T.nq C)with|aa l=>T.hit x l|ak=>ae)=ac at h;split at h;·rename_i l e;exact⟨l,uf e,yX h⟩
 ·exact cy h
set_option tactic.hygienic true in theorem Hg{C:aq}(h:cK T.pg C=ac):∃k,T.pg.cls C=aa k/\jT k.kind=ac:=by
 unfold cK at h;split at h;·rename_i k e;exact⟨k,e,h⟩
 ·exact cy h
section
variable{P:dw}{w:aJ}{C:aq}
theorem CX{x:ao}{f:aq}(h:T.pg.meth C x=aa f):mB (H.K P) C x f=ac:=let⟨l,a,b⟩:=CT h
 am.mp (am.mp (CQ P) _ a) _ b
theorem JA{x:ao}(h:T.pg.field C x=ac):fB (H.K P) C x=ac:=let⟨l,a,b⟩:=AC h
 am.mp (am.mp (AB P) _ a) _ b
theorem JQ{k:JX}(h:T.pg.cls C=aa k):cB (H.K P) C k=ac:=am.mp (M7 P) (C,k) (uf h)
theorem zi(h:cK T.pg C=ac):d7.contains C=ac/\Ok (H.K P) C=ac/\eG (H.K P) C=ac:=by refine aE (Hg h) λk e a=>?_;have :=JQ (P:=P) e;unfold cB at this;rw[a,af]at this;refine bB this λb this=>?_;change(_&&_)=ac at this;rwa[af,af]at this
theorem Hh(h:Ok (H.K P) C=ac):un (H.K P) w C:=by unfold Ok at h;simp only[af,beq_iff_eq]at h;refine Wq h λa b c d e f g i j=>⟨a,b,c,d,e,f,g,i,j⟩
end
section
open H(Ent ents e3 e0 o0)
def Ob(x:ao)(l:List Ent):Option al:=@oe Ent (λz9=>Option al) ak (λp z9 r=>cd (ag x p.1) (aa p.2.2) r) l
theorem k9{P:dw}{l:List Ent}:StrKeys (ents P l).toArray:=λe m=>by(refine aE (aG.mp (List.mem_toArray.mp m)) λp b a=>?_;(clear m;subst a));exact cM _ _ rfl
theorem vz{P:dw}:∀{l:List Ent},(ents P l).any (·.refKey)=ae
 |[]=>rfl|_::l=>by show(ae||(ents P l).any (·.refKey))=ae;refine vz.symm▸rfl
theorem oS{P:dw}{x:ao}:∀{l:List Ent},((ents P l).find? (·.key.isStr x)).map (·.val)=Ob x l
 |[]=>rfl|p::l=>by show((⟨fW P p.1,.str p.1 p.2.1,p.2.2⟩::ents P l:List ba).find? (·.key.isStr x)).map (·.val)=cd (ag x p.1) (aa p.2.2) (Ob x l);dsimp only[kt];show Option.map _ (match(p.1==x)with|ac=>_|ae=>_)=_;induction e:ag x p.1with
  |true=>rw[aI.mp e,beq_self_eq_true];rfl|false=>
   have a:(p.1==x)=ae:=beq_eq_false_iff_ne.mpr λz=>by rw[aI.mpr z.symm]at e;exact mX e
   refine a.symm▸oS
theorem k0:∀P,(H.K P).lookup 0=aa (o0 P):=by intro P;kernel_rfl
theorem k3:∀P,(H.K P).lookup 3=aa (H.o3 P):=by intro P;kernel_rfl
theorem k1:∀P,((H.K P).lookup 1).isSome=ac:=by intro P;kernel_rfl
def e2:List Ent:=[("type.__subclasses__.Exception.0",268,H.I 74 0),("type.__subclasses__.Exception.n",269,H.I 1 0)]
theorem k2:∀P,(H.K P).lookup 2=aa (H.Rv H.N 2 P e2):=by intro P;kernel_rfl
theorem Ho{P:dw}{x:ao}{l:List Ent}:nsFind (ents P l).toArray x=Ob x l:=by dsimp only[nsFind,findBy];rw[List.find?_toArray];exact oS
theorem CI{P:dw}{x:ao}:nsIn (H.K P) 3 x=aa (Ob x e3):=by unfold nsIn;rw[k3];show(match(ents P e3).find? (·.key.isStr x)with|aa e=>aa (aa e.val)|ak=>if(ents P e3).any (·.refKey)then ak else aa ak)=_;refine vz.symm▸(oS (P:=P))▸?_;cases(ents P e3).find? (·.key.isStr x)<;>rfl
def TS:V->al->Bool
 |.ref a,.ref b=>a7 a b|.int i,.int j _=>i==j|.str s,.str t _=>ag s t|.bi b,u=>VI b==u|_,_=>ae
theorem BC{w:aJ}{g:Gh}{v:V}{u:al}(h:TS v u=ac):TR w g v u:=by induction v using V.casesOn with
 |bi b=>exact(beq_iff_eq.mp h).symm|ref a=>induction u<;>first|exact cy h;done|(refine(a9 h).symm▸?_;rfl)
 |int i=>induction u<;>first|exact cy h;done|exact⟨_,by rw[beq_iff_eq.mp h]⟩
 |str i=>induction u<;>first|exact cy h;done|exact⟨_,by rw[aI.mp h]⟩
 |_=>induction u<;>exact cy h
def gB(x:ao)(v:V):Bool:=!ag x "__debug__"&&match Ob x e3 with
 |aa u=>TS v u|ak=>!ag x "__name__"&&match bootBuiltins x with
  |aa u=>TS v u|ak=>ae
theorem DH:T.qw.flatten.all (λp=>gB p.1 p.2)=ac:=by kernel_rfl
set_option tactic.hygienic true in theorem DI{x:ao}{v:V}(h:T.pg.glob x=aa v):(x,v)∈T.qw.flatten:=by
 change(match T.qw[x.cps.toList.length]?with|aa l=>iv x l|ak=>ak)=aa v at h;split at h;·rename_i l e;exact List.mem_flatten.mpr ⟨l,lN e,tI h⟩
 ·exact bn h
theorem sN{x y:ao}(h:ag x y=ae):x≠y:=λe=>by rw[aI.mpr e]at h;exact mX h
section
variable{P:dw}{w:aJ}
set_option tactic.hygienic true in theorem G4{x:ao}{v:V}(h:T.pg.glob x=aa v):(x==("__debug__":ao))=ae/\((∃u,nsIn (H.K P) mainGlobals x=aa (aa u)/\∀g,TR w g v u)\/(nsIn (H.K P) mainGlobals x=aa ak/\x≠"__name__"/\∃u,bootBuiltins x=aa u/\∀g,TR w g v u)):=by
  have z:gB x v=ac:=am.mp DH (x,v) (DI h);unfold gB at z;rw[af,aL]at z;refine bB z λz1 z=>⟨beq_eq_false_iff_ne.mpr (sN z1),?_⟩;refine(show nsIn (H.K P) mainGlobals x=aa (Ob x e3)from CI).symm▸?_;split at z;·rename_i u e;exact .inl ⟨u,by exact e.symm▸rfl,λg=>BC z⟩
  · rename_i e;rw[af,aL]at z;refine .inr ⟨by exact e.symm▸rfl,sN z.1,?_⟩;have z:=z.2;split at z;·rename_i u e;exact⟨u,e,λg=>BC z⟩
    ·exact cy z
theorem FQ{C:aq}{x:ao}(h:T.pg.field C x=ac):EK (H.K P) w C x:=by have z:=JA (P:=P) h;unfold fB BX at z;simp only[af,beq_iff_eq]at z;exact qW z.1.1.1.1 z.1.1.1.2 z.1.1.2 z.1.2
theorem E3:EI T.pg (H.K w.params) w:=by intro C g x A s Q E l b X p k;obtain⟨a,d,o,j,n,v,rfl,h,i,m,r,c⟩:=p;have z:=(zi (P:=w.params) l).2;unfold Ok eG at z;simp only[af,beq_iff_eq]at z;refine Tv z λB q K t u y J=>Wq B λL M N e D F G I e=>?_;have f:InstAt s.heap a o C (aa (dictOf j n)):=⟨b _ _ h,i.cls,i.no,by refine i.dict.symm▸b _ _ m⟩;exact Hi X f t u q (findObj_own e y rfl (by dsimp only[lookIn_dict];exact r)) c (k _ _ c)
theorem x5(a:∀x:ao,x≠"__name__"->nsFind (ents w.params e0).toArray x=bootBuiltins x):ui (H.K w.params) w:=⟨(dB _ _ _ ⟨k3 _,rfl,k9⟩),(dB _ _ _ ⟨k0 _,rfl,k9,a⟩),(dB _ _ _ ⟨k2 _,rfl,k9,Ho.trans (by kernel_rfl)⟩),CI.trans (congrArg aa (by kernel_rfl)),DT (by kernel_rfl)⟩
theorem M5(d:∀x:ao,x≠"__name__"->nsFind (ents w.params e0).toArray x=bootBuiltins x){C:aq}{k:JX}(h:T.pg.cls C=aa k):(match jT k.kind with|ac=>pe (H.K w.params) w C|ae=>uk (H.K w.params) w C k.init)/\keepIn (H.K w.params) (.ref C)=ac/\(d7.contains C=ac↔k.kind=.exc):=by
 have z:=JQ (P:=w.params) h;unfold cB at z;rw[af]at z;obtain⟨i,f,lo⟩:=k;have b:∀a,jT a=ae->cd (jT a) (d7.contains C&&(Ok (H.K w.params) C&&eG (H.K w.params) C)) (!d7.contains C&&(makesIn (H.K w.params) C&&(findIn (H.K w.params) (.ref C) "__init__"==aa (aa (.ref i))&&typeIn (H.K w.params) (.ref i)==aa Ti)))=ac->uk (H.K w.params) w C i/\d7.contains C=ae:=λa e z=>by rw[e]at z;change(_&&_)=ac at z;simp only[af,aL,beq_iff_eq]at z;exact⟨wY z.2.1 z.2.2.1 z.2.2.2 z.1,z.1⟩
 clear h;induction f with
 |exc=>have c:=z.2;change(_&&_)=ac at c;rw[af,af]at c;exact⟨D0 (Hh c.2.1) (x5 d),z.1,λz9=>rfl,λz9=>c.1⟩|plain=>exact⟨(b .plain rfl z.2).1,z.1,λe=>(cy ((b .plain rfl z.2).2.symm.trans e)),λe=>(nomatch e)⟩|keep=>exact⟨(b .keep rfl z.2).1,z.1,λe=>(cy ((b .keep rfl z.2).2.symm.trans e)),λe=>(nomatch e)⟩
theorem PN(g:∀x:ao,x≠"__name__"->nsFind (ents w.params e0).toArray x=bootBuiltins x):bo T.pg (H.K w.params) w where
 SZ:=(dB _ _ _ ⟨k3 _,rfl,k9⟩)
 S0:=(dB _ _ _ ⟨k0 _,rfl,k9,g⟩)
 LV:=(x5 g).LV
 glob _ _ h:=G4 h
 sys:=bu.mp (k1 _)
 set _ _ h:=FQ h
 Je C x f h e:=by have z:=CX (P:=w.params) h;unfold mB F8 at z;rw[e]at z;simp only[af,beq_iff_eq,fL]at z;refine Ws z λj t u v j d=>fi j λa b c=>⟨a,b,c,d⟩
 Jf C x f h:=by have z:=CX (P:=w.params) h;unfold mB at z;simp only[af,beq_iff_eq]at z;exact⟨z.2.1,SH,z.2.2.1,MT z.2.2.2.1⟩
 CU C x f h:=by have z:=CX (P:=w.params) h;unfold mB at z;rw[af]at z;exact z.1
 cls _ _ h:=M5 g h
 exc C h:=by have z:=(zi (P:=w.params) h).2.2;unfold eG at z;simp only[af,beq_iff_eq]at z;exact⟨z.1,z.2.1⟩
 W2 C D h k:=by have z:=(zi (P:=w.params) h).2.2;unfold eG at z;simp only[af,beq_iff_eq]at z;have m:=(zi (P:=w.params) k).1;exact beq_iff_eq.mp (am.mp z.2.2.2.2.2 D (List.contains_iff_mem.mp m))
 tU f F h:=by refine d0 (DT (w:=w) (P:=w.params) h) λo q D l i=>?_;obtain⟨r,s,n,p⟩:=o;have :=i.data;dsimp only at this;clear i;subst this;unfold keepIn;dsimp only;exact l.symm▸rfl
 fn _ _ h:=DT h
 field C x h e:=by have z:=JA (P:=w.params) h;unfold fB F8 at z;replace z:=e▸z;simp only[af,beq_iff_eq,fL]at z;exact⟨z.2.1.1,z.2.2,z.2.1.2.2⟩
 E4:=E3
end
end
namespace H
theorem KU:@segRunT=@j7:=PySem.W.Fast.te10110043849684766642
theorem s8:@treeTable=@j6:=PySem.W.Fast.te14364793385576792824
theorem DG:@topGo=@PySem.W.Fast.tw15667345088766844465:=PySem.W.Fast.te15667345088766844465
theorem zR:@topRun=@PySem.W.Fast.tw14082659384304107361:=PySem.W.Fast.te14082659384304107361
theorem zY:@segRun=@PySem.W.Fast.tw14374325043358763698:=PySem.W.Fast.te14374325043358763698
theorem M1:@denote=@PySem.W.Fast.tw11892475500146522536:=PySem.W.Fast.te11892475500146522536
theorem mE{N:Nat}{w:aJ}{s b:ma}{l:List dG}{p a:gA}(h:uW N w s l p=aa (.next,b,ig,a)):segRun treeTable pr w 11 (aa (.ref 6)) 1 N s.abs (piecesOf l D5 ig p [topFrame tv])=aa (.next,b.abs,ig,a):=by refine segRun_of ?_;refine s8.symm▸KU.symm▸h
theorem pre:∀(w:aJ)(os:cQ),topGo treeTable pr w 11 (aa (.ref 6)) 12 ⟨iA w.params,{toList:=[]},boot_drawn,boot_toks,os⟩ (topStub pr)=aa ((SP w os).abs,⟨denote treeTable ig,ig,tv,[topFrame tv]⟩):=by intro w os;refine s8.symm▸DG.symm▸M1.symm▸?_;kernel_rfl
theorem block:∀(w:aJ)(os:cQ),segRun treeTable pr w 11 (aa (.ref 6)) 1 1 (SP w os).abs (blockOf gX D5 ig tv [topFrame tv])=aa (.next,(SP w os).abs,ig,tv):=by intro w os;refine s8.symm▸zY.symm▸?_;kernel_rfl
theorem Vd:∀(w:aJ)(s:ax),topRun treeTable pr w 11 (aa (.ref 6)) 2 s (restOf [] D5 ig PH [topFrame tv])=aa s:=by intro w s;refine s8.symm▸zR.symm▸?_;kernel_rfl
theorem cutD{α:Type _}(a b:Nat)(l:List α):(l.drop a).take b++l.drop (a+b)=l.drop a:=by rw[<-List.drop_drop,cD]
theorem Et:gX=gX.take 32++((gX.drop 32).take 24++((gX.drop (32+24)).take 23++((gX.drop (32+24+23)).take 22++((gX.drop (32+24+23+22)).take 21++((gX.drop (32+24+23+22+21)).take 14++(gX.drop (32+24+23+22+21+14)++[])))))):=by simp only[bf,cutD,cD]
theorem K6:∀(w:aJ)(os:cQ),topRun treeTable pr w 11 (aa (.ref 6)) (12+(1+(3999+(1483+(2328+(1028+(659+(1221+(951+2))))))))) ⟨iA w.params,{toList:=[]},boot_drawn,boot_toks,os⟩ (topStub pr)=aa (T1 w os).abs:=by intro w os;refine go_top (pre w os) (piece_block (block w os) ?_);rw[Et];exact li (mE (LE w os)) (li (mE (LD w os)) (li (mE (LC w os)) (li (mE (LB w os)) (li (mE (LA w os)) (li (mE (Lz w os)) (li (mE (Ly w os)) (Vd w _)))))))
def H1(P:dw):bz:={objs:=(tV P).toArray,life:={}}
theorem Qi:∀P,(P0 20 (tV P)).list 1714=tV P:=by intro P;kernel_rfl
theorem VM(w:aJ)(os:cQ):(T1 w os).abs=⟨H1 w.params,{toList:=[]},{},2520,os⟩:=by show Shared.mk (absHeap (P0 20 (tV w.params)) 1714 {}) _ _ _ _=_;unfold absHeap;rw[Qi];rfl
noncomputable def CN(st:dG):Option ao:=by cases st with
 |FunctionDef n=>exact aa n|ClassDef n=>exact aa n|Assign ts=>exact(match ts with
  |[.Name n _]=>aa n|_=>ak)|_=>exact ak
noncomputable def qv:Program:={pr with main:={pr.main with body:=pr.main.body.drop 163}}
def loose:List ao:=(pr.main.body.take 163).filterMap CN
def Xt(s:ax):Bool:=xlAt qv [] s&&recOk [] s
def Yf(s:ax):List (Option dJ)×Nat:=(Sg.map s.heap.get?,s.toks)
def Ya(w:aJ):List (Option dJ)×Nat:=((K w.params).map (λp=>aa p.2),2520)
noncomputable def NN:Nat:=12000
def Rj(w:aJ)(os:cQ):ax:=⟨H1 w.params,{toList:=[]},{},2520,os⟩
theorem Ge:∀w:aJ,(fencedOpening treeTable pr w NN).map (λs=>(s.heap,s.gens,s.drawn,s.toks))=aa (iA w.params,{toList:=[]},boot_drawn,boot_toks):=boot_open (p:=pr) (N:=NN) (by kernel_rfl) (by kernel_rfl) (λs=>by kernel_rfl)
theorem FI:∀w:aJ,((iA w.params).isNs mainGlobals&&(⟨[]⟩:Array n7).size==0,(iA w.params).objs.size,(iA w.params).nsMap mainGlobals "__annotations__")=(ac,11,aa (.ref 6)):=by intro w;kernel_rfl
theorem Gy:∀w:aJ,staticsOk (importedModules pr.main.body) (iA w.params) (H1 w.params)=ac:=by intro w;unfold staticsOk;refine Fast.sDec_eq.symm▸?_;kernel_rfl
theorem Gx:∀w:aJ,namesBound pr (H1 w.params)=ac:=by intro w;unfold namesBound;refine Fast.sDec_eq.symm▸?_;kernel_rfl
theorem Gw:∀w:aJ,laidKept (iA w.params) (H1 w.params)=ac:=by intro w;unfold laidKept;kernel_rfl
theorem UI:∀P,(K P).map (λp=>(tV P)[p.1]?)=(K P).map λp=>aa p.2:=by intro P;kernel_rfl
theorem Ms:∀P,(K P).all (λp=>!p.2.isFreed)=ac:=by intro P;kernel_rfl
theorem QN:∀P,Sg=(K P).map (·.1):=by intro P;kernel_rfl
theorem DL{l:List dJ}{a:aq}{o:dJ}(e:l[a]?=aa o)(f:o.isFreed=ae):(⟨l.toArray,{}⟩:bz).get? a=aa o:=by
 have b:l.toArray[a]?=aa o:=by simpa using e
 unfold Heap.get?;dsimp only;refine b.symm▸?_;obtain⟨c,d,g,h⟩:=o;clear e b;induction g<;>first|rfl|exact mX f
theorem CV{P:dw}:∀{L:bt},L.map (λp=>(tV P)[p.1]?)=L.map (λp=>aa p.2)->L.all (λp=>!p.2.isFreed)=ac->L.map (λp=>(H1 P).get? p.1)=L.map λp=>aa p.2
 |[],_,_=>rfl|p::L,e,f=>by rw[aK,aK]at e;injection e with a e2;rw[cn,af]at f;(refine aK.symm▸?_;rw[aK,CV e2 f.2]);congr 1;exact DL a (by simpa using f.1)
theorem L5:∀w:aJ,(λos=>Yf (Rj w os))=λz9=>Ya w:=by intro w;funext os;refine Prod.ext ?_ rfl;show Sg.map (H1 w.params).get?=_;show _=(K w.params).map λp=>aa p.2;rw[QN w.params,iF];exact CV (UI w.params) (Ms w.params)
theorem CF:@openSeen=@PySem.W.Fast.tw4187177175401517315:=PySem.W.Fast.te4187177175401517315
theorem L6:∀w:aJ,(λos=>openSeen qv loose (importedModules pr.main.body) Xt ac (Rj w os))=λz9=>openGood qv loose:=by intro w;refine CF.symm▸?_;kernel_rfl
end H
theorem items_int{R:WRecords}:∀{xs:List WData},WShape.hasItems R xs .int=ac->∃a:List Int,xs=a.map gM
 |[],_=>⟨[],rfl⟩|x::xs,h=>by dsimp only[WShape.hasItems]at h;rw[af]at h;(refine aQ (hasW_int h.1) λi b=>?_;subst b);(refine aQ (items_int h.2) λa b=>?_;(clear h;subst b));exact⟨i::a,rfl⟩
theorem GQ(a:List Int):ofPys (a.map PyData.int)=a.map gM:=by induction a with
 |nil=>rfl|cons i a b=>refine aK.symm▸aK.symm▸?_;show gM i::_=_;exact b.symm▸rfl
theorem q5{R:WRecords}{d:ao->Option aq}{h:bz}{w:aJ}{g:Gh}:∀{a:List Int}{b:List al}{c:List aq},ReadsAllW R d h b (a.map gM) c->eA w g (ct a) b
 |[],_,_,h=>by cases h;rfl|i::a,b,c,h=>by cases h with|cons e f=>cases e;exact bl.mk _ _ rfl ⟨_,rfl⟩ (q5 f)
abbrev rL:RowW:=rw_nn0098_01.row.toRowW
theorem Lo{a:List Int}(h:rL.pre.holds rL.records {args:=[.list (a.map gM)]}=ac):a.length<=63:=by
 have e:rL.pre=.and (.not (.lt (.lit (.int 63)) (.len (.arg 0)))) (.lit (.bool ac)):=rfl;have e2:WTm.value rL.records (.lt (.lit (.int 63)) (.len (.arg 0))) {args:=[.list (a.map gM)]}=aa (.bool (decide ((63:Int)<((a.map gM).length:Int)))):=rfl;rw[e]at h;unfold WTm.holds WTm.value WTm.value at h;rw[e2]at h;refine xB (decide ((63:Int)<((a.map gM).length:Int))) (λd=>?_) λd=>?_;·rw[decide_eq_false_iff_not,az]at d;omega
 ·rw[d]at h;exact cy h
theorem H9{args:List WData}(h:rL.claim.pre args=ac):∃a:List Int,a.length<=63/\args=[.list (a.map gM)]:=by refine bB (pre_splitW h) λc g=>?_;(refine fY (hasAllW_cons (e:=.list .int) (es:=[]) c) λd r b e i=>?_;(clear h c;subst b));obtain rfl:=hasAllW_nil i;(refine aE (hasW_list e) λk b f=>?_;(clear e;subst b));(refine aQ (items_int f) λa j=>?_;(clear f;subst j));exact⟨a,Lo g,rfl⟩
def dL:DefRec:=match T.fd 163with
 |.FunctionDef name args body _ _ _ scope _ _ pos=>⟨name,args,body,scope,pos⟩|_=>⟨"",⟨[],[],ak,[],[],ak,[]⟩,[],⟨.module,[],ae,ae,[]⟩,default⟩
theorem Hs:dL.name="law":=by kernel_rfl
theorem C3{P:dw}:nsIn (H.K P) mainGlobals "law"=aa (aa (.ref 1713)):=CI.trans (congrArg aa (by kernel_rfl))
theorem HZ{w:aJ}{h:bz}{a:ao->Option al}(X:(H.K w.params).In h)(b:h.Ns builtinsNs a)(k:∀x:ao,x≠"__name__"->a x=bootBuiltins x):∀x:ao,x≠"__name__"->nsFind (H.ents w.params H.e0).toArray x=bootBuiltins x:=λx j=>by refine hY b λo i g e d l f=>?_;have c:=X _ _ (k0 w.params);have :o=H.o0 w.params:=eL (e.symm.trans c);clear e;subst this;change Data.dict _ _=Data.dict i g at d;injection d with d;exact(k x j)▸(f x)▸d▸rfl
noncomputable def Ji(K:bt)(h:bz)(a:aq)(b:aq):Option i3:=match a7 b a,K.lookup b with
 |ae,ak=>(h.get? b).map .ob|_,_=>ak
theorem C4{w:aJ}{s:ax}{a:aq}{f:Array al}{B:List Int}{R:n4->ax->Prop}(z:∀x:ao,x≠"__name__"->nsFind (H.ents w.params H.e0).toArray x=bootBuiltins x)(X:(H.K w.params).In s.heap)(y:s.heap.get? a=aa {cls:=.type "list",data:=.seq f})(A:(H.K w.params).lookup a=ak)(J:∀g,eA w g (ct B) f.toList)(F:B.length<=63)(I:0<s.toks)(k:∀j,(∀b o,s.heap.get? b=aa o->j.heap.get? b=aa o)->j.gens=s.gens->j.os=s.os->R (.ok (.ret (.bool ac))) j):codeAny (model pw w) callerA (.call (.ref 1713) ⟨[.ref a],[]⟩) R s:=by
 have L:=Mk (PN z);let g:Gh:=λb=>match a7 b a with
  |ac=>aa (.fz (eo f.toList 0))|ae=>(Ji (H.K w.params) s.heap a b).map .kp;have E:g a=aa (.fz (eo f.toList 0)):=by show(match a7 a a with|ac=>_|ae=>_)=_;rw[pi]
 have G:s.heap.get? a=aa (eo f.toList 0):=y;have C:∀b t,g b=aa t->Meets s.heap b t/\(H.K w.params).lookup b=ak:=λb t e=>by change(match a7 b a with|ac=>aa (.fz (eo f.toList 0))|ae=>(Ji (H.K w.params) s.heap a b).map .kp)=aa t at e;induction q:a7 b a with
  |true=>replace e:=q▸e;(injection e with e;subst e);refine(a9 q).symm▸⟨G,A⟩|false=>replace e:=q▸e;(refine aE (aM.mp e) λu d D=>?_;subst D);unfold Ji at d;replace d:=q▸d;induction l:(H.K w.params).lookup b with
   |some o=>replace d:=l▸d;exact bn d|none=>replace d:=l▸d;(refine aE (aM.mp d) λo e2 D=>?_;(clear d;subst D));exact⟨e2,rfl⟩
 have kp:∀b u,Ji (H.K w.params) s.heap a b=aa u->g b=aa (.kp u):=λb u e=>by show(match a7 b a with|ac=>aa (Tag.fz (eo f.toList 0))|ae=>(Ji (H.K w.params) s.heap a b).map Tag.kp)=_;clear z y A;induction q:a7 b a with
  |true=>unfold Ji at e;replace e:=q▸e;exact bn e|false=>refine e.symm▸rfl
 refine L (s.gens,s.drawn,s.os) (Ji (H.K w.params) s.heap a) [] ak ae 1713 [.v (.lst (ct B))] [.ref a] [] [] g callerA s (λz9 r=>r=.v (.bool ac)) (λz9=>False) R (GI F rfl) rfl rfl (by decide) (by decide) (.inr rfl) (λh e=>bn e) (λe m=>nomatch m) (.v ⟨a,f.toList,0,rfl,E,J g⟩ .nil) ⟨rfl,λi c p e=>bn e⟩ ⟨rfl,X,C,kp⟩ I ?_ (λz9 z9 z9 z9 z9 z9 z9 z9 e=>nomatch e) (λz9 z9 z9 z9 e=>e.elim);intro M v P j x e n O _ K;(injection e with e;subst e);change x=.bool ac at K;subst K;have r:=n.rest;refine k j (λb o e=>?_) (congrArg (·.1) r) (congrArg (·.2.2) r);clear z y A J F I k L a_1 r;induction l:(H.K w.params).lookup b with
 |some Q=>refine e▸(X _ _ l).symm▸n.K _ _ l|none=>
  refine xB (a7 b a) (λq=>?_) λq=>?_;·exact(n.tag b _ (n.kp b (.ob o) (by unfold Ji;refine q.symm▸l.symm▸e.symm▸rfl))).1
  ·rw[a9 q]at e⊢;refine e▸G.symm▸(n.tag _ _ (O _ _ E rfl)).1
theorem walk{kwd:List (ao×aY)}:WalkX H.qv H.loose (XL H.qv []) H.Yf H.Ya rL dL kwd λf i=>PySem.call f i:=by intro w b t Z X G Y a o pm cd z dV W J V U T c K l u R L q M r I s;(refine aE (H9 q) λns N j=>?_;(clear q M I;subst j));have v:H.Sg.map b.heap.get?=(H.K w.params).map λp=>aa p.2:=congrArg Prod.fst Y;have y:b.toks=2520:=congrArg Prod.snd Y;have k:(H.K w.params).In b.heap:=Frag.in_of (H.QN w.params) v;have h:=k.keeps L.keeps;rw[Hs,mg_of h G.T.g C3]at c;injection c with c;injection c with c;clear J;subst c;have O:=r;cases r with|cons E F=>cases F;cases E with|@list x P i n _ S A e2 B C=>
 rw[<-GQ]at L;refine bB (PySem.W.X.script_at L) λj z2=>?_;have Q:=PySem.W.X.script_obj (its:=i) L ⟨P,A,e2,n,B⟩;have fr:(H.K w.params).lookup x=ak:=by induction e:(H.K w.params).lookup x with
  |none=>rfl|some o'=>exact absurd (bp (k _ _ e)) (by refine j.symm▸mU _)
 have tk:=PySem.W.X.script_toks L y;refine iy (C4 (HZ h G.T.b G.T.builtins) h Q fr (λg=>q5 C) N (by lia) λs' d D os=>?_);exact⟨.inl (dB _ (.bool ac) [] ⟨rfl,λz9=>rfl,.bool ac,by kernel_rfl,λz9=>⟨iW,λz9 m=>(nomatch m)⟩⟩),.of_keep d,os,by refine D.symm▸K.symm▸AllBare.empty⟩
section
open H
theorem left:LeftO pr qv H.loose Xt Yf Ya NN:=by refine LeftO.of_pieces (H₁:=H1) (M:=12+(1+(3999+(1483+(2328+(1028+(659+(1221+(951+2))))))))) (k₁:=2520) Ge FI (λw os=>(K6 w os).trans (congrArg aa (VM w os))) (by decide) λw=>?_;funext os;refine(Gy w).symm▸(Gx w).symm▸(Gw w).symm▸Prod.ext rfl (Prod.ext (congrFun (L6 w) os) (congrFun (L5 w) os))
theorem Aj:rw_nn0098_01.Holds:=by
 refine holds_law T8 λb=>holds_openX (q:=qv) (loose:=H.loose) (Xt:=Xt) (XP:=XL qv []) (Yf:=Yf) (Ya:=Ya) (d:=dL) (kwd:=[]) (N:=NN) left (λs e=>xl_of s (bJ.mp e).1) XL.keeps (by kernel_rfl) (by kernel_rfl) (by kernel_rfl) (λs e=>recFacts_of (bJ.mp e).2) rfl b ?_ ⟨rfl,rfl,rfl,rfl,rfl,by decide+kernel⟩ ?_ walk;·decide+kernel
 ·exact⟨[.list []],by decide+kernel,by decide+kernel⟩
end
end
end Mine.Internal
theorem PySem.Challenge.cw_nn0098_01_holds : PySem.Challenge.rw_nn0098_01.Holds :=
  Mine.Internal.Aj
