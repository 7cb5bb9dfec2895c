import PyProof.Rows.All
import Wide.All
import OpenK.AllK
import Wide.FinOn
import PyProof.CompMap
import PyProof.CompFree
import PyProof.StrWalks
import PyProof.WalksMore
import PyProof.CompUse
import PyProof.ExcArgsOwn
import PyProof.ExcBaseAll.Exception
import PyProof.ExcInit
import KE.KIsAll
import PyProof.Rows.TupAssign
import PyProof.RulesAs
import PyProof.RulesFinally
import PySem.Challenge.RW_nz0529_01
set_option Elab.async false
set_option maxRecDepth 1000000
set_option linter.unusedVariables false
set_option linter.unusedSectionVars false
set_option maxHeartbeats 4000000
set_option genSizeOf false
set_option genInjectivity false
namespace Mine
theorem aD{Y}{x:Y}{G:Prop}(h:none=some x):G:=nomatch h
theorem sNo{Y}{x:Y}{G:Prop}(h:some x=none):G:=nomatch h
theorem cH{G:Prop}(h:true=false):G:=nomatch h
theorem aE{G:Prop}(h:false=true):G:=nomatch h
theorem Mg{Y}{a:Y}{l:List Y}{G:Prop}(h: []=a::l):G:=nomatch h
theorem LF{Y}{a:Y}{l:List Y}{G:Prop}(h:a::l= []):G:=nomatch h
theorem cQ{Y}{a b:Y}(f:Y->Nat)(h:a=b)(q:Nat.beq (f a) (f b)=false){G:Prop}:G:=absurd (congrArg f h) (Nat.ne_of_beq_eq_false q)
theorem af{Y}{a b:Y}(h:some a=some b):a=b:=Option.some.inj h
end Mine
set_option tactic.hygienic false
local macro_rules
  | `(tactic| cases $h:ident) => `(tactic| first | exact Mine.aD $h | exact Mine.aE $h | exact Mine.cH $h | exact Mine.sNo $h | exact Mine.Mg $h | exact Mine.LF $h | subst $h | exact Mine.cQ PySem.Data.ctorIdx $h rfl)
open _root_.Nat renaming beq->ag,le_trans->aI,ble->aM,blt->bh,le_of_ble_eq_true->bt,lt_of_lt_of_le->bz,zero_add->bJ,le_of_eq->ck,le_refl->cG,not_lt->cV,add_right_comm->dx,lt_of_le_of_lt->dy,blt_eq->d7,lt_succ_of_le->fg,le_add_right->fh,ne_of_lt->gR,add_assoc->ie,zero_le->ig,lt_of_lt_of_eq->iZ,le_of_not_lt->i5,succ_le_succ->i7,add_le_add->i9,add_comm->ja,div->jg,add_le_add_right->jM,le_succ_of_le->k9,le_of_lt_succ->aen,zero_lt_of_lt->mu,succ->mC,mul_le_mul_left->n9,lt_succ_self->og,not_lt_zero->oj,le_of_lt->ot,casesOn->ou,le_succ->oz,mod->oH,lt_succ_of_lt->qh,succ_ne_zero->qi,sub_self->qm,succ_pos->qo,eq_of_mul_eq_mul_left->th,lt_of_succ_lt_succ->tj,succ_lt_succ->tC,add_sub_cancel'->wh,pos_of_ne_zero->wj,sub_add_cancel->wk,le_of_succ_le->wm,lt_of_not_le->wp,shiftRight->wq,lt_irrefl->wr,lt_trans->wv,sub_le->wx,sub->xf,sub_lt_left_of_lt_add->Cb,lt_add_of_pos_right->Cc,ble_eq_true_of_le->Cf,sub_le_of_le_add->Cg,add_lt_add_left->Ch,lt_of_le_of_ne->Cj,div_add_mod->Cn,ne_of_gt->Cz,mul_pos->CD,one_mul->CE,mod_lt->CM,not_le->CN,sub_lt->CO,shiftRight_eq_div_pow->Mv,add_sub_cancel_left->My,eq_of_beq_eq_true->ME,pow_le_pow_right->MH,sub_le_sub_right->MI,add_left_cancel->MN,mul_mod_right->MV,div_eq_of_lt->Nb,min_le_right->Nc,mod_eq_of_lt->Nd,sub_sub_self->Nf,le_add_left->Nj,min_le_left->Nk,mul_add_mod->Nl,lt_one_iff->Nw,mul_comm->NI,pow_succ->NJ,two_mul->NZ,ble_eq->Pm
open _root_.PySem renaming Expr->ax,wpAny_bind->az,wpAny_pure->aT,call->c9,wpAny_mono->da,BoolOp->ey,wpAny_holding->fj,wpAny_field->fk,wpAny_standAt->ga,wpAt_of_wpAny->MO,wpAt_bind->No,sizeLine->Ny,passOn->NK
open _root_.List renaming all_eq_true->be,mem_of_getElem?->bx,prefix_refl->bT,length_append->cJ,forall_mem_cons->cT,length_map->dz,mem_append->dZ,range->d6,replicate->ew,forall_mem_singleton->eH,mem_singleton->fe,getElem?_of_mem->fZ,lookup_cons->gP,getElem?_map->ib,mem_range->ic,getElem?_append_right->iX,append_nil->i8,mem_map_of_mem->jN,append_assoc->jO,forIn_cons->jP,mem_cons->jQ,cons->jS,getElem?_eq_getElem->k6,nodup_cons->la,getElem?_eq_some_iff->mn,length->mx,find?_cons->oh,map_cons->om,mem_map->oq,getElem?_append_left->qe,mem_append_left->qg,forall_mem_append->ti,mem_append_right->tn,take_append_drop->tq,any_eq_true->tB,rec->tR,cons_append->wo,getD_eq_getElem?_getD->Ca,getElem?_eq_none->Cd,contains_cons->Ci,getElem?_inj->Ck,nodup_append->aeo,nil_append->Cm,IsPrefix->Ct,zipWith->Cy,getElem?_concat_length->Mr,extract_eq_take_drop->Mt,getElem?_eq_none_iff->Mu,length_eq_zero_iff->Mx,length_replicate->MC,lookup_cons_self->MD,filterMap_cons->MM,find?_eq_none->MP,getElem?_drop->MQ,getElem_mem->MZ,length_take->Na,mem_filter->Ni,forIn_nil->Nu,nodup_nil->Nv,all_cons->NC,take_nil->ND,lookup->NY,foldl->Pl
open _root_.Prod renaming mk->bU
open _root_.Bool renaming and_eq_true_iff->b7,or_eq_true_iff->dw,and_eq_true->i0,or_eq_false_iff->jL,false_eq_true->k8,false_ne_true->tu,not_eq_true'->MU,casesOn->NF,or_true->NG
open _root_.PySem.Heap renaming lt_size->cU,SameBut->eJ,get?_push_of_some->gN,size_push->gQ,get?_push_size->k7,get?_update_self->n8,get?_update_other->tm,get?->wB,size_after_update->MB,accountedOkI->MW,of_bltView->Np,nsMap->Pn,isNs->PY
open _root_.Int renaming le_trans->c8,not_lt->jb,le_of_lt->mw,natCast_nonneg->oa,ofNat_lt->qk,not_le->qp,fdiv->qE,lt_of_le_of_lt->tx,negSucc_lt_zero->wg,lt_of_lt_of_le->wi,toNat_natCast->wl,le_of_eq->wu,fmod->wP,lt_trans->Cv,ofNat_le->Cw,natCast_ne_zero->ML,ediv_le_ediv->MY,le_antisymm->Ng,natCast_pos->Nh,add_le_add->Nr,mul_le_mul->Nt,add_assoc->NB,add_zero->NH,le_refl->NX
open _root_.Array renaming length_toList->dJ,getElem?_toList->iY,find?_toList->mq,toList->qj,getElem?_eq_some_iff->v9,toList_append->we,toList_inj->wn,getElem?_eq_getElem->Ms,mem_toList_iff->MF,toList_extract->MG,getElem?_push->MJ,not_mem_empty->MK,toList_push->MT,any_toList->MX
open _root_.Option renaming casesOn->f0,map_eq_some_iff->mo,isSome_iff_exists->n6,none->ww,some->CF,isNone_iff_eq_none->Mw,bind_eq_some_iff->Mz,map_eq_none_iff->MA,isSome_none->MR,isSome_some->MS,getD->N7
open PySem PySem.W PySem.Calls PyProof.Rows
namespace Mine
noncomputable def aW{Y β:Type}(z:β)(f:Y->List Y->β->β)(l:List Y):β:=tR z (λa r ih=>f a r ih) l
noncomputable def cC{β:Type}(z:β)(f:Nat->β->β)(n:Nat):β:=Nat.rec z (λm ih=>f m ih) n
inductive TM(Y:Type) where
 |nil
 |leaf (v:Option Y)
 |node (l r:TM Y)
noncomputable def La{Y β:Type}(z:β)(g:Option Y->β)(f:β->β->β)(t:TM Y):β:=TM.rec z g (λ_ _ x y=>f x y) t
noncomputable def bf{β:Type}(b:Bool)(x y:β):β:=NF (motive:=λ_=>β) b y x
noncomputable def ob{Y β:Type}(o:Option Y)(f:Y->Option β):Option β:=f0 (motive:=λ_=>Option β) o none f
noncomputable def oe{Y β:Type}(z:β)(f:Y->β)(o:Option Y):β:=f0 (motive:=λ_=>β) o z f
section
variable{Y β:Type}
theorem cz{o:Option Y}{f:Y->Option β}{b:β}(h:ob o f=some b):∃a,o=some a/\f a=some b:=by
 cases o with
 |none=>exact aD h
 |some a=>exact ⟨a,rfl,h⟩
theorem bQ{o:Option Y}{f:Y->Option β}{a:Y}{b:β}(h:o=some a)(h':f a=some b):ob o f=some b:=h▸h'
theorem fu{b:Bool}{x:Option Y}{a:Y}(h:bf b x none=some a):b=true/\x=some a:=by
 cases b with
 |true=>exact ⟨rfl,h⟩
 |false=>exact aD h
theorem xk{b:Bool}{x:Option Y}{a:Y}(h:bf b none x=some a):b=false/\x=some a:=by
 cases b with
 |true=>exact aD h
 |false=>exact ⟨rfl,h⟩
theorem bq{a b:Bool}(h:(a&&b)=true):a=true/\b=true:=b7.mp h
theorem ah{o:Option Y}{f:Y->Option β}{b:β}{G:Prop}(h:ob o f=some b)(k:∀a,o=some a->f a=some b->G):G:=(cz h).elim λa h=>k a h.1 h.2
theorem bb{b:Bool}{x:Option Y}{a:Y}{G:Prop}(h:bf b x none=some a)(k:b=true->x=some a->G):G:=(fu h).elim k
theorem eO{b:Bool}{x:Option Y}{a:Y}{G:Prop}(h:bf b none x=some a)(k:b=false->x=some a->G):G:=(xk h).elim k
theorem aB{a b:Bool}{G:Prop}(h:(a&&b)=true)(k:a=true->b=true->G):G:=(bq h).elim k
theorem cx{l:List Y}{i:Nat}{G:Prop}(h:i< l.length)(k:∀a,l[i]?=some a->G):G:=k _ (k6 h)
@[elab_as_elim] theorem ae {Y:Sort u} {a b:Y} {p:Y->Prop} (h:a=b) (m:p b):p a:=Eq.subst h.symm m
@[elab_as_elim] theorem bH {Y:Sort u} {a b:Y} {p:Y->Prop} (h:a=b) (m:p a):p b:=Eq.subst h m
theorem fJ{b:Bool}(h:(!b)=true):b=false:=by
 cases b with
 |true=>exact aE h
 |false=>rfl
theorem yj{b x:Bool}(h:bf b false x=true):b=false/\x=true:=by
 cases b with
 |true=>exact aE h
 |false=>exact ⟨rfl,h⟩
theorem ii{b c:Bool}(h:bf b c false=true):b=true/\c=true:=by
 cases b with
 |true=>exact ⟨rfl,h⟩
 |false=>exact aE h
theorem aH{a b:Nat}(h:ag a b=true):a=b:=ME h
theorem dC{a b:Nat}(h:ag a b=false):a≠b:=Nat.ne_of_beq_eq_false h
end
namespace TM
variable{Y:Type}
noncomputable def ac7(_:Nat):Option Y:=none
noncomputable def getL(v:Option Y)(_:Nat):Option Y:=v
noncomputable def ac6(x y:Nat->Option Y)(i:Nat):Option Y:=bf (ag (oH i 2) 1) (x (jg i 2)) (y (jg i 2))
noncomputable def get(t:TM Y):Nat->Option Y:=La ac7 getL ac6 t
noncomputable def GF(ih:TM Y->Nat->Option Y->TM Y)(i:Nat)(o:Option Y):TM Y:=bf (ag (oH i 2) 1) (.node (ih .nil (jg i 2) o) .nil) (.node .nil (ih .nil (jg i 2) o))
noncomputable def VC(ih:TM Y->Nat->Option Y->TM Y)(i:Nat)(o:Option Y)(_:Option Y):TM Y:=GF ih i o
noncomputable def VD(ih:TM Y->Nat->Option Y->TM Y)(i:Nat)(o:Option Y)(l r:TM Y):TM Y:=bf (ag (oH i 2) 1) (.node (ih l (jg i 2) o) r) (.node l (ih r (jg i 2) o))
noncomputable def putAt(ih:TM Y->Nat->Option Y->TM Y)(t:TM Y)(i:Nat)(o:Option Y):TM Y:=TM.casesOn (motive:=λ_=>TM Y) t (GF ih i o) (VC ih i o) (VD ih i o)
noncomputable def adM(_:TM Y)(_:Nat)(o:Option Y):TM Y:=.leaf o
noncomputable def put(d:Nat):TM Y->Nat->Option Y->TM Y:=cC adM (λ_ ih=>putAt ih) d
end TM
namespace TM
variable{Y:Type}
inductive WF:Nat->TM Y->Prop
 |nil (n:Nat):WF n .nil
 |leaf (v:Option Y):WF 0 (.leaf v)
 |node {n:Nat} {l r:TM Y} (hl:WF n l) (hr:WF n r):WF (n+1) (.node l r)
noncomputable def tl(t:TM Y):TM Y:=TM.casesOn (motive:=λ_=>TM Y) t .nil (λ_=>.nil) (λl _=>l)
noncomputable def tr(t:TM Y):TM Y:=TM.casesOn (motive:=λ_=>TM Y) t .nil (λ_=>.nil) (λ_ r=>r)
section
variable{d:Nat}{t:TM Y}
theorem WF.out(h:WF (d+1) t):(WF d t.tl/\WF d t.tr)/\(∀i o,put (d+1) t i o=bf (ag (i % 2) 1) (.node (put d t.tl (i / 2) o) t.tr) (.node t.tl (put d t.tr (i / 2) o)))/\∀j,t.get j=bf (ag (j % 2) 1) (t.tl.get (j / 2)) (t.tr.get (j / 2)):=by
 cases h with
 |nil=>exact ⟨⟨.nil _,.nil _⟩,λ_ _=>rfl,λj=>Bool.rec (motive:=λb=>none=bf b none none) rfl rfl (ag (j % 2) 1)⟩
 |node hl hr=>exact ⟨⟨hl,hr⟩,λ_ _=>rfl,λ_=>rfl⟩
end
theorem iy(o:Option Y)(d:Nat):∀(t:TM Y) (i:Nat),WF d t->WF d (put d t i o):=by
 induction d with
 |zero=>exact λt i _=>.leaf o
 |succ d ih=>
  intro t i h;obtain ⟨⟨h1,h2⟩,h3, -⟩:=h.out;rw [h3];cases ag (i % 2) 1 with
  |true=>exact .node (ih _ _ h1) h2
  |false=>exact .node h1 (ih _ _ h2)
theorem half{β:Type}{x y:β}{i j:Nat}(h:i % 2=j % 2):(if j / 2=i / 2 then x else y)=if j=i then x else y:=ite_congr (propext ⟨λe=>(Cn j 2).symm.trans ((congrArg (2* · +j % 2) e).trans ((congrArg (2* (i / 2)+ ·) h.symm).trans (Cn i 2))),λe=>congrArg (· / 2) e⟩) (λ_=>rfl) λ_=>rfl
theorem par{i:Nat}(h:ag (i % 2) 1=false):i % 2=0:=(Nat.mod_two_eq_zero_or_one i).resolve_right (dC h)
theorem mL(o:Option Y)(d:Nat):∀(t:TM Y) (i j:Nat),WF d t->i< 2 ^ d->j< 2 ^ d->(put d t i o).get j=if j=i then o else t.get j:=by
 induction d with
 |zero=>exact λt i j _ hi hj=>(if_pos ((Nw.mp hj).trans (Nw.mp hi).symm)).symm
 |succ d ih=>
  intro t i j h hi hj;obtain ⟨⟨h1,h2⟩,h3,h4⟩:=h.out;have b:∀{i},i< 2 ^ (d+1)->i / 2< 2 ^ d:=λh=>Nat.div_lt_of_lt_mul (by rw [NI, <-NJ];exact h);have e:∀l r:TM Y,(node l r).get j=bf (ag (j % 2) 1) (l.get (j / 2)) (r.get (j / 2)):=λ_ _=>rfl;rw [h3,h4];cases ci:ag (i % 2) 1<;>(refine (e _ _).trans ?_;cases cj:ag (j % 2) 1)
  ·exact (ih _ _ _ h2 (b hi) (b hj)).trans (half ((par ci).trans (par cj).symm))
  ·exact (if_neg λe=>by rw [e,ci] at cj;exact aE cj).symm
  ·exact (if_neg λe=>by rw [e,ci] at cj;exact cH cj).symm
  ·exact (ih _ _ _ h1 (b hi) (b hj)).trans (half ((aH ci).trans (aH cj).symm))
end TM
theorem au{A0:Prop}{A1:Prop}{G:Prop}(h:A0/\A1)(k:∀(_:A0) (_:A1),G):G:=k h.1 h.2
theorem aQ{Y0:Sort _}{A0:Y0->Prop}{G:Prop}(h:∃x0,A0 x0)(k:∀x0 (_:A0 x0),G):G:=(h).elim λx0 h0=>k x0 h0
theorem fP{A0:Prop}{A1:Prop}{A2:Prop}{G:Prop}(h:A0/\A1/\A2)(k:∀(_:A0) (_:A1) (_:A2),G):G:=k h.1 h.2.1 h.2.2
theorem nE{Y0:Sort _}{A0:Prop}{A1:Y0->Prop}{G:Prop}(h:A0/\∃x0,A1 x0)(k:∀(_:A0) x0 (_:A1 x0),G):G:=(h.2).elim λx0 h0=>k h.1 x0 h0
theorem am{Y0:Sort _}{A0:Y0->Prop}{A1:Y0->Prop}{G:Prop}(h:∃x0,A0 x0/\A1 x0)(k:∀x0 (_:A0 x0) (_:A1 x0),G):G:=(h).elim λx0 h0=>k x0 h0.1 h0.2
theorem jz{Y0 Y1:Sort _}{A0:Y0->Y1->Prop}{G:Prop}(h:∃x0,∃x1,A0 x0 x1)(k:∀x0 x1 (_:A0 x0 x1),G):G:=(h).elim λx0 h0=>(h0).elim λx1 h1=>k x0 x1 h1
theorem jw{A0:Prop}{A1:Prop}{A2:Prop}{A3:Prop}{G:Prop}(h:A0/\A1/\A2/\A3)(k:∀(_:A0) (_:A1) (_:A2) (_:A3),G):G:=k h.1 h.2.1 h.2.2.1 h.2.2.2
theorem kj{Y0:Sort _}{A0:Prop}{A1:Y0->Prop}{A2:Y0->Prop}{G:Prop}(h:A0/\∃x0,A1 x0/\A2 x0)(k:∀(_:A0) x0 (_:A1 x0) (_:A2 x0),G):G:=(h.2).elim λx0 h0=>k h.1 x0 h0.1 h0.2
theorem bP{Y0:Sort _}{A0:Y0->Prop}{A1:Y0->Prop}{A2:Y0->Prop}{G:Prop}(h:∃x0,A0 x0/\A1 x0/\A2 x0)(k:∀x0 (_:A0 x0) (_:A1 x0) (_:A2 x0),G):G:=(h).elim λx0 h0=>k x0 h0.1 h0.2.1 h0.2.2
theorem ba{Y0 Y1:Sort _}{A0:Y0->Y1->Prop}{A1:Y0->Y1->Prop}{G:Prop}(h:∃x0,∃x1,A0 x0 x1/\A1 x0 x1)(k:∀x0 x1 (_:A0 x0 x1) (_:A1 x0 x1),G):G:=(h).elim λx0 h0=>(h0).elim λx1 h1=>k x0 x1 h1.1 h1.2
theorem HD{Y0 Y1 Y2:Sort _}{A0:Y0->Y1->Y2->Prop}{G:Prop}(h:∃x0,∃x1,∃x2,A0 x0 x1 x2)(k:∀x0 x1 x2 (_:A0 x0 x1 x2),G):G:=(h).elim λx0 h0=>(h0).elim λx1 h1=>(h1).elim λx2 h2=>k x0 x1 x2 h2
theorem fB{Y0:Sort _}{A0:Prop}{A1:Prop}{A2:Y0->Prop}{A3:Y0->Prop}{G:Prop}(h:A0/\A1/\∃x0,A2 x0/\A3 x0)(k:∀(_:A0) (_:A1) x0 (_:A2 x0) (_:A3 x0),G):G:=(h.2.2).elim λx0 h0=>k h.1 h.2.1 x0 h0.1 h0.2
theorem Xd{Y0 Y1:Sort _}{A0:Prop}{A1:Y0->Y1->Prop}{A2:Y0->Y1->Prop}{G:Prop}(h:A0/\∃x0,∃x1,A1 x0 x1/\A2 x0 x1)(k:∀(_:A0) x0 x1 (_:A1 x0 x1) (_:A2 x0 x1),G):G:=(h.2).elim λx0 h0=>(h0).elim λx1 h1=>k h.1 x0 x1 h1.1 h1.2
theorem ro{Y0:Sort _}{A0:Y0->Prop}{A1:Y0->Prop}{A2:Y0->Prop}{A3:Y0->Prop}{G:Prop}(h:∃x0,A0 x0/\A1 x0/\A2 x0/\A3 x0)(k:∀x0 (_:A0 x0) (_:A1 x0) (_:A2 x0) (_:A3 x0),G):G:=(h).elim λx0 h0=>k x0 h0.1 h0.2.1 h0.2.2.1 h0.2.2.2
theorem yp{Y0 Y1:Sort _}{A0:Y0->Prop}{A1:Y0->Prop}{A2:Y0->Y1->Prop}{G:Prop}(h:∃x0,A0 x0/\A1 x0/\∃x1,A2 x0 x1)(k:∀x0 (_:A0 x0) (_:A1 x0) x1 (_:A2 x0 x1),G):G:=(h).elim λx0 h0=>(h0.2.2).elim λx1 h1=>k x0 h0.1 h0.2.1 x1 h1
theorem bp{Y0 Y1:Sort _}{A0:Y0->Y1->Prop}{A1:Y0->Y1->Prop}{A2:Y0->Y1->Prop}{G:Prop}(h:∃x0,∃x1,A0 x0 x1/\A1 x0 x1/\A2 x0 x1)(k:∀x0 x1 (_:A0 x0 x1) (_:A1 x0 x1) (_:A2 x0 x1),G):G:=(h).elim λx0 h0=>(h0).elim λx1 h1=>k x0 x1 h1.1 h1.2.1 h1.2.2
theorem FS{Y0 Y1 Y2:Sort _}{A0:Y0->Y1->Y2->Prop}{A1:Y0->Y1->Y2->Prop}{G:Prop}(h:∃x0,∃x1,∃x2,A0 x0 x1 x2/\A1 x0 x1 x2)(k:∀x0 x1 x2 (_:A0 x0 x1 x2) (_:A1 x0 x1 x2),G):G:=(h).elim λx0 h0=>(h0).elim λx1 h1=>(h1).elim λx2 h2=>k x0 x1 x2 h2.1 h2.2
theorem EK{A0:Prop}{A1:Prop}{A2:Prop}{A3:Prop}{A4:Prop}{A5:Prop}{G:Prop}(h:A0/\A1/\A2/\A3/\A4/\A5)(k:∀(_:A0) (_:A1) (_:A2) (_:A3) (_:A4) (_:A5),G):G:=k h.1 h.2.1 h.2.2.1 h.2.2.2.1 h.2.2.2.2.1 h.2.2.2.2.2
theorem Ui{Y0 Y1:Sort _}{A0:Prop}{A1:Y0->Y1->Prop}{A2:Y0->Y1->Prop}{A3:Y0->Y1->Prop}{G:Prop}(h:A0/\∃x0,∃x1,A1 x0 x1/\A2 x0 x1/\A3 x0 x1)(k:∀(_:A0) x0 x1 (_:A1 x0 x1) (_:A2 x0 x1) (_:A3 x0 x1),G):G:=(h.2).elim λx0 h0=>(h0).elim λx1 h1=>k h.1 x0 x1 h1.1 h1.2.1 h1.2.2
theorem EL{Y0 Y1:Sort _}{A0:Y0->Prop}{A1:Y0->Y1->Prop}{A2:Y0->Y1->Prop}{A3:Y0->Y1->Prop}{G:Prop}(h:∃x0,A0 x0/\∃x1,A1 x0 x1/\A2 x0 x1/\A3 x0 x1)(k:∀x0 (_:A0 x0) x1 (_:A1 x0 x1) (_:A2 x0 x1) (_:A3 x0 x1),G):G:=(h).elim λx0 h0=>(h0.2).elim λx1 h1=>k x0 h0.1 x1 h1.1 h1.2.1 h1.2.2
theorem qR{Y0 Y1:Sort _}{A0:Y0->Y1->Prop}{A1:Y0->Y1->Prop}{A2:Y0->Y1->Prop}{A3:Y0->Y1->Prop}{G:Prop}(h:∃x0,∃x1,A0 x0 x1/\A1 x0 x1/\A2 x0 x1/\A3 x0 x1)(k:∀x0 x1 (_:A0 x0 x1) (_:A1 x0 x1) (_:A2 x0 x1) (_:A3 x0 x1),G):G:=(h).elim λx0 h0=>(h0).elim λx1 h1=>k x0 x1 h1.1 h1.2.1 h1.2.2.1 h1.2.2.2
theorem mJ{Y0 Y1 Y2:Sort _}{A0:Y0->Y1->Y2->Prop}{A1:Y0->Y1->Y2->Prop}{A2:Y0->Y1->Y2->Prop}{G:Prop}(h:∃x0,∃x1,∃x2,A0 x0 x1 x2/\A1 x0 x1 x2/\A2 x0 x1 x2)(k:∀x0 x1 x2 (_:A0 x0 x1 x2) (_:A1 x0 x1 x2) (_:A2 x0 x1 x2),G):G:=(h).elim λx0 h0=>(h0).elim λx1 h1=>(h1).elim λx2 h2=>k x0 x1 x2 h2.1 h2.2.1 h2.2.2
theorem Uj{Y0 Y1 Y2 Y3:Sort _}{A0:Y0->Y1->Y2->Y3->Prop}{A1:Y0->Y1->Y2->Y3->Prop}{G:Prop}(h:∃x0,∃x1,∃x2,∃x3,A0 x0 x1 x2 x3/\A1 x0 x1 x2 x3)(k:∀x0 x1 x2 x3 (_:A0 x0 x1 x2 x3) (_:A1 x0 x1 x2 x3),G):G:=(h).elim λx0 h0=>(h0).elim λx1 h1=>(h1).elim λx2 h2=>(h2).elim λx3 h3=>k x0 x1 x2 x3 h3.1 h3.2
theorem RC{A0:Prop}{A1:Prop}{A2:Prop}{A3:Prop}{A4:Prop}{A5:Prop}{A6:Prop}{G:Prop}(h:A0/\A1/\A2/\A3/\A4/\A5/\A6)(k:∀(_:A0) (_:A1) (_:A2) (_:A3) (_:A4) (_:A5) (_:A6),G):G:=k h.1 h.2.1 h.2.2.1 h.2.2.2.1 h.2.2.2.2.1 h.2.2.2.2.2.1 h.2.2.2.2.2.2
theorem DL{Y0 Y1:Sort _}{A0:Y0->Prop}{A1:Y0->Prop}{A2:Y0->Y1->Prop}{A3:Y0->Y1->Prop}{A4:Y0->Y1->Prop}{G:Prop}(h:∃x0,A0 x0/\A1 x0/\∃x1,A2 x0 x1/\A3 x0 x1/\A4 x0 x1)(k:∀x0 (_:A0 x0) (_:A1 x0) x1 (_:A2 x0 x1) (_:A3 x0 x1) (_:A4 x0 x1),G):G:=(h).elim λx0 h0=>(h0.2.2).elim λx1 h1=>k x0 h0.1 h0.2.1 x1 h1.1 h1.2.1 h1.2.2
theorem mF{Y0 Y1:Sort _}{A0:Y0->Y1->Prop}{A1:Y0->Y1->Prop}{A2:Y0->Y1->Prop}{A3:Y0->Y1->Prop}{A4:Y0->Y1->Prop}{G:Prop}(h:∃x0,∃x1,A0 x0 x1/\A1 x0 x1/\A2 x0 x1/\A3 x0 x1/\A4 x0 x1)(k:∀x0 x1 (_:A0 x0 x1) (_:A1 x0 x1) (_:A2 x0 x1) (_:A3 x0 x1) (_:A4 x0 x1),G):G:=(h).elim λx0 h0=>(h0).elim λx1 h1=>k x0 x1 h1.1 h1.2.1 h1.2.2.1 h1.2.2.2.1 h1.2.2.2.2
theorem DM{Y0 Y1 Y2:Sort _}{A0:Y0->Y1->Prop}{A1:Y0->Y1->Prop}{A2:Y0->Y1->Y2->Prop}{A3:Y0->Y1->Y2->Prop}{G:Prop}(h:∃x0,∃x1,A0 x0 x1/\A1 x0 x1/\∃x2,A2 x0 x1 x2/\A3 x0 x1 x2)(k:∀x0 x1 (_:A0 x0 x1) (_:A1 x0 x1) x2 (_:A2 x0 x1 x2) (_:A3 x0 x1 x2),G):G:=(h).elim λx0 h0=>(h0).elim λx1 h1=>(h1.2.2).elim λx2 h2=>k x0 x1 h1.1 h1.2.1 x2 h2.1 h2.2
theorem qG{Y0 Y1 Y2:Sort _}{A0:Y0->Y1->Y2->Prop}{A1:Y0->Y1->Y2->Prop}{A2:Y0->Y1->Y2->Prop}{A3:Y0->Y1->Y2->Prop}{G:Prop}(h:∃x0,∃x1,∃x2,A0 x0 x1 x2/\A1 x0 x1 x2/\A2 x0 x1 x2/\A3 x0 x1 x2)(k:∀x0 x1 x2 (_:A0 x0 x1 x2) (_:A1 x0 x1 x2) (_:A2 x0 x1 x2) (_:A3 x0 x1 x2),G):G:=(h).elim λx0 h0=>(h0).elim λx1 h1=>(h1).elim λx2 h2=>k x0 x1 x2 h2.1 h2.2.1 h2.2.2.1 h2.2.2.2
theorem DN{Y0 Y1 Y2 Y3:Sort _}{A0:Y0->Y1->Y2->Y3->Prop}{A1:Y0->Y1->Y2->Y3->Prop}{A2:Y0->Y1->Y2->Y3->Prop}{G:Prop}(h:∃x0,∃x1,∃x2,∃x3,A0 x0 x1 x2 x3/\A1 x0 x1 x2 x3/\A2 x0 x1 x2 x3)(k:∀x0 x1 x2 x3 (_:A0 x0 x1 x2 x3) (_:A1 x0 x1 x2 x3) (_:A2 x0 x1 x2 x3),G):G:=(h).elim λx0 h0=>(h0).elim λx1 h1=>(h1).elim λx2 h2=>(h2).elim λx3 h3=>k x0 x1 x2 x3 h3.1 h3.2.1 h3.2.2
theorem Dd{Y0 Y1:Sort _}{A0:Prop}{A1:Y0->Y1->Prop}{A2:Y0->Y1->Prop}{A3:Y0->Y1->Prop}{A4:Y0->Y1->Prop}{A5:Y0->Y1->Prop}{G:Prop}(h:A0/\∃x0,∃x1,A1 x0 x1/\A2 x0 x1/\A3 x0 x1/\A4 x0 x1/\A5 x0 x1)(k:∀(_:A0) x0 x1 (_:A1 x0 x1) (_:A2 x0 x1) (_:A3 x0 x1) (_:A4 x0 x1) (_:A5 x0 x1),G):G:=(h.2).elim λx0 h0=>(h0).elim λx1 h1=>k h.1 x0 x1 h1.1 h1.2.1 h1.2.2.1 h1.2.2.2.1 h1.2.2.2.2
theorem tI{Y0 Y1:Sort _}{A0:Y0->Y1->Prop}{A1:Y0->Y1->Prop}{A2:Y0->Y1->Prop}{A3:Y0->Y1->Prop}{A4:Y0->Y1->Prop}{A5:Y0->Y1->Prop}{G:Prop}(h:∃x0,∃x1,A0 x0 x1/\A1 x0 x1/\A2 x0 x1/\A3 x0 x1/\A4 x0 x1/\A5 x0 x1)(k:∀x0 x1 (_:A0 x0 x1) (_:A1 x0 x1) (_:A2 x0 x1) (_:A3 x0 x1) (_:A4 x0 x1) (_:A5 x0 x1),G):G:=(h).elim λx0 h0=>(h0).elim λx1 h1=>k x0 x1 h1.1 h1.2.1 h1.2.2.1 h1.2.2.2.1 h1.2.2.2.2.1 h1.2.2.2.2.2
theorem wF{Y0 Y1 Y2:Sort _}{A0:Y0->Y1->Y2->Prop}{A1:Y0->Y1->Y2->Prop}{A2:Y0->Y1->Y2->Prop}{A3:Y0->Y1->Y2->Prop}{A4:Y0->Y1->Y2->Prop}{G:Prop}(h:∃x0,∃x1,∃x2,A0 x0 x1 x2/\A1 x0 x1 x2/\A2 x0 x1 x2/\A3 x0 x1 x2/\A4 x0 x1 x2)(k:∀x0 x1 x2 (_:A0 x0 x1 x2) (_:A1 x0 x1 x2) (_:A2 x0 x1 x2) (_:A3 x0 x1 x2) (_:A4 x0 x1 x2),G):G:=(h).elim λx0 h0=>(h0).elim λx1 h1=>(h1).elim λx2 h2=>k x0 x1 x2 h2.1 h2.2.1 h2.2.2.1 h2.2.2.2.1 h2.2.2.2.2
theorem qu{Y0 Y1 Y2 Y3:Sort _}{A0:Y0->Y1->Y2->Y3->Prop}{A1:Y0->Y1->Y2->Y3->Prop}{A2:Y0->Y1->Y2->Y3->Prop}{A3:Y0->Y1->Y2->Y3->Prop}{G:Prop}(h:∃x0,∃x1,∃x2,∃x3,A0 x0 x1 x2 x3/\A1 x0 x1 x2 x3/\A2 x0 x1 x2 x3/\A3 x0 x1 x2 x3)(k:∀x0 x1 x2 x3 (_:A0 x0 x1 x2 x3) (_:A1 x0 x1 x2 x3) (_:A2 x0 x1 x2 x3) (_:A3 x0 x1 x2 x3),G):G:=(h).elim λx0 h0=>(h0).elim λx1 h1=>(h1).elim λx2 h2=>(h2).elim λx3 h3=>k x0 x1 x2 x3 h3.1 h3.2.1 h3.2.2.1 h3.2.2.2
theorem Pw{Y0 Y1 Y2:Sort _}{A0:Prop}{A1:Prop}{A2:Prop}{A3:Y0->Y1->Y2->Prop}{A4:Y0->Y1->Y2->Prop}{A5:Y0->Y1->Y2->Prop}{G:Prop}(h:A0/\A1/\A2/\∃x0,∃x1,∃x2,A3 x0 x1 x2/\A4 x0 x1 x2/\A5 x0 x1 x2)(k:∀(_:A0) (_:A1) (_:A2) x0 x1 x2 (_:A3 x0 x1 x2) (_:A4 x0 x1 x2) (_:A5 x0 x1 x2),G):G:=(h.2.2.2).elim λx0 h0=>(h0).elim λx1 h1=>(h1).elim λx2 h2=>k h.1 h.2.1 h.2.2.1 x0 x1 x2 h2.1 h2.2.1 h2.2.2
theorem gb{Y0 Y1:Sort _}{A0:Prop}{A1:Y0->Y1->Prop}{A2:Y0->Y1->Prop}{A3:Y0->Y1->Prop}{A4:Y0->Y1->Prop}{A5:Y0->Y1->Prop}{A6:Y0->Y1->Prop}{G:Prop}(h:A0/\∃x0,∃x1,A1 x0 x1/\A2 x0 x1/\A3 x0 x1/\A4 x0 x1/\A5 x0 x1/\A6 x0 x1)(k:∀(_:A0) x0 x1 (_:A1 x0 x1) (_:A2 x0 x1) (_:A3 x0 x1) (_:A4 x0 x1) (_:A5 x0 x1) (_:A6 x0 x1),G):G:=(h.2).elim λx0 h0=>(h0).elim λx1 h1=>k h.1 x0 x1 h1.1 h1.2.1 h1.2.2.1 h1.2.2.2.1 h1.2.2.2.2.1 h1.2.2.2.2.2
theorem Px{Y0 Y1:Sort _}{A0:Y0->Prop}{A1:Y0->Prop}{A2:Y0->Y1->Prop}{A3:Y0->Y1->Prop}{A4:Y0->Y1->Prop}{A5:Y0->Y1->Prop}{A6:Y0->Y1->Prop}{G:Prop}(h:∃x0,A0 x0/\A1 x0/\∃x1,A2 x0 x1/\A3 x0 x1/\A4 x0 x1/\A5 x0 x1/\A6 x0 x1)(k:∀x0 (_:A0 x0) (_:A1 x0) x1 (_:A2 x0 x1) (_:A3 x0 x1) (_:A4 x0 x1) (_:A5 x0 x1) (_:A6 x0 x1),G):G:=(h).elim λx0 h0=>(h0.2.2).elim λx1 h1=>k x0 h0.1 h0.2.1 x1 h1.1 h1.2.1 h1.2.2.1 h1.2.2.2.1 h1.2.2.2.2
theorem CP{Y0 Y1 Y2:Sort _}{A0:Y0->Y1->Y2->Prop}{A1:Y0->Y1->Y2->Prop}{A2:Y0->Y1->Y2->Prop}{A3:Y0->Y1->Y2->Prop}{A4:Y0->Y1->Y2->Prop}{A5:Y0->Y1->Y2->Prop}{G:Prop}(h:∃x0,∃x1,∃x2,A0 x0 x1 x2/\A1 x0 x1 x2/\A2 x0 x1 x2/\A3 x0 x1 x2/\A4 x0 x1 x2/\A5 x0 x1 x2)(k:∀x0 x1 x2 (_:A0 x0 x1 x2) (_:A1 x0 x1 x2) (_:A2 x0 x1 x2) (_:A3 x0 x1 x2) (_:A4 x0 x1 x2) (_:A5 x0 x1 x2),G):G:=(h).elim λx0 h0=>(h0).elim λx1 h1=>(h1).elim λx2 h2=>k x0 x1 x2 h2.1 h2.2.1 h2.2.2.1 h2.2.2.2.1 h2.2.2.2.2.1 h2.2.2.2.2.2
theorem N9{A0:Prop}{A1:Prop}{A2:Prop}{A3:Prop}{A4:Prop}{A5:Prop}{A6:Prop}{A7:Prop}{A8:Prop}{A9:Prop}{G:Prop}(h:A0/\A1/\A2/\A3/\A4/\A5/\A6/\A7/\A8/\A9)(k:∀(_:A0) (_:A1) (_:A2) (_:A3) (_:A4) (_:A5) (_:A6) (_:A7) (_:A8) (_:A9),G):G:=k h.1 h.2.1 h.2.2.1 h.2.2.2.1 h.2.2.2.2.1 h.2.2.2.2.2.1 h.2.2.2.2.2.2.1 h.2.2.2.2.2.2.2.1 h.2.2.2.2.2.2.2.2.1 h.2.2.2.2.2.2.2.2.2
theorem Pa{Y0:Sort _}{A0:Prop}{A1:Prop}{A2:Prop}{A3:Prop}{A4:Prop}{A5:Prop}{A6:Prop}{A7:Y0->Prop}{A8:Y0->Prop}{G:Prop}(h:A0/\A1/\A2/\A3/\A4/\A5/\A6/\∃x0,A7 x0/\A8 x0)(k:∀(_:A0) (_:A1) (_:A2) (_:A3) (_:A4) (_:A5) (_:A6) x0 (_:A7 x0) (_:A8 x0),G):G:=(h.2.2.2.2.2.2.2).elim λx0 h0=>k h.1 h.2.1 h.2.2.1 h.2.2.2.1 h.2.2.2.2.1 h.2.2.2.2.2.1 h.2.2.2.2.2.2.1 x0 h0.1 h0.2
theorem tF{Y0 Y1 Y2 Y3:Sort _}{A0:Y0->Y1->Y2->Y3->Prop}{A1:Y0->Y1->Y2->Y3->Prop}{A2:Y0->Y1->Y2->Y3->Prop}{A3:Y0->Y1->Y2->Y3->Prop}{A4:Y0->Y1->Y2->Y3->Prop}{A5:Y0->Y1->Y2->Y3->Prop}{G:Prop}(h:∃x0,∃x1,∃x2,∃x3,A0 x0 x1 x2 x3/\A1 x0 x1 x2 x3/\A2 x0 x1 x2 x3/\A3 x0 x1 x2 x3/\A4 x0 x1 x2 x3/\A5 x0 x1 x2 x3)(k:∀x0 x1 x2 x3 (_:A0 x0 x1 x2 x3) (_:A1 x0 x1 x2 x3) (_:A2 x0 x1 x2 x3) (_:A3 x0 x1 x2 x3) (_:A4 x0 x1 x2 x3) (_:A5 x0 x1 x2 x3),G):G:=(h).elim λx0 h0=>(h0).elim λx1 h1=>(h1).elim λx2 h2=>(h2).elim λx3 h3=>k x0 x1 x2 x3 h3.1 h3.2.1 h3.2.2.1 h3.2.2.2.1 h3.2.2.2.2.1 h3.2.2.2.2.2
theorem NL{Y0 Y1 Y2 Y3 Y4 Y5 Y6 Y7 Y8 Y9:Sort _}{A0:Y0->Y1->Y2->Y3->Y4->Y5->Y6->Y7->Y8->Y9->Prop}{G:Prop}(h:∃x0,∃x1,∃x2,∃x3,∃x4,∃x5,∃x6,∃x7,∃x8,∃x9,A0 x0 x1 x2 x3 x4 x5 x6 x7 x8 x9)(k:∀x0 x1 x2 x3 x4 x5 x6 x7 x8 x9 (_:A0 x0 x1 x2 x3 x4 x5 x6 x7 x8 x9),G):G:=(h).elim λx0 h0=>(h0).elim λx1 h1=>(h1).elim λx2 h2=>(h2).elim λx3 h3=>(h3).elim λx4 h4=>(h4).elim λx5 h5=>(h5).elim λx6 h6=>(h6).elim λx7 h7=>(h7).elim λx8 h8=>(h8).elim λx9 h9=>k x0 x1 x2 x3 x4 x5 x6 x7 x8 x9 h9
theorem Nz{Y0 Y1 Y2 Y3 Y4 Y5:Sort _}{A0:Y0->Y1->Y2->Y3->Y4->Y5->Prop}{A1:Y0->Y1->Y2->Y3->Y4->Y5->Prop}{A2:Y0->Y1->Y2->Y3->Y4->Y5->Prop}{A3:Y0->Y1->Y2->Y3->Y4->Y5->Prop}{A4:Y0->Y1->Y2->Y3->Y4->Y5->Prop}{A5:Y0->Y1->Y2->Y3->Y4->Y5->Prop}{A6:Y0->Y1->Y2->Y3->Y4->Y5->Prop}{G:Prop}(h:∃x0,∃x1,∃x2,∃x3,∃x4,∃x5,A0 x0 x1 x2 x3 x4 x5/\A1 x0 x1 x2 x3 x4 x5/\A2 x0 x1 x2 x3 x4 x5/\A3 x0 x1 x2 x3 x4 x5/\A4 x0 x1 x2 x3 x4 x5/\A5 x0 x1 x2 x3 x4 x5/\A6 x0 x1 x2 x3 x4 x5)(k:∀x0 x1 x2 x3 x4 x5 (_:A0 x0 x1 x2 x3 x4 x5) (_:A1 x0 x1 x2 x3 x4 x5) (_:A2 x0 x1 x2 x3 x4 x5) (_:A3 x0 x1 x2 x3 x4 x5) (_:A4 x0 x1 x2 x3 x4 x5) (_:A5 x0 x1 x2 x3 x4 x5) (_:A6 x0 x1 x2 x3 x4 x5),G):G:=(h).elim λx0 h0=>(h0).elim λx1 h1=>(h1).elim λx2 h2=>(h2).elim λx3 h3=>(h3).elim λx4 h4=>(h4).elim λx5 h5=>k x0 x1 x2 x3 x4 x5 h5.1 h5.2.1 h5.2.2.1 h5.2.2.2.1 h5.2.2.2.2.1 h5.2.2.2.2.2.1 h5.2.2.2.2.2.2
theorem NA{Y0 Y1 Y2 Y3 Y4 Y5 Y6 Y7 Y8 Y9 Y10 Y11:Sort _}{A0:Y0->Y1->Y2->Y3->Y4->Y5->Y6->Y7->Y8->Y9->Y10->Y11->Prop}{G:Prop}(h:∃x0,∃x1,∃x2,∃x3,∃x4,∃x5,∃x6,∃x7,∃x8,∃x9,∃x10,∃x11,A0 x0 x1 x2 x3 x4 x5 x6 x7 x8 x9 x10 x11)(k:∀x0 x1 x2 x3 x4 x5 x6 x7 x8 x9 x10 x11 (_:A0 x0 x1 x2 x3 x4 x5 x6 x7 x8 x9 x10 x11),G):G:=(h).elim λx0 h0=>(h0).elim λx1 h1=>(h1).elim λx2 h2=>(h2).elim λx3 h3=>(h3).elim λx4 h4=>(h4).elim λx5 h5=>(h5).elim λx6 h6=>(h6).elim λx7 h7=>(h7).elim λx8 h8=>(h8).elim λx9 h9=>(h9).elim λx10 h10=>(h10).elim λx11 h11=>k x0 x1 x2 x3 x4 x5 x6 x7 x8 x9 x10 x11 h11
theorem v5{n:Nat}(h:n<=1000000):n<=Ny:=aI h (by decide)
theorem pX{i n:Nat}(h:i< n)(h2:n<=2010):i< 2048:=bz h (aI h2 (by decide))
theorem r48{n:Nat}(h:n<=2000):n< 2048:=dy h (by decide)
theorem sQ{n:Nat}(h:n<=1000001):(n:Int)< 2 ^ 63:=tx (Cw.mpr h) (by decide)
theorem adg(n:Nat): -2 ^ 63<=(n:Int):=c8 (by decide) (oa n)
theorem I5{a b c:Nat}(h:a<=b)(h2:b+(c+1)<=1000000):a<=Ny:=v5 (aI h (aI (fh _ _) h2))
theorem Aw{a b c m:Nat}(h:a<=b+1)(h2:b+(c+1)<=m):a+c<=m:=aI (jM h c) (aI (ck (dx b 1 c)) h2)
theorem rz{n b:Nat}(h:1074<=n)(q:n<=b)(e:b=1056):False:=absurd (aI h (aI q (ck e))) (by decide)
theorem pL{L:Nat}(h:L<=3):2* L - 1<=5:=MI (n9 2 h) 1
theorem p6{L p:Nat}(h:p+2<=2* L)(h2:L<=3):p+2<=6:=aI h (n9 2 h2)
theorem sX{x n m:Nat}(h:x<=m)(h2:n<=5):x+1+2* n<=m+1+10:=i9 (i7 h) (n9 2 h2)
theorem pY{e n k:Nat}(h:e< n)(h2:aM (k+n) 1000000=true):k+e< 1000000:=bz (Ch h k) (bt h2)
theorem vm{e k:Nat}(h:e< 3)(h2:aM (k+6) 1000000=true):k+2* e< 1000000:=pY (n:=6) (Nat.mul_lt_mul_of_pos_left h (by decide)) h2
theorem Aj{t j:Nat}(h:1000000* (t+1)+j< 1000000):False:=cV.mpr (aI (Nat.le_mul_of_pos_right _ (qo t)) (fh _ j)) h
theorem G3{t j:Nat}(h:j< 1000000):(1000000* (t+1)+j) % 1000000=j:=(Nl _ _ j).trans (Nd h)
theorem aaM{t j t' j':Nat}(h:j< 1000000)(e:1000000* (t+1)+j=1000000* (t'+1)+j')(h':j'< 1000000):t=t'/\j=j':=
 have m:j=j':=(G3 h).symm.trans ((congrArg (· % 1000000) e).trans (G3 h'))
 ⟨mC.inj (th (by decide:0< 1000000) (Nat.add_right_cancel (e.trans (congrArg _ m.symm)))),m⟩
theorem yU{k t:Nat}(h:k / 1000000=t+1):k=1000000* (t+1)+k % 1000000:=(Cn k 1000000).symm.trans (congrArg (1000000* · +k % 1000000) h)
theorem aed{k:Nat}(h:¬k< 1000000):k / 1000000=k / 1000000 - 1+1:=(wk (Nat.div_pos (cV.mp h) (by decide))).symm
abbrev PT:=TM Obj
noncomputable def PT.at(T:PT)(a:Nat):Option Obj:=bf (bh a 2000) (T.get a) none
theorem rl{a b:Nat}(h:bh a b=true):a< b:=bt h
theorem yi{T:PT}{a:Nat}{o:Obj}(w:T.WF 11)(ha:bh a 2000=true)(b:Nat):PT.at (T.put 11 a (some o)) b=if b=a then some o else PT.at T b:=by
 unfold PT.at;cases c:bh b 2000 with
 |true=>exact TM.mL (some o) 11 T a b w (bz (rl ha) (by decide)) (bz (rl c) (by decide))
 |false=>exact (if_neg λe=>by rw [e,ha] at c;exact cH c).symm
structure HS where
 T:PT
 n:Nat
 gens:Array GenState
 drawn:Drawn
 toks:Nat
 os:OsState
noncomputable def HS.sh(s:HS)(h:Heap):Shared:=⟨h,s.gens,s.drawn,s.toks,s.os⟩
noncomputable def HS.to(s:HS)(T:PT)(n:Nat):HS:=⟨T,n,s.gens,s.drawn,s.toks,s.os⟩
noncomputable def toT(t:Thread)(c:Sem Fin):Thread:=⟨c,t.code,t.pos,t.stack⟩
abbrev lP:=Option (HS×Thread)
noncomputable def HW(s:HS)(t:Thread)(a:Addr)(k:Obj->Sem Fin):lP:=ob (s.T.at a) λo=>bf o.isFreed none (some (s,toT t (k o)))
noncomputable def Lf(s:HS)(t:Thread)(a:Addr)(f:Obj->Obj)(k:Unit->Sem Fin):lP:=ob (s.T.at a) λo=>bf (bh a 2000) (bf (f o).isFreed none (some (s.to (s.T.put 11 a (some (f o))) s.n,toT t (k ())))) none
noncomputable def newS(s:HS)(t:Thread)(o:Obj)(k:Addr->Sem Fin):lP:=bf (bh s.n 2000) (bf o.isFreed none (some (s.to (s.T.put 11 s.n (some o)) (s.n+1),toT t (k s.n)))) none
noncomputable def KU(s:HS)(t:Thread)(a:Addr)(k:Option Obj->Sem Fin):lP:=ob (s.T.at a) λo=>some (s,toT t (k (some o)))
noncomputable def ac8(x:Step):Option (Shared×Thread):=Step.casesOn (motive:=λ_=>Option (Shared×Thread)) x (λs t=>some (s,t)) λ_ _=>none
noncomputable def db(den:Code->Sem Fin)(p:Program)(w:World)(s:HS)(t:Thread):lP:=ob (ac8 (step den p w (s.sh {}) t)) λq=>some (⟨s.T,s.n,q.1.gens,q.1.drawn,q.1.toks,q.1.os⟩,q.2)
noncomputable def pt(den:Code->Sem Fin)(p:Program)(w:World)(s:HS)(t:Thread):lP:=Sem.casesOn (motive:=λ_=>lP) t.cur
 (λ_=>db den p w s t) (λ_=>db den p w s t) (λ_=>db den p w s t) (λ_=>db den p w s t) (λ_ _=>db den p w s t) (λ_ _=>db den p w s t)
 (λa _ k=>HW s t a k) (λa _ f k=>Lf s t a f k) (λo k=>newS s t o k) (λa k=>KU s t a k)
 (λ_ _=>db den p w s t) (λ_ _=>db den p w s t) (λ_=>db den p w s t) (λ_=>db den p w s t) (λ_ _ _=>db den p w s t) (λ_ _ _=>db den p w s t) (λ_ _ _ _ _=>db den p w s t) (λ_ _=>db den p w s t) (λ_ _=>db den p w s t) (λ_ _=>db den p w s t) (λ_ _ _ _=>db den p w s t) (λ_ _ _ _=>db den p w s t) (λ_=>db den p w s t) (λ_ _=>db den p w s t) (λ_=>db den p w s t) (λ_ _ _ _ _=>db den p w s t)
structure Kp(T:PT)(n:Nat)(h:Heap)(T':PT)(n':Nat)(h':Heap):Prop where
 le:n<=n'
 no:∀b,b< n->T.at b=none->T'.at b=none/\h'.get? b=h.get? b
section
variable{T T' Lw:PT}{n n' Mf:Nat}{h h' h'':Heap}
theorem Kp.rfl':Kp T n h T n h:=⟨cG _,λ_ _ e=>⟨e,rfl⟩⟩
theorem Kp.trans(a:Kp T n h T' n' h')(b:Kp T' n' h' Lw Mf h''):Kp T n h Lw Mf h'':=⟨aI a.1 b.1,λx hx e=>have q:=a.2 x hx e;have r:=b.2 x (bz hx a.1) q.1;⟨r.1,r.2.trans q.2⟩⟩
end
structure Sp(T:PT)(n:Nat)(h:Heap):Prop where
 size:h.objs.size=n
 wf:T.WF 11
 at_:∀a o,T.at a=some o->h.get? a=some o
inductive Nx(s s':HS)(h:Heap)(Q:Shared->Prop):Prop
 |mk (h':Heap) (e:Q (s'.sh h')) (S:Sp s'.T s'.n h') (K:Kp s.T s.n h s'.T s'.n h'):Nx s s' h Q
section
variable{den:Code->Sem Fin}{p:Program}{w:World}{s s':HS}{t t':Thread}{h:Heap}
theorem aab(S:Sp s.T s.n h)(h1:∀a q k,t.cur≠ .load a q k)(h2:∀a q f k,t.cur≠ .update a q f k)(h3:∀o k,t.cur≠ .alloc o k)(h4:∀a k,t.cur≠ .loadIfAlive a k)(e:db den p w s t=some (s',t')):Nx s s' h λx=>step den p w (s.sh h) t= .go x t':=by
 refine ah e λq e1 e=>?_;refine au (bU.inj (af e)) λe2 e3=>?_;clear e;subst e2;clear e;subst e3;have g:step den p w (s.sh {}) t= .go q.1 q.2:=by
  cases c:step den p w (s.sh {}) t with
  |go a b=>rw [c] at e1;exact af e1▸rfl
  |halt a b=>rw [c] at e1;exact aD e1
 exact ⟨h,step_heap h1 h2 h3 h4 g,S,.rfl'⟩
theorem U9(S:Sp s.T s.n h){a:Addr}{q:Option Value}{k:Obj->Sem Fin}(c:t.cur= .load a q k)(e:HW s t a k=some (s',t')):Nx s s' h λx=>step den p w (s.sh h) t= .go x t':=by refine ah e λo e1 e=>?_;refine eO e λ_ e=>?_;refine au (bU.inj (af e)) λe2 e3=>?_;clear e;subst e2;clear e;subst e3;obtain ⟨cur,code,pos,stack⟩:=t;obtain rfl:cur=_:=c;refine ⟨h,?_,S,.rfl'⟩;show step den p w ⟨h,s.gens,s.drawn,s.toks,s.os⟩ _=_;simp only [step,S.at_ a o e1];rfl
theorem aar(S:Sp s.T s.n h){a:Addr}{k:Option Obj->Sem Fin}(c:t.cur= .loadIfAlive a k)(e:KU s t a k=some (s',t')):Nx s s' h λx=>step den p w (s.sh h) t= .go x t':=by refine ah e λo e1 e=>?_;refine au (bU.inj (af e)) λe2 e3=>?_;clear e;subst e2;clear e;subst e3;obtain ⟨cur,code,pos,stack⟩:=t;obtain rfl:cur=_:=c;exact ⟨h,S.at_ a o e1▸rfl,S,.rfl'⟩
theorem Ft(S:Sp s.T s.n h){h':Heap}{n':Nat}{a:Nat}{o:Obj}(ha:bh a 2000=true)(hs:h'.objs.size=n')(g:h'.get? a=some o)(ho:∀b x,b≠a->h.get? b=some x->h'.get? b=some x)(hn:s.n<=n')(hk:∀b,b< s.n->s.T.at b=none->b≠a/\h'.get? b=h.get? b):Sp (s.T.put 11 a (some o)) n' h'/\Kp s.T s.n h (s.T.put 11 a (some o)) n' h':=by
 refine ⟨⟨hs,TM.iy _ _ _ _ S.wf,λb x e=>?_⟩,hn,λb hb e=>?_⟩
 ·rw [yi S.wf ha] at e
  by_cases c:b=a
  ·rw [if_pos c] at e;exact c▸af e▸g
  ·rw [if_neg c] at e;exact ho b x c (S.at_ b x e)
 ·refine au (hk b hb e) λk1 k2=>?_
  exact ⟨(yi S.wf ha b).trans ((if_neg k1).trans e),k2⟩
theorem aaQ(S:Sp s.T s.n h){a:Addr}{q:Option Value}{f:Obj->Obj}{k:Unit->Sem Fin}(c:t.cur= .update a q f k)(e:Lf s t a f k=some (s',t')):Nx s s' h λx=>step den p w (s.sh h) t= .go x t':=by refine ah e λo e1 e=>?_;refine bb e λha e=>?_;refine eO e λhf e=>?_;refine au (bU.inj (af e)) λe2 e3=>?_;clear e;subst e2;clear e;subst e3;obtain ⟨cur,code,pos,stack⟩:=t;obtain rfl:cur=_:=c;have ho:=S.at_ a o e1;have B:eJ a h (h.update a f):=eJ.update ..;obtain ⟨A,K⟩:=Ft S (h':=h.update a f) ha (B.1.trans S.size) (n8 f ho hf) (λb x hb e=>(B.2 b hb).trans e) (cG _) λb _ e=>have n:b≠a:=λq=>aD ((q▸e).symm.trans e1);⟨n,B.2 b n⟩;refine ⟨h.update a f,?_,A,K⟩;show step den p w ⟨h,s.gens,s.drawn,s.toks,s.os⟩ _=_;simp only [step,ho,MS,if_true];rfl
theorem QH{o:Obj}{b:Nat}(hb:b< h.objs.size):(h.push o).get? b=h.get? b:=by have e:(h.push o).objs[b]?=h.objs[b]?:=(MJ (xs:=h.objs) (x:=o)).trans (if_neg (gR hb));unfold wB;exact ae e rfl
theorem XY(S:Sp s.T s.n h){o:Obj}{k:Addr->Sem Fin}(c:t.cur= .alloc o k)(e:newS s t o k=some (s',t')):Nx s s' h λx=>step den p w (s.sh h) t= .go x t':=by refine bb e λha e=>?_;refine eO e λhf e=>?_;refine au (bU.inj (af e)) λe2 e3=>?_;clear e;subst e2;clear e;subst e3;obtain ⟨cur,code,pos,stack⟩:=t;obtain rfl:cur=_:=c;have z:=S.size;obtain ⟨A,K⟩:=Ft S (h':=h.push o) (n':=s.n+1) ha ((gQ ..).trans (congrArg (· +1) z)) (z▸k7 h hf) (λb x _ e=>gN _ e) (oz _) λb hb e=>⟨gR hb,QH (z▸hb)⟩;exact ⟨h.push o,z▸rfl,A,K⟩
theorem C9(S:Sp s.T s.n h)(e:pt den p w s t=some (s',t')):Nx s s' h λx=>step den p w (s.sh h) t= .go x t':=by
 have no:∀{c:Sem Fin},t.cur=c->(aM 6 c.ctorIdx&&aM c.ctorIdx 9)=false->db den p w s t=some (s',t')->Nx s s' h λx=>step den p w (s.sh h) t= .go x t':=λc f e=>aab S (λ_ _ _ q=>by rw [<-c,q] at f;exact cH f) (λ_ _ _ _ q=>by rw [<-c,q] at f;exact cH f) (λ_ _ q=>by rw [<-c,q] at f;exact cH f) (λ_ _ q=>by rw [<-c,q] at f;exact cH f) e;unfold pt at e
 generalize hc:t.cur=c at e
 cases c with
 |load a q k=>exact U9 S hc e
 |update a q f k=>exact aaQ S hc e
 |alloc o k=>exact XY S hc e
 |loadIfAlive a k=>exact aar S hc e
 |_=>exact no hc rfl e
noncomputable def kK(tb:String->Option Builtin)(p:Program)(w:World)(n₀:Nat)(ann:Option Value)(b:Nat)(n:Nat):HS->Thread->Option (Flow×HS×Code×Pos):=cC (λ_ _=>none) (λ_ g s t=>oe (bf (stepOk n₀ ann t) (ob (pt (denote tb) p w s t) λq=>g q.1 q.2) none) (λf=>some (f,s,t.code,t.pos)) (endAt b t)) n
noncomputable def vS(tb:String->Option Builtin)(p:Program)(w:World)(n₀:Nat)(ann:Option Value)(n:Nat):HS->Thread->lP:=cC (λs t=>some (s,t)) (λ_ g s t=>bf (through t) none (bf (stepOk n₀ ann t) (ob (pt (denote tb) p w s t) λq=>g q.1 q.2) none)) n
variable{tb:String->Option Builtin}{n₀:Nat}{ann:Option Value}{b:Nat}
theorem QL(k:Nat):∀{s:HS} {t:Thread} {h:Heap} {f:Flow} {c:Code} {q:Pos},Sp s.T s.n h->kK tb p w n₀ ann b k s t=some (f,s',c,q)->Nx s s' h λx=>segRun tb p w n₀ ann b k (s.sh h) t=some (f,x,c,q):=by
 induction k with
 |zero=>exact λ_ e=>aD e
 |succ k ih=>
  intro s t h f c q S e;have e:oe (bf (stepOk n₀ ann t) (ob (pt (denote tb) p w s t) λq=>kK tb p w n₀ ann b k q.1 q.2) none) (λf=>some (f,s,t.code,t.pos)) (endAt b t)=some (f,s',c,q):=e;unfold segRun;cases ht:endAt b t with
  |some f'=>rw [ht] at e;refine au (bU.inj (af e)) λe1 e=>?_;refine au (bU.inj e) λe2 e=>?_;refine au (bU.inj e) λe3 e4=>?_;clear e;subst e1;clear ih e;subst e2;clear e;subst e3;clear e;subst e4;exact ⟨h,rfl,S,.rfl'⟩
  |none=>
   rw [ht] at e;refine bb e λhk e=>?_;obtain ⟨⟨s2,t2⟩,e1,e⟩:=cz e;cases C9 S e1 with
   |mk h2 g2 S2 P2=>
    cases ih S2 e with
    |mk h3 g3 S3 P3=>exact ⟨h3,by refine ae hk (ae g2 ?_);exact g3,S3,P2.trans P3⟩
theorem RN(k:Nat):∀{s:HS} {t:Thread} {h:Heap},Sp s.T s.n h->vS tb p w n₀ ann k s t=some (s',t')->Nx s s' h λx=>topGo tb p w n₀ ann k (s.sh h) t=some (x,t'):=by
 induction k with
 |zero=>intro s t h S e;refine au (bU.inj (af e)) λe1 e2=>?_;clear e;subst e1;exact ⟨h,e2▸rfl,S,.rfl'⟩
 |succ k ih=>
  intro s t h S e;refine eO (show bf (through t) none (bf (stepOk n₀ ann t) (ob (pt (denote tb) p w s t) λq=>vS tb p w n₀ ann k q.1 q.2) none)=some (s',t') from e) λht e=>?_;refine bb e λhk e=>?_;obtain ⟨⟨s2,t2⟩,e1,e⟩:=cz e;cases C9 S e1 with
  |mk h2 g2 S2 P2=>
   cases ih S2 e with
   |mk h3 g3 S3 P3=>refine ⟨h3,?_,S3,P2.trans P3⟩;unfold topGo;refine ae ht (ae hk (ae g2 ?_));exact g3
end
noncomputable def ofL(l:List (Nat×Obj)):PT:=aW .nil (λp _ t=>t.put 11 p.1 (some p.2)) l
noncomputable def small(l:List (Nat×Obj)):Bool:=l.all λp=>bh p.1 2000
section
variable{l:List (Nat×Obj)}{T:PT}{n:Nat}{h:Heap}
theorem ofL_wf:(ofL l).WF 11:=by
 induction l with
 |nil=>exact .nil 11
 |cons p r ih=>exact TM.iy _ _ _ _ ih
theorem ofL_get(hl:small l=true){a:Nat}{o:Obj}(e:(ofL l).at a=some o):(a,o)∈l:=by
 induction l with
 |nil=>refine bb e λ_ e=>?_;exact aD e
 |cons p r ih=>
  refine aB hl λh1 h2=>?_;have e:PT.at ((ofL r).put 11 p.1 (some p.2)) a=some o:=e;rw [yi ofL_wf h1] at e
  by_cases q:a=p.1
  ·rw [if_pos q] at e
   exact af e▸q▸ .head _
  ·rw [if_neg q] at e
   exact .tail _ (ih h2 e)
theorem map_at{Y β:Type}{f g:Y->β}{l:List Y}(e:l.map f=l.map g):∀p∈l,f p=g p:=by
 induction l with
 |nil=>exact λp hp=>nomatch hp
 |cons p r ih=>refine au (jS.inj e) λe1 e2=>?_;exact cT.mpr ⟨e1,ih e2⟩
theorem Sp.narrow(S:Sp T n h)(hl:small l=true)(e:(l.map λp=>T.at p.1)=(l.map λp=>some p.2)):Sp (ofL l) n h:=⟨S.size,ofL_wf,λ_ _ q=>S.at_ _ _ (map_at e _ (ofL_get hl q))⟩
end
abbrev pw:Program:=PySem.Challenge.pw_nz0529_01
noncomputable def S00(P:Params):Frag:=[(0,boot_o_0 P),(1,boot_o_1 P),(2,boot_o_2 P),(3,boot_o_3 P),(4,boot_o_4 P),(5,boot_o_5 P),(6,boot_o_6 P),(7,boot_o_7 P),(8,boot_o_8 P),(9,boot_o_9 P),(10,boot_o_10 P)]
theorem boot_at(P:Params):((S00 P).map λp=>(boot_heap P).get? p.1)=(S00 P).map λp=>some p.2:=by kernel_rfl
theorem boot_size(P:Params):(boot_heap P).objs.size=11:=ME (by kernel_rfl)
theorem small00(P:Params):small (S00 P)=true:=by kernel_rfl
theorem sp0(P:Params):Sp (ofL (S00 P)) 11 (boot_heap P):=⟨boot_size P,ofL_wf,λ_ _ e=>map_at (boot_at P) _ (ofL_get (small00 P) e)⟩
noncomputable def aG(i:Nat):Stmt:=pw.main.body.getD i (.Pass default)
noncomputable def aP(i j:Nat):Stmt:=if h:(aG i).ctorIdx=2 then Stmt.ClassDef.elim (motive_2:=λ_=>Stmt) (aG i) h λ_ _ _ body _ _ _ _ _ _ _=>body.getD j (.Pass default) else aG i
noncomputable def aJ(st:Stmt)(qual:Str)(cd:Nat)(dV:Value)(mod:Str)(tok:Nat):Obj:=if h:st.ctorIdx=0 then Stmt.FunctionDef.elim (motive_2:=λ_=>Obj) st h λname args body _ _ _ scope _ _ _=>{cls:=.type "function",data:=.func {name:=name,qualname:=qual,params:=args,body:=.stmts body,scope:=scope,globals:=3,closure:=[],defaults:=dV,kwdefaults:=.none,doc:=.none,pyModule:=.str mod tok,annotations:=none,code:=.ref cd,closureTuple:=.none,builtins:=0}} else default
noncomputable def en(P:Params)(x:Str)(t:Nat)(v:Value):DictEntry:=⟨PyData.keyHash P x,.str x t,v⟩
noncomputable def Bq(x1 x2 x3:Value)(k:Int)(b:Bool)(nm ql:Str)(t:Nat)(l n:Int)(r u:Nat):Obj:=⟨.type "code",none,.fields #[.str nm t,.str ql (t+1),.str "/claim/cut.py" (t+2),.int l 0,.int n 0,.int 0 0,.int 0 0,.int k 0,.ref r,.bool b,.int 181 0,.ref (r+1),.none,x1,x2,x3,.int u 0,.int l 0,.str "/claim/cut.py" (u+1)], #[]⟩
noncomputable def aL(nm ql:Str)(t:Nat)(l n:Int)(r u:Nat):Obj:=Bq (.ref (r+2)) (.ref (r+3)) (.ref (r+4)) 3 true nm ql t l n r u
noncomputable def sy(nm ql:Str)(t:Nat)(l n:Int)(r u:Nat):Obj:=Bq .none .none (.ref (r+2)) 3 true nm ql t l n r u
noncomputable def cd0(nm ql:Str)(t:Nat)(l n:Int)(r u:Nat):Obj:=Bq .none .none .none 0 false nm ql t l n r u
noncomputable def Br(bs mr sub:List Value)(s0:Option Value)(nw:String)(nm:Str)(a t:Nat):Obj:=⟨.type "type",none,.cls {name:=nm,bases:=bs,mro:=.ref (a+1)::mr,ns:=a,qualname:=nm,hasDict:=true,slotNames:=[],subclasses:=sub,abstract:=false,collection:=none,hasDel:=false}, #[s0,none,some (.str nm t),some (.str nm (t+8)),some (.builtin nw),some (.bool true)]⟩
noncomputable def sA(nm:Str)(a t r:Nat):Obj:=Br [.ref 31] [.ref 31,.type "Exception",.type "BaseException",.type "object"] [] (some (.ref r)) "Exception.__new__" nm a t
noncomputable def gJ(nm:Str)(a t:Nat):Obj:=Br [.type "object"] [.type "object"] [] none "object.__new__" nm a t
noncomputable def eR(P:Params)(x:Str)(t n:Nat):DictEntry:=en P x t (.ref n)
noncomputable def dH(l:List DictEntry)(n:Nat):Obj:=⟨.type "dict",none,.dict l.toArray n, #[]⟩
noncomputable def eG(l:List Value):Obj:=⟨.type "tuple",none,.seq l.toArray 0, #[]⟩
noncomputable def wL:List (Int×Nat):=[(1,20),(5,27),(7,40),(11,59),(17,78),(21,97),(26,116),(32,135),(85,196),(87,203),(96,208),(102,214),(112,221),(114,228),(121,235),(127,242),(129,249),(135,256),(147,263),(150,270),(155,291),(160,312),(171,341),(177,362),(185,384),(193,406),(202,427),(212,449),(221,470),(227,491),(229,498),(231,505),(233,512),(235,519),(237,526),(240,533),(242,540),(244,547),(249,554),(254,561),(258,568),(263,575),(267,581),(280,588),(285,595),(287,602),(296,609),(302,616),(315,623),(332,630),(337,637),(343,644),(350,651),(361,658),(367,665),(369,672),(379,679),(383,687),(394,694),(398,702),(410,709),(417,717),(430,724),(433,731),(438,738),(444,745),(459,752),(461,759),(464,766),(474,787),(747,997),(761,1004),(766,1011),(775,1018),(779,1025),(784,1032),(789,1039),(799,1046),(819,1053),(845,1060),(852,1067),(855,1072)]
noncomputable def wO(n:Nat):Obj:=⟨.none,none,.fields ((wL.take n).flatMap λp=>[.int p.1 0,.int 0 0,.ref p.2]).toArray, #[]⟩
noncomputable def gL(P:Params):List DictEntry:=[en P "__doc__" 166 .none,en P "__package__" 167 .none,en P "__loader__" 168 (.builtin "__main__.__loader__#opaque"),en P "__spec__" 169 .none,eR P "__annotations__" 170 6,eR P "__builtins__" 171 4,en P "__file__" 173 (.str "/claim/cut.py" 172),en P "__cached__" 174 .none,eR P "_wall" 193 21,eR P "CoveError" 215 31,eR P "Refusal" 240 51,eR P "RError" 269 70,eR P "LimitReached" 294 89,eR P "ReturnSignal" 321 108,eR P "LoopSignal" 348 127,eR P "Matching" 433 186,eR P "doubled_text" 440 197,eR P "argument_text" 451 204,eR P "unused_text" 457 209,eR P "match_names" 463 215,eR P "lookup_here" 473 222,eR P "lookup" 482 229,eR P "holder" 490 236,eR P "locked_text" 497 243,eR P "define" 506 250,eR P "up_holder" 517 257,eR P "assign_up" 527 264,eR P "Null" 558 281,eR P "Missing" 587 302,eR P "Vector" 629 331,eR P "Symbol" 660 352,eR P "Call" 695 374,eR P "Closure" 731 396,eR P "Builtin" 768 417,eR P "Environment" 805 439,eR P "Promise" 840 460,eR P "Dots" 871 481,eR P "null" 877 492,eR P "missing" 883 499,eR P "whole" 890 506,eR P "text" 897 513,eR P "symbol" 904 520,eR P "call_of" 913 527,eR P "is_atomic" 920 534,eR P "is_function" 927 541,eR P "share" 934 548,eR P "done_promise" 945 555,eR P "bound_argument" 952 562,eR P "dots_argument" 961 569,eR P "default_binding" 969 576,eR P "bind_formals" 975 582,eR P "dots_of" 983 589,eR P "is_dots_place" 990 596,eR P "dots_place" 1001 603,eR P "is_empty_name" 1010 610,eR P "target_chain" 1021 617,eR P "fetch_target" 1035 624,eR P "store_target" 1046 631,eR P "end_loose" 1054 638,eR P "tmp_call" 1067 645,eR P "special_value" 1086 652,eR P "closure_value" 1102 659,eR P "has_class" 1109 666,eR P "builtin_value" 1124 673,eR P "told_call" 1133 680,eR P "apply_getter" 1147 688,eR P "shown_value" 1154 695,eR P "apply_setter" 1171 703,eR P "special_setter" 1185 710,eR P "assign_complex" 1203 718,eR P "need" 1213 725,eR P "s_brace" 1224 732,eR P "target_name" 1231 739,eR P "assign" 1244 746,eR P "s_assign" 1253 753,eR P "s_assign_up" 1262 760,eR P "Frame" 1303 777,eR P "Evaluator" 1632 987,eR P "_law_draw" 1645 998,eR P "_law_index" 1653 1005,eR P "_law_statement" 1666 1012,eR P "_law_made" 1673 1019,eR P "_law_target" 1684 1026,eR P "_law_mixed" 1693 1033,eR P "_law_word" 1703 1040,eR P "_law_called" 1719 1047,eR P "_law_read" 1741 1054,eR P "_law_builtin" 1750 1061,eR P "_law_note" 1759 1068,eR P "law" 1765 1073]
noncomputable def gO(P:Params)(m:Value)(n c:Nat):Obj:=dH (en P "__name__" 165 m::(gL P).take n) c
noncomputable def BS(P:Params):Obj:=⟨.none,none,.dict #[en P "type.__subclasses__.Exception.0" 212 (.int 31 0),en P "type.__subclasses__.Exception.n" 213 (.int 1 0)] 2, #[]⟩
noncomputable def vu(P:Params):Obj:=cd0 "<module>" "<module>" 182 1 0 11 185
noncomputable def AP(P:Params):Obj:=dH [en P "__module__" 203 (.str "vectorcove.errors" 194),en P "__firstlineno__" 207 (.int 5 206),eR P "__static_attributes__" 208 29,eR P "__weakref__" 210 32,en P "__doc__" 211 .none] 3
noncomputable def AQ(P:Params):Obj:=Br [(.type "Exception")] [(.type "Exception"),(.type "BaseException"),(.type "object")] [(.ref 51),(.ref 70),(.ref 89),(.ref 108),(.ref 127)] (some (.ref 22)) "Exception.__new__" "CoveError" 30 196
noncomputable def K1(P:Params):Frag:=[
 (20,aL "_wall" "_wall" 187 1 1 15 191),
 (21,aJ (aG 0) "_wall" 20 .none "__main__" 164),
 (47,aL "__init__" "Refusal.__init__" 228 9 2 42 233),
 (48,aJ (aP 3 0) "Refusal.__init__" 47 .none "vectorcove.errors" 194),
 (50,dH [en P "__module__" 223 (.str "vectorcove.errors" 194),en P "__firstlineno__" 227 (.int 7 226),eR P "__init__" 235 48,eR P "__static_attributes__" 237 49,en P "__doc__" 238 .none] 2),
 (51,sA "Refusal" 50 216 35),
 (66,aL "__init__" "RError.__init__" 253 13 4 61 260),
 (67,aJ (aP 4 0) "RError.__init__" 66 .none "vectorcove.errors" 194),
 (69,dH [en P "__module__" 248 (.str "vectorcove.errors" 194),en P "__firstlineno__" 252 (.int 11 251),eR P "__init__" 262 67,eR P "__static_attributes__" 266 68,en P "__doc__" 267 .none] 2),
 (70,sA "RError" 69 241 54),
 (85,aL "__init__" "LimitReached.__init__" 282 19 2 80 287),
 (86,aJ (aP 5 0) "LimitReached.__init__" 85 .none "vectorcove.errors" 194),
 (88,dH [en P "__module__" 277 (.str "vectorcove.errors" 194),en P "__firstlineno__" 281 (.int 17 280),eR P "__init__" 289 86,eR P "__static_attributes__" 291 87,en P "__doc__" 292 .none] 2),
 (89,sA "LimitReached" 88 270 73),
 (104,aL "__init__" "ReturnSignal.__init__" 307 23 3 99 313),
 (105,aJ (aP 6 0) "ReturnSignal.__init__" 104 .none "vectorcove.errors" 194),
 (107,dH [en P "__module__" 302 (.str "vectorcove.errors" 194),en P "__firstlineno__" 306 (.int 21 305),eR P "__init__" 315 105,eR P "__static_attributes__" 318 106,en P "__doc__" 319 .none] 2),
 (108,sA "ReturnSignal" 107 295 92),
 (123,aL "__init__" "LoopSignal.__init__" 334 28 3 118 340),
 (124,aJ (aP 7 0) "LoopSignal.__init__" 123 .none "vectorcove.errors" 194),
 (126,dH [en P "__module__" 329 (.str "vectorcove.errors" 194),en P "__firstlineno__" 333 (.int 26 332),eR P "__init__" 342 124,eR P "__static_attributes__" 345 125,en P "__doc__" 346 .none] 2),
 (127,sA "LoopSignal" 126 322 111),
 (142,aL "__init__" "Matching.__init__" 363 34 3 137 369),
 (143,aJ (aP 9 0) "Matching.__init__" 142 .none "vectorcove.callargs" 349),
 (149,aL "exact" "Matching.exact" 372 40 1 144 378),
 (150,aJ (aP 9 1) "Matching.exact" 149 .none "vectorcove.callargs" 349),
 (156,aL "partial" "Matching.partial" 381 50 1 151 386),
 (157,aJ (aP 9 2) "Matching.partial" 156 .none "vectorcove.callargs" 349),
 (163,aL "partial_of" "Matching.partial_of" 389 57 2 158 396),
 (164,aJ (aP 9 3) "Matching.partial_of" 163 .none "vectorcove.callargs" 349),
 (170,aL "positional" "Matching.positional" 399 68 1 165 405),
 (171,aJ (aP 9 4) "Matching.positional" 170 .none "vectorcove.callargs" 349),
 (177,aL "is_free" "Matching.is_free" 408 80 2 172 413),
 (178,aJ (aP 9 5) "Matching.is_free" 177 .none "vectorcove.callargs" 349),
 (182,sy "rest" "Matching.rest" 416 83 1 179 419),
 (183,aJ (aP 9 6) "Matching.rest" 182 .none "vectorcove.callargs" 349),
 (185,dH [en P "__module__" 358 (.str "vectorcove.callargs" 349),en P "__firstlineno__" 362 (.int 32 361),eR P "__init__" 371 143,eR P "exact" 380 150,eR P "partial" 388 157,eR P "partial_of" 398 164,eR P "positional" 407 171,eR P "is_free" 415 178,eR P "rest" 421 183,eR P "__static_attributes__" 426 184,eR P "__dict__" 428 187,eR P "__weakref__" 430 188,en P "__doc__" 431 .none] 4),
 (186,gJ "Matching" 185 351),
 (196,aL "doubled_text" "doubled_text" 434 85 1 191 438),
 (197,aJ (aG 10) "doubled_text" 196 .none "vectorcove.callargs" 349),
 (203,aL "argument_text" "argument_text" 441 87 3 198 449),
 (204,aJ (aG 11) "argument_text" 203 .none "vectorcove.callargs" 349),
 (208,sy "unused_text" "unused_text" 452 96 3 205 455),
 (209,aJ (aG 12) "unused_text" 208 .none "vectorcove.callargs" 349),
 (210,eG [.none]),
 (214,sy "match_names" "match_names" 458 102 3 211 461),
 (215,aJ (aG 13) "match_names" 214 (.ref 210) "vectorcove.callargs" 349),
 (221,aL "lookup_here" "lookup_here" 466 112 2 216 471),
 (222,aJ (aG 15) "lookup_here" 221 .none "vectorcove.scope" 464),
 (228,aL "lookup" "lookup" 474 114 2 223 480),
 (229,aJ (aG 16) "lookup" 228 .none "vectorcove.scope" 464),
 (235,aL "holder" "holder" 483 121 2 230 488),
 (236,aJ (aG 17) "holder" 235 .none "vectorcove.scope" 464),
 (242,aL "locked_text" "locked_text" 491 127 1 237 495),
 (243,aJ (aG 18) "locked_text" 242 .none "vectorcove.scope" 464),
 (249,aL "define" "define" 498 129 3 244 504),
 (250,aJ (aG 19) "define" 249 .none "vectorcove.scope" 464),
 (256,aL "up_holder" "up_holder" 507 135 3 251 515),
 (257,aJ (aG 20) "up_holder" 256 .none "vectorcove.scope" 464),
 (263,aL "assign_up" "assign_up" 518 147 4 258 525),
 (264,aJ (aG 21) "assign_up" 263 .none "vectorcove.scope" 464),
 (277,aL "__init__" "Null.__init__" 542 152 1 272 546),
 (278,aJ (aP 23 0) "Null.__init__" 277 .none "vectorcove.values" 528),
 (280,dH [en P "__module__" 537 (.str "vectorcove.values" 528),en P "__firstlineno__" 541 (.int 150 540),eR P "__init__" 548 278,eR P "__static_attributes__" 551 279,eR P "__dict__" 553 282,eR P "__weakref__" 555 283,en P "__doc__" 556 .none] 4),
 (281,gJ "Null" 280 530)]
noncomputable def K2(P:Params):Frag:=[
 (298,aL "__init__" "Missing.__init__" 571 157 1 293 575),
 (299,aJ (aP 24 0) "Missing.__init__" 298 .none "vectorcove.values" 528),
 (301,dH [en P "__module__" 566 (.str "vectorcove.values" 528),en P "__firstlineno__" 570 (.int 155 569),eR P "__init__" 577 299,eR P "__static_attributes__" 580 300,eR P "__dict__" 582 303,eR P "__weakref__" 584 304,en P "__doc__" 585 .none] 4),
 (302,gJ "Missing" 301 559),
 (314,eG [.none]),
 (320,aL "__init__" "Vector.__init__" 600 162 4 315 607),
 (321,aJ (aP 25 0) "Vector.__init__" 320 (.ref 314) "vectorcove.values" 528),
 (327,aL "copy" "Vector.copy" 610 169 1 322 614),
 (328,aJ (aP 25 1) "Vector.copy" 327 .none "vectorcove.values" 528),
 (330,dH [en P "__module__" 595 (.str "vectorcove.values" 528),en P "__firstlineno__" 599 (.int 160 598),eR P "__init__" 609 321,eR P "copy" 616 328,eR P "__static_attributes__" 622 329,eR P "__dict__" 624 332,eR P "__weakref__" 626 333,en P "__doc__" 627 .none] 4),
 (331,gJ "Vector" 330 588),
 (348,aL "__init__" "Symbol.__init__" 642 173 2 343 647),
 (349,aJ (aP 26 0) "Symbol.__init__" 348 .none "vectorcove.values" 528),
 (351,dH [en P "__module__" 637 (.str "vectorcove.values" 528),en P "__firstlineno__" 641 (.int 171 640),eR P "__init__" 649 349,eR P "__static_attributes__" 653 350,eR P "__dict__" 655 353,eR P "__weakref__" 657 354,en P "__doc__" 658 .none] 4),
 (352,gJ "Symbol" 351 630),
 (364,eG [.none]),
 (370,aL "__init__" "Call.__init__" 673 179 4 365 680),
 (371,aJ (aP 27 0) "Call.__init__" 370 (.ref 364) "vectorcove.values" 528),
 (373,dH [en P "__module__" 668 (.str "vectorcove.values" 528),en P "__firstlineno__" 672 (.int 177 671),eR P "__init__" 682 371,eR P "__static_attributes__" 688 372,eR P "__dict__" 690 375,eR P "__weakref__" 692 376,en P "__doc__" 693 .none] 4),
 (374,gJ "Call" 373 661),
 (386,eG [.none]),
 (392,aL "__init__" "Closure.__init__" 708 187 5 387 716),
 (393,aJ (aP 28 0) "Closure.__init__" 392 (.ref 386) "vectorcove.values" 528),
 (395,dH [en P "__module__" 703 (.str "vectorcove.values" 528),en P "__firstlineno__" 707 (.int 185 706),eR P "__init__" 718 393,eR P "__static_attributes__" 724 394,eR P "__dict__" 726 397,eR P "__weakref__" 728 398,en P "__doc__" 729 .none] 4),
 (396,gJ "Closure" 395 696),
 (413,aL "__init__" "Builtin.__init__" 744 195 5 408 752),
 (414,aJ (aP 29 0) "Builtin.__init__" 413 .none "vectorcove.values" 528),
 (416,dH [en P "__module__" 739 (.str "vectorcove.values" 528),en P "__firstlineno__" 743 (.int 193 742),eR P "__init__" 754 414,eR P "__static_attributes__" 761 415,eR P "__dict__" 763 418,eR P "__weakref__" 765 419,en P "__doc__" 766 .none] 4),
 (417,gJ "Builtin" 416 732),
 (429,eG [.none]),
 (435,aL "__init__" "Environment.__init__" 781 204 4 430 788),
 (436,aJ (aP 30 0) "Environment.__init__" 435 (.ref 429) "vectorcove.values" 528),
 (438,dH [en P "__module__" 776 (.str "vectorcove.values" 528),en P "__firstlineno__" 780 (.int 202 779),eR P "__init__" 790 436,eR P "__static_attributes__" 798 437,eR P "__dict__" 800 440,eR P "__weakref__" 802 441,en P "__doc__" 803 .none] 4),
 (439,gJ "Environment" 438 769),
 (456,aL "__init__" "Promise.__init__" 818 214 3 451 824),
 (457,aJ (aP 31 0) "Promise.__init__" 456 .none "vectorcove.values" 528),
 (459,dH [en P "__module__" 813 (.str "vectorcove.values" 528),en P "__firstlineno__" 817 (.int 212 816),eR P "__init__" 826 457,eR P "__static_attributes__" 833 458,eR P "__dict__" 835 461,eR P "__weakref__" 837 462,en P "__doc__" 838 .none] 4),
 (460,gJ "Promise" 459 806),
 (477,aL "__init__" "Dots.__init__" 853 223 2 472 858),
 (478,aJ (aP 32 0) "Dots.__init__" 477 .none "vectorcove.values" 528),
 (480,dH [en P "__module__" 848 (.str "vectorcove.values" 528),en P "__firstlineno__" 852 (.int 221 851),eR P "__init__" 860 478,eR P "__static_attributes__" 864 479,eR P "__dict__" 866 482,eR P "__weakref__" 868 483,en P "__doc__" 869 .none] 4),
 (481,gJ "Dots" 480 841),
 (491,aL "null" "null" 872 227 0 486 875),
 (492,aJ (aG 33) "null" 491 .none "vectorcove.values" 528),
 (498,aL "missing" "missing" 878 229 0 493 881),
 (499,aJ (aG 34) "missing" 498 .none "vectorcove.values" 528),
 (505,aL "whole" "whole" 884 231 1 500 888),
 (506,aJ (aG 35) "whole" 505 .none "vectorcove.values" 528),
 (512,aL "text" "text" 891 233 1 507 895),
 (513,aJ (aG 36) "text" 512 .none "vectorcove.values" 528),
 (519,aL "symbol" "symbol" 898 235 1 514 902),
 (520,aJ (aG 37) "symbol" 519 .none "vectorcove.values" 528),
 (526,aL "call_of" "call_of" 905 237 2 521 911),
 (527,aJ (aG 38) "call_of" 526 .none "vectorcove.values" 528),
 (533,aL "is_atomic" "is_atomic" 914 240 1 528 918),
 (534,aJ (aG 39) "is_atomic" 533 .none "vectorcove.values" 528),
 (540,aL "is_function" "is_function" 921 242 1 535 925),
 (541,aJ (aG 40) "is_function" 540 .none "vectorcove.values" 528),
 (547,aL "share" "share" 928 244 1 542 932),
 (548,aJ (aG 41) "share" 547 .none "vectorcove.values" 528),
 (554,aL "done_promise" "done_promise" 937 249 2 549 943),
 (555,aJ (aG 43) "done_promise" 554 .none "vectorcove.funcall" 935),
 (561,aL "bound_argument" "bound_argument" 946 254 1 556 950),
 (562,aJ (aG 44) "bound_argument" 561 .none "vectorcove.funcall" 935),
 (568,aL "dots_argument" "dots_argument" 953 258 1 563 959),
 (569,aJ (aG 45) "dots_argument" 568 .none "vectorcove.funcall" 935),
 (575,aL "default_binding" "default_binding" 962 263 2 570 967),
 (576,aJ (aG 46) "default_binding" 575 .none "vectorcove.funcall" 935),
 (577,eG [.none]),
 (581,sy "bind_formals" "bind_formals" 970 267 4 578 973),
 (582,aJ (aG 47) "bind_formals" 581 (.ref 577) "vectorcove.funcall" 935),
 (588,aL "dots_of" "dots_of" 976 280 1 583 981),
 (589,aJ (aG 48) "dots_of" 588 .none "vectorcove.funcall" 935),
 (595,aL "is_dots_place" "is_dots_place" 984 285 1 590 988),
 (596,aJ (aG 49) "is_dots_place" 595 .none "vectorcove.funcall" 935),
 (602,aL "dots_place" "dots_place" 991 287 2 597 999),
 (603,aJ (aG 50) "dots_place" 602 .none "vectorcove.funcall" 935),
 (609,aL "is_empty_name" "is_empty_name" 1002 296 2 604 1008),
 (610,aJ (aG 51) "is_empty_name" 609 .none "vectorcove.funcall" 935),
 (616,aL "target_chain" "target_chain" 1013 302 1 611 1019),
 (617,aJ (aG 53) "target_chain" 616 .none "vectorcove.replace" 1011),
 (623,aL "fetch_target" "fetch_target" 1022 315 4 618 1033),
 (624,aJ (aG 54) "fetch_target" 623 .none "vectorcove.replace" 1011),
 (630,aL "store_target" "store_target" 1036 332 5 625 1044),
 (631,aJ (aG 55) "store_target" 630 .none "vectorcove.replace" 1011),
 (637,aL "end_loose" "end_loose" 1047 337 1 632 1052),
 (638,aJ (aG 56) "end_loose" 637 .none "vectorcove.replace" 1011),
 (644,aL "tmp_call" "tmp_call" 1055 343 3 639 1065),
 (645,aJ (aG 57) "tmp_call" 644 .none "vectorcove.replace" 1011),
 (651,aL "special_value" "special_value" 1068 350 7 646 1084),
 (652,aJ (aG 58) "special_value" 651 .none "vectorcove.replace" 1011),
 (658,aL "closure_value" "closure_value" 1087 361 7 653 1100),
 (659,aJ (aG 59) "closure_value" 658 .none "vectorcove.replace" 1011),
 (665,aL "has_class" "has_class" 1103 367 1 660 1107),
 (666,aJ (aG 60) "has_class" 665 .none "vectorcove.replace" 1011),
 (672,aL "builtin_value" "builtin_value" 1110 369 8 667 1122),
 (673,aJ (aG 61) "builtin_value" 672 .none "vectorcove.replace" 1011),
 (679,aL "told_call" "told_call" 1125 379 3 674 1131),
 (680,aJ (aG 62) "told_call" 679 .none "vectorcove.replace" 1011),
 (681,eG [.none]),
 (687,aL "apply_getter" "apply_getter" 1134 383 5 682 1145),
 (688,aJ (aG 63) "apply_getter" 687 (.ref 681) "vectorcove.replace" 1011),
 (694,aL "shown_value" "shown_value" 1148 394 1 689 1152),
 (695,aJ (aG 64) "shown_value" 694 .none "vectorcove.replace" 1011),
 (696,eG [.none]),
 (702,aL "apply_setter" "apply_setter" 1155 398 6 697 1169),
 (703,aJ (aG 65) "apply_setter" 702 (.ref 696) "vectorcove.replace" 1011),
 (709,aL "special_setter" "special_setter" 1172 410 8 704 1183),
 (710,aJ (aG 66) "special_setter" 709 .none "vectorcove.replace" 1011),
 (711,eG [.none]),
 (717,aL "assign_complex" "assign_complex" 1186 417 6 712 1201),
 (718,aJ (aG 67) "assign_complex" 717 (.ref 711) "vectorcove.replace" 1011),
 (724,aL "need" "need" 1206 430 2 719 1211),
 (725,aJ (aG 69) "need" 724 .none "vectorcove.control" 1204),
 (731,aL "s_brace" "s_brace" 1214 433 3 726 1222),
 (732,aJ (aG 70) "s_brace" 731 .none "vectorcove.control" 1204),
 (738,aL "target_name" "target_name" 1225 438 1 733 1229),
 (739,aJ (aG 71) "target_name" 738 .none "vectorcove.control" 1204),
 (745,aL "assign" "assign" 1232 444 4 740 1242),
 (746,aJ (aG 72) "assign" 745 .none "vectorcove.control" 1204),
 (752,aL "s_assign" "s_assign" 1245 459 3 747 1251),
 (753,aJ (aG 73) "s_assign" 752 .none "vectorcove.control" 1204),
 (759,aL "s_assign_up" "s_assign_up" 1254 461 3 754 1260),
 (760,aJ (aG 74) "s_assign_up" 759 .none "vectorcove.control" 1204)]
noncomputable def K3(P:Params):Frag:=[
 (3,gO P (.str "law_nz0529_01" 1633) 90 91),
 (773,aL "__init__" "Frame.__init__" 1277 466 6 768 1286),
 (774,aJ (aP 76 0) "Frame.__init__" 773 .none "vectorcove.evaluator" 1263),
 (776,dH [en P "__module__" 1272 (.str "vectorcove.evaluator" 1263),en P "__firstlineno__" 1276 (.int 464 1275),eR P "__init__" 1288 774,eR P "__static_attributes__" 1296 775,eR P "__dict__" 1298 778,eR P "__weakref__" 1300 779,en P "__doc__" 1301 .none] 4),
 (777,gJ "Frame" 776 1265),
 (789,eG [(.int 20000 1316),(.int 40 1317)]),
 (795,aL "__init__" "Evaluator.__init__" 1318 476 3 790 1324),
 (796,aJ (aP 77 0) "Evaluator.__init__" 795 (.ref 789) "vectorcove.evaluator" 1263),
 (802,aL "new_env" "Evaluator.new_env" 1327 497 2 797 1333),
 (803,aJ (aP 77 1) "Evaluator.new_env" 802 .none "vectorcove.evaluator" 1263),
 (804,eG [(.str "" 1336)]),
 (810,aL "define" "Evaluator.define" 1337 502 5 805 1345),
 (811,aJ (aP 77 2) "Evaluator.define" 810 (.ref 804) "vectorcove.evaluator" 1263),
 (817,aL "tick" "Evaluator.tick" 1348 505 1 812 1352),
 (818,aJ (aP 77 3) "Evaluator.tick" 817 .none "vectorcove.evaluator" 1263),
 (824,aL "signal_error" "Evaluator.signal_error" 1355 510 3 819 1361),
 (825,aJ (aP 77 4) "Evaluator.signal_error" 824 .none "vectorcove.evaluator" 1263),
 (826,eG [.none]),
 (832,aL "warn_all" "Evaluator.warn_all" 1364 515 3 827 1370),
 (833,aJ (aP 77 5) "Evaluator.warn_all" 832 (.ref 826) "vectorcove.evaluator" 1263),
 (839,aL "running_call" "Evaluator.running_call" 1373 518 1 834 1377),
 (840,aJ (aP 77 6) "Evaluator.running_call" 839 .none "vectorcove.evaluator" 1263),
 (846,aL "eval" "Evaluator.eval" 1380 523 3 841 1387),
 (847,aJ (aP 77 7) "Evaluator.eval" 846 .none "vectorcove.evaluator" 1263),
 (853,aL "variable" "Evaluator.variable" 1390 534 3 848 1398),
 (854,aJ (aP 77 8) "Evaluator.variable" 853 .none "vectorcove.evaluator" 1263),
 (860,aL "dots_value" "Evaluator.dots_value" 1401 550 3 855 1408),
 (861,aJ (aP 77 9) "Evaluator.dots_value" 860 .none "vectorcove.evaluator" 1263),
 (867,aL "force" "Evaluator.force" 1411 556 2 862 1416),
 (868,aJ (aP 77 10) "Evaluator.force" 867 .none "vectorcove.evaluator" 1263),
 (869,eG [.none]),
 (875,aL "find_function" "Evaluator.find_function" 1419 570 4 870 1427),
 (876,aJ (aP 77 11) "Evaluator.find_function" 875 (.ref 869) "vectorcove.evaluator" 1263),
 (882,aL "function_of" "Evaluator.function_of" 1430 583 3 877 1438),
 (883,aJ (aP 77 12) "Evaluator.function_of" 882 .none "vectorcove.evaluator" 1263),
 (889,aL "eval_call" "Evaluator.eval_call" 1441 594 3 884 1447),
 (890,aJ (aP 77 13) "Evaluator.eval_call" 889 .none "vectorcove.evaluator" 1263),
 (896,aL "plain_call" "Evaluator.plain_call" 1450 597 3 891 1458),
 (897,aJ (aP 77 14) "Evaluator.plain_call" 896 .none "vectorcove.evaluator" 1263),
 (903,aL "spread_dots" "Evaluator.spread_dots" 1461 607 2 898 1467),
 (904,aJ (aP 77 15) "Evaluator.spread_dots" 903 .none "vectorcove.evaluator" 1263),
 (910,aL "promise_args" "Evaluator.promise_args" 1470 613 4 905 1480),
 (911,aJ (aP 77 16) "Evaluator.promise_args" 910 .none "vectorcove.evaluator" 1263),
 (912,eG [(.bool false)]),
 (918,aL "eager_args" "Evaluator.eager_args" 1483 625 5 913 1496),
 (919,aJ (aP 77 17) "Evaluator.eager_args" 918 (.ref 912) "vectorcove.evaluator" 1263),
 (925,aL "empty_arg" "Evaluator.empty_arg" 1499 643 4 920 1506),
 (926,aJ (aP 77 18) "Evaluator.empty_arg" 925 .none "vectorcove.evaluator" 1263),
 (932,aL "call_special" "Evaluator.call_special" 1509 648 4 927 1518),
 (933,aJ (aP 77 19) "Evaluator.call_special" 932 .none "vectorcove.evaluator" 1263),
 (939,aL "call_builtin" "Evaluator.call_builtin" 1521 656 5 934 1534),
 (940,aJ (aP 77 20) "Evaluator.call_builtin" 939 .none "vectorcove.evaluator" 1263),
 (941,eG [.none]),
 (947,aL "apply_closure" "Evaluator.apply_closure" 1537 672 6 942 1553),
 (948,aJ (aP 77 21) "Evaluator.apply_closure" 947 (.ref 941) "vectorcove.evaluator" 1263),
 (954,aL "leave" "Evaluator.leave" 1556 706 3 949 1564),
 (955,aJ (aP 77 22) "Evaluator.leave" 954 .none "vectorcove.evaluator" 1263),
 (961,aL "run_exits" "Evaluator.run_exits" 1567 719 2 956 1573),
 (962,aJ (aP 77 23) "Evaluator.run_exits" 961 .none "vectorcove.evaluator" 1263),
 (968,aL "shower" "Evaluator.shower" 1576 727 1 963 1582),
 (969,aJ (aP 77 24) "Evaluator.shower" 968 .none "vectorcove.evaluator" 1263),
 (970,eG [.none]),
 (976,aL "call_value" "Evaluator.call_value" 1585 738 5 971 1593),
 (977,aJ (aP 77 25) "Evaluator.call_value" 976 (.ref 970) "vectorcove.evaluator" 1263),
 (983,aL "run" "Evaluator.run" 1596 741 2 978 1603),
 (984,aJ (aP 77 26) "Evaluator.run" 983 .none "vectorcove.evaluator" 1263),
 (986,dH [en P "__module__" 1311 (.str "vectorcove.evaluator" 1263),en P "__firstlineno__" 1315 (.int 474 1314),eR P "__init__" 1326 796,eR P "new_env" 1335 803,eR P "define" 1347 811,eR P "tick" 1354 818,eR P "signal_error" 1363 825,eR P "warn_all" 1372 833,eR P "running_call" 1379 840,eR P "eval" 1389 847,eR P "variable" 1400 854,eR P "dots_value" 1410 861,eR P "force" 1418 868,eR P "find_function" 1429 876,eR P "function_of" 1440 883,eR P "eval_call" 1449 890,eR P "plain_call" 1460 897,eR P "spread_dots" 1469 904,eR P "promise_args" 1482 911,eR P "eager_args" 1498 919,eR P "empty_arg" 1508 926,eR P "call_special" 1520 933,eR P "call_builtin" 1536 940,eR P "apply_closure" 1555 948,eR P "leave" 1566 955,eR P "run_exits" 1575 962,eR P "shower" 1584 969,eR P "call_value" 1595 977,eR P "run" 1605 984,eR P "__static_attributes__" 1625 985,eR P "__dict__" 1627 988,eR P "__weakref__" 1629 989,en P "__doc__" 1630 .none] 4),
 (987,gJ "Evaluator" 986 1304),
 (997,aL "_law_draw" "_law_draw" 1635 747 2 992 1643),
 (998,aJ (aG 79) "_law_draw" 997 .none "law_nz0529_01" 1633),
 (1004,aL "_law_index" "_law_index" 1646 761 2 999 1651),
 (1005,aJ (aG 80) "_law_index" 1004 .none "law_nz0529_01" 1633),
 (1011,aL "_law_statement" "_law_statement" 1654 766 2 1006 1664),
 (1012,aJ (aG 81) "_law_statement" 1011 .none "law_nz0529_01" 1633),
 (1018,aL "_law_made" "_law_made" 1667 775 1 1013 1671),
 (1019,aJ (aG 82) "_law_made" 1018 .none "law_nz0529_01" 1633),
 (1025,aL "_law_target" "_law_target" 1674 779 2 1020 1682),
 (1026,aJ (aG 83) "_law_target" 1025 .none "law_nz0529_01" 1633),
 (1032,aL "_law_mixed" "_law_mixed" 1685 784 1 1027 1691),
 (1033,aJ (aG 84) "_law_mixed" 1032 .none "law_nz0529_01" 1633),
 (1039,aL "_law_word" "_law_word" 1694 789 3 1034 1701),
 (1040,aJ (aG 85) "_law_word" 1039 .none "law_nz0529_01" 1633),
 (1046,aL "_law_called" "_law_called" 1704 799 6 1041 1717),
 (1047,aJ (aG 86) "_law_called" 1046 .none "law_nz0529_01" 1633),
 (1053,aL "_law_read" "_law_read" 1720 819 4 1048 1739),
 (1054,aJ (aG 87) "_law_read" 1053 .none "law_nz0529_01" 1633),
 (1060,aL "_law_builtin" "_law_builtin" 1742 845 1 1055 1748),
 (1061,aJ (aG 88) "_law_builtin" 1060 .none "law_nz0529_01" 1633),
 (1067,aL "_law_note" "_law_note" 1751 852 3 1062 1757),
 (1068,aJ (aG 89) "_law_note" 1067 .none "law_nz0529_01" 1633),
 (1072,sy "law" "law" 1760 855 1 1069 1763),
 (1073,aJ (aG 90) "law" 1072 .none "law_nz0529_01" 1633)]
noncomputable def S0(P:Params):List (Nat×Obj):=[(0,boot_o_0 P),(4,boot_o_4 P),(2,boot_o_2 P),(3,boot_o_3 P),(12,⟨.none,none,.fields #[], #[]⟩),(13,vu P)]
noncomputable def S1(P:Params):List (Nat×Obj):=[(0,boot_o_0 P),(4,boot_o_4 P),(2,BS P),(3,gO P (.str "vectorcove.values" 528) 28 29),(12,wO 20),(13,vu P),(30,AP P),(31,AQ P)]
noncomputable def S2(P:Params):List (Nat×Obj):=[(0,boot_o_0 P),(4,boot_o_4 P),(2,BS P),(3,gO P (.str "vectorcove.evaluator" 1263) 76 77),(12,wO 68),(13,vu P),(30,AP P),(31,AQ P)]
noncomputable def S3(P:Params):List (Nat×Obj):=[(0,boot_o_0 P),(4,boot_o_4 P),(2,BS P),(3,gO P (.str "law_nz0529_01" 1633) 90 91),(12,wO 82),(13,vu P),(30,AP P),(31,AQ P)]
noncomputable def X3(_:Params):Frag:=[(1056,⟨.none,none,.fields #[], #[]⟩)]
noncomputable def K(P:Params):Frag:=K3 P++(S3 P++(K2 P++K1 P))
noncomputable def jA:Env:={scope:=pw.main.scope,locals:=mainNs,globals:=mainNs,cells:=[],code:=.ref 13,frame:=some 14}
noncomputable def pg:List Stmt:=behindTheImports pw
noncomputable def cM:Code:=.body pg jA
noncomputable def posM:Pos:=⟨0,0,0,0⟩
noncomputable abbrev BM:List Frame:=[topFrame posM]
noncomputable def b1:List Stmt:=pg.take 24
noncomputable def b2:List Stmt:=(pg.drop 24).take 52
noncomputable def b3:List Stmt:=(pg.drop 24).drop 52
noncomputable abbrev iK:Option Value:=some (.ref 6)
section
variable{h h':Heap}{a:Addr}
theorem mH(e:h.get? a=h'.get? a):h.nsMap a=h'.nsMap a:=by funext x;unfold Pn;exact ae e rfl
theorem eL(e:h.get? a=h'.get? a):h.isNs a=h'.isNs a:=by unfold PY;exact ae e rfl
theorem wN(e:h.get? a=h'.get? a):h.nsKeys a=h'.nsKeys a:=by unfold Heap.nsKeys;exact ae e rfl
theorem PL(e:h.get? a=h'.get? a):h.nsPairs a=h'.nsPairs a:=by unfold Heap.nsPairs;exact ae e rfl
end
noncomputable def fr:Obj:={cls:=.none,data:=.freed}
noncomputable def hp(T:PT):Heap:=⟨((d6 11).map λi=>(PT.at T i).getD fr).toArray,{}⟩
theorem QA{h:Heap}{a:Addr}{o:Obj}(ho:h.get? a=some o):o.isFreed=false:=(Heap.get?_some_iff.mp ho).2
theorem Xx{T:PT}{n:Nat}{h:Heap}(S:Sp T n h){a:Nat}{o:Obj}(ha:a< 11)(e:PT.at T a=some o):(hp T).get? a=some o:=by
 have hf:=QA (S.at_ a o e);have hx:(hp T).objs[a]?=some o:=by show (((d6 11).map λi=>(PT.at T i).getD fr).toArray)[a]?=some o;refine ae (List.getElem?_toArray) (ae (ib) (ae (List.getElem?_range ha) ?_));show some ((PT.at T a).getD fr)=some o;refine ae e ?_;rfl
 unfold wB;refine ae hx ?_;obtain ⟨c,d,dt,sl⟩:=o;cases dt<;>first |rfl | (simp [Obj.isFreed] at hf)
theorem xy{T:PT}{n:Nat}{h:Heap}(S:Sp T n h){a:Nat}(ha:a< 11)(hs:(PT.at T a).isSome=true):h.get? a=(hp T).get? a:=by refine aQ (n6.mp hs) λo e=>?_;exact ae (S.at_ a o e) (ae (Xx S ha e) rfl)
theorem Wy(P:Params):(boot_heap P).nsMap mainGlobals "__annotations__"=some (.ref 6):=by kernel_rfl
theorem TX(P:Params):(boot_heap P).isNs mainGlobals=true:=by kernel_rfl
theorem PM:opening pw=plainProg pw.main.scope.names:=by kernel_rfl
theorem RG(s:Shared):fenceModules? pw s=some s:=by kernel_rfl
theorem To:pg=b1++(b2++b3):=by unfold b1 b2 b3;rw [tq,tq]
structure Ok3(P:Params)(T:PT):Prop where
 k0:(PT.at T 0).isSome=true
 k2:(PT.at T 2).isSome=true
 k3:(PT.at T 3).isSome=true
 st:staticsOk (importedModules pw.main.body) (boot_heap P) (hp T)=true
 nb:namesBound pw (hp T)=true
 lk:laidKept (boot_heap P) (hp T)=true
 ac:(hp T).accountedOkI (importedModules pw.main.body)=true
 mg:(hp T).isNs mainGlobals=true
 bn:(hp T).isNs builtinsNs=true
 bg:(hp T).nsMap mainGlobals "__builtins__"=some (.ref 4)
 bm:PT.at T 4=some ⟨.type "module",some builtinsNs,.plain, #[]⟩
 bv:(hp T).bltView=bltViewBooted
theorem ok3(P:Params):Ok3 P (ofL (S3 P)):=⟨by kernel_rfl,by kernel_rfl,by kernel_rfl,by kernel_rfl,by kernel_rfl,by kernel_rfl,by kernel_rfl,by kernel_rfl,by kernel_rfl,by kernel_rfl,by kernel_rfl,by kernel_rfl⟩
theorem aau(P:Params):small (S0 P)=true:=by kernel_rfl
theorem aav(P:Params):small (S1 P)=true:=by kernel_rfl
theorem aaw(P:Params):small (S2 P)=true:=by kernel_rfl
theorem aax(P:Params):small (S3 P)=true:=by kernel_rfl
theorem off1(P:Params):((K1 P).all λp=>bh p.1 286&&(PT.at (ofL (S1 P)) p.1).isNone)=true:=by kernel_rfl
theorem abY(P:Params):((K2 P++K1 P).all λp=>bh p.1 761&&(PT.at (ofL (S2 P)) p.1).isNone)=true:=by kernel_rfl
structure Runs:Prop where
 pre:∀(w:World) (os:OsState),(vS treeTable pw w 11 iK 12 ⟨ofL (S00 w.params),11, #[],boot_drawn,boot_toks,os⟩ (topStub pw)).map (λr=>(r.1.n,r.1.gens,r.1.drawn,r.1.toks,r.1.os,r.2,(S0 w.params).map λp=>r.1.T.at p.1))=
  some (15, #[],boot_drawn,187,os,⟨denote treeTable cM,cM,posM,BM⟩,(S0 w.params).map λp=>some p.2)
 r1:∀(w:World) (os:OsState),(kK treeTable pw w 11 iK 1 2600 ⟨ofL (S0 w.params),15, #[],boot_drawn,187,os⟩ (piecesOf b1 jA cM posM BM)).map (λr=>(r.1,r.2.1.n,r.2.1.gens,r.2.1.drawn,r.2.1.toks,r.2.1.os,r.2.2.1,r.2.2.2,(S1 w.params).map (λp=>r.2.1.T.at p.1),(K1 w.params).map λp=>r.2.1.T.at p.1))=
  some (.next,286, #[],boot_drawn,559,os,cM,⟨150,0,154,25⟩,(S1 w.params).map (λp=>some p.2),(K1 w.params).map λp=>some p.2)
 r2:∀(w:World) (os:OsState),(kK treeTable pw w 11 iK 1 3600 ⟨ofL (S1 w.params),286, #[],boot_drawn,559,os⟩ (piecesOf b2 jA cM ⟨150,0,154,25⟩ BM)).map (λr=>(r.1,r.2.1.n,r.2.1.gens,r.2.1.drawn,r.2.1.toks,r.2.1.os,r.2.2.1,r.2.2.2,(S2 w.params).map (λp=>r.2.1.T.at p.1),(K2 w.params).map λp=>r.2.1.T.at p.1))=
  some (.next,761, #[],boot_drawn,1265,os,cM,⟨463,0,463,8⟩,(S2 w.params).map (λp=>some p.2),(K2 w.params).map λp=>some p.2)
 r3:∀(w:World) (os:OsState),(kK treeTable pw w 11 iK 1 1900 ⟨ofL (S2 w.params),761, #[],boot_drawn,1265,os⟩ (piecesOf b3 jA cM ⟨463,0,463,8⟩ BM)).map (λr=>(r.1,r.2.1.n,r.2.1.gens,r.2.1.drawn,r.2.1.toks,r.2.1.os,r.2.2.1,r.2.2.2,(S3 w.params).map (λp=>r.2.1.T.at p.1),(X3 w.params++K3 w.params).map λp=>r.2.1.T.at p.1))=
  some (.next,1074, #[],boot_drawn,1766,os,cM,⟨855,0,901,76⟩,(S3 w.params).map (λp=>some p.2),(X3 w.params++K3 w.params).map λp=>some p.2)
theorem aci(P:Params):((S3 P).map λp=>PT.at (ofL (S3 P)) p.1)=(S3 P).map λp=>some p.2:=by kernel_rfl
theorem lookup_mem{K:Frag}{a:Addr}{o:Obj}(e:K.lookup a=some o):(a,o)∈K:=by refine ba (List.lookup_eq_some_iff.mp e) λl1 l2 q _=>?_;exact q▸tn l1 (.head _)
theorem Dm{K:Frag}{h:Heap}(k:∀p∈K,h.get? p.1=some p.2):K.In h:=λ_ _ e=>k _ (lookup_mem e)
theorem chunk{w:World}{k n n' tk tk':Nat}{os:OsState}{S S' KS:List (Nat×Obj)}{sts:List Stmt}{pos pos':Pos}{h:Heap}(hS':small S'=true)
  (r:(kK treeTable pw w 11 iK 1 k ⟨ofL S,n, #[],boot_drawn,tk,os⟩ (piecesOf sts jA cM pos BM)).map (λr=>(r.1,r.2.1.n,r.2.1.gens,r.2.1.drawn,r.2.1.toks,r.2.1.os,r.2.2.1,r.2.2.2,S'.map (λp=>r.2.1.T.at p.1),KS.map λp=>r.2.1.T.at p.1))=
   some (.next,n', #[],boot_drawn,tk',os,cM,pos',S'.map (λp=>some p.2),KS.map λp=>some p.2)) (hSp:Sp (ofL S) n h):
  ∃h',segRun treeTable pw w 11 iK 1 k ⟨h, #[],boot_drawn,tk,os⟩ (piecesOf sts jA cM pos BM)=some (.next,⟨h', #[],boot_drawn,tk',os⟩,cM,pos')/\Sp (ofL S') n' h'/\(∀p∈KS,h'.get? p.1=some p.2)/\(∀b,b< n->(ofL S).at b=none->h'.get? b=h.get? b):=by
 obtain ⟨⟨f,⟨T,n₂,g,d,tk₂,os₂⟩,c,q⟩,e1,e2⟩:=mo.mp r;simp only [bU.injEq] at e2;refine N9 e2 λaZ aq ai bC jJ p4 s7 vZ m1 m2=>?_;subst aZ;subst aq;subst ai;subst bC;subst jJ;subst p4;subst s7;subst vZ;cases QL k hSp e1 with
 |mk h' e3 Lu P=>exact ⟨h',e3,Lu.narrow hS' m1,λp hp=>Lu.at_ _ _ (map_at m2 p hp),λb hb hn=>(P.no b hb hn).2⟩
theorem Wi(R:Runs)(w:World)(os:OsState):∃h,topRun treeTable pw w 11 iK (12+(1+(2600+(3600+(1900+2))))) ⟨boot_heap w.params, #[],boot_drawn,boot_toks,os⟩ (topStub pw)=some ⟨h, #[],boot_drawn,1766,os⟩/\Sp (ofL (S3 w.params)) 1074 h/\(K w.params).In h/\(X3 w.params).In h:=by
 obtain ⟨⟨⟨T,n₂,g,d,tk₂,os₂⟩,t⟩,e1,e2⟩:=mo.mp (R.pre w os);simp only [bU.injEq] at e2;refine RC e2 λaZ aq ai bC jJ p4 m1=>?_;subst aZ;subst aq;subst ai;subst bC;subst jJ;subst p4;cases RN 12 (sp0 w.params) e1 with
 |mk h0 g0 Bj _=>
 replace Bj:=Bj.narrow (aau w.params) m1
 refine ro (chunk (aav _) (R.r1 w os₂) Bj) λh1 g1 Sp1 k1 _=>?_;refine ro (chunk (aaw _) (R.r2 w os₂) Sp1) λh2 g2 Sp2 k2 f2=>?_;refine ro (chunk (aax _) (R.r3 w os₂) Sp2) λh3 g3 Lv k3 f3=>?_;refine ⟨h3,?_,Lv,?_,Dm λp hp=>k3 p (qg _ hp)⟩
 ·refine go_top g0 ?_
  refine piece_block (s':=⟨h0, #[],boot_drawn,187,os₂⟩) (p':=posM) (by kernel_rfl) ?_;show topRun _ _ _ _ _ _ _ (restOf pg jA cM posM BM)=_;refine ae To ?_;refine piece_app g1 ?_;refine piece_app g2 ?_;have e:b3=b3++ []:=(i8 _).symm;refine ae e ?_;refine piece_app g3 ?_
  kernel_rfl
 ·have K3':∀p∈K3 w.params,h3.get? p.1=some p.2:=λp hp=>k3 p (tn _ hp)
  have z1:=be.mp (off1 w.params);have z2:=be.mp (abY w.params);have K1':∀p∈K1 w.params,h2.get? p.1=some p.2:=λp hp=>by have q:=b7.mp (z1 p hp);exact (f2 _ (rl q.1) (Mw.mp q.2)).trans (k1 p hp)
  have K21:∀p∈K2 w.params++K1 w.params,h3.get? p.1=some p.2:=λp hp=>by
   have q:=b7.mp (z2 p hp);refine (f3 _ (rl q.1) (Mw.mp q.2)).trans ?_;rcases dZ.mp hp with hp |hp
   ·exact k2 p hp
   ·exact K1' p hp
  have S3':∀p∈S3 w.params,h3.get? p.1=some p.2:=λp hp=>Lv.at_ _ _ (map_at (aci w.params) p hp);refine Dm λp hp=>?_;unfold Mine.K at hp;rcases dZ.mp hp with hp |hp
  ·exact K3' p hp
  ·rcases dZ.mp hp with hp |hp
   ·exact S3' p hp
   ·exact K21 p hp
structure Left(w:World)(h:Heap):Prop where
 k:(K w.params).In h
 x:(X3 w.params).In h
 main:h.isNs mainGlobals=true
 blt:h.isNs builtinsNs=true
 st:h.isNs cStatics=true
 boot:∀x:Str,x≠"__name__"->h.nsMap builtinsNs x=bootBuiltins x
 size:1074<=h.objs.size
theorem Left.keeps{w:World}{h h':Heap}(L:Left w h)(k:∀b o,h.get? b=some o->h'.get? b=some o)(hs:1074<=h'.objs.size):Left w h':=by
 have same:∀a,h.isNs a=true->h'.get? a=h.get? a:=λa ha=>by refine FS (Heap.Ns.of_isNs ha) λo _ _ e _=>?_;exact ae (k _ _ e) (ae e rfl)
 exact ⟨L.k.keeps k,L.x.keeps k,(eL (same _ L.main)).trans L.main,(eL (same _ L.blt)).trans L.blt,(eL (same _ L.st)).trans L.st,λx hx=>by refine ae (mH (same _ L.blt)) ?_;exact L.boot x hx,hs⟩
section
variable{h h':Heap}{b:Heap}{M}
theorem NV(e:h.get? cStatics=h'.get? cStatics):staticsOk M b h=staticsOk M b h':=by unfold staticsOk;exact ae (eL e) (ae (wN e) (ae (mH e) rfl))
theorem PJ(e:h.get? mainGlobals=h'.get? mainGlobals):namesBound pw h=namesBound pw h':=by unfold namesBound;exact ae (eL e) (ae (wN e) rfl)
theorem Qr(e:h.get? mainGlobals=h'.get? mainGlobals):laidKept b h=laidKept b h':=by unfold laidKept;exact ae (eL e) (ae (mH e) rfl)
theorem Q9(e:h.get? cStatics=h'.get? cStatics):h.accountedOkI M=h'.accountedOkI M:=by unfold MW;exact ae (eL e) (ae (wN e) (ae (mH e) rfl))
theorem Rm(e:h.get? builtinsNs=h'.get? builtinsNs):h.bltView=h'.bltView:=by unfold Heap.bltView;exact ae (PL e) rfl
theorem Wv(k:h.accountedOkI M=true):h.isNs cStatics=true:=by unfold MW at k;exact (b7.mp k).1
end
theorem behind(R:Runs)(w:World):
  (∃s,AfterRun (opening pw) w s)/\∀s,AfterRun (opening pw) w s->∃s₀,fenceModules? pw s=some s₀/\s₀.gens= #[]/\∃s₁,TopRan pw w s₀ s₁/\s₁.asleep/\s₁.gens= #[]/\Left w s₁.heap/\0< s₁.toks:=by
 have hb:=boot_open (p:=pw) (N:=600) PM rfl RG w;rw [<-table_eq_tree] at hb;refine am (mo.mp hb) λs₀ hs₀ e₀=>?_;refine am (Mz.mp hs₀) λs h4 h5=>?_;have A:=AfterImport.of_importEnds h4;refine ⟨⟨s,A⟩,λs' hs'=>?_⟩;obtain rfl:s'=s:=AfterImport.unique hs' A;have z:s₀.asleep:=Shared.asleep_of_life (fence_lifeW h5) A.life;obtain ⟨heap,gens,drawn,toks,os⟩:=s₀;simp only [bU.injEq] at e₀;refine jw e₀ λaZ aq ai bC=>?_;subst aZ;subst aq;subst ai;subst bC;obtain ⟨h₁,t1,S,hK,hX⟩:=Wi R w os;rw [<-table_eq_tree] at t1;obtain ⟨a,l,os1,frm⟩:=topRun_spec _ _ _ _ z t1;have ok:=ok3 w.params
 generalize ofL (S3 w.params)=T at ok S
 have s0:h₁.get? 0=(hp T).get? 0:=xy S (by decide) ok.k0;have s2:h₁.get? 2=(hp T).get? 2:=xy S (by decide) ok.k2;have s3:h₁.get? 3=(hp T).get? 3:=xy S (by decide) ok.k3;have g3:h₁.isNs mainGlobals=true:=(eL s3).trans ok.mg;have g0:h₁.isNs builtinsNs=true:=(eL s0).trans ok.bn;have k4:=(Q9 s2).trans ok.ac;have blt':=(Rm s0).trans ok.bv;refine ⟨_,h5,rfl,⟨h₁, #[],_,_,os⟩,⟨a,l,Shared.rest_eq os1,λb o hb hn=>?_,Heap.accountedI_of_ok k4,statics_of_ok ((NV s2).trans ok.st),Pin.keysAreStrs_of g3,λx hx=>(Pin.builtinOf_eq g0 x).trans (Np g0 blt' x hx),⟨4,_,(Pin.globalOf_eq g3 _).trans ((mH s3▸rfl:h₁.nsMap mainGlobals "__builtins__"=_).trans ok.bg),S.at_ _ _ ok.bm,rfl,rfl⟩,λg hg=>(nomatch MK g hg),names_of_bound ((PJ s3).trans ok.nb),laid_of_kept ((Qr s3).trans ok.lk)⟩,Shared.asleep_of_life l z,rfl,⟨hK,hX,g3,g0,Wv k4,λx hx=>Np g0 blt' x hx,by refine ae S.size ?_;exact cG _⟩,qo _⟩;have hlt:b< 11:=boot_size w.params▸cU hb;refine frm b o hlt (λq=>hn (.inl q)) (λq=>hn (.inr (.inl q))) (λq=>hn (.inr (.inr ?_))) hb;exact (Pin.globalOf_eq (TX w.params) _).trans ((Wy w.params).trans q)
abbrev hV:OpenLaw:=PySem.Challenge.rw_nz0529_01
abbrev rr:RowW:=hV.row.toRowW
noncomputable def Ex:Prop:=∀(w:World) (s:Shared) (l:Addr) (o:Obj) (vs:Array Value) (n:Nat) (ns:List Int),
 Left w s.heap->s.gens= #[]->1074<=l->s.heap.get? l=some o->o=⟨.type "list",none,.seq vs n, #[]⟩->
 IntsAre vs.toList ns->ns.length<=63->WData.layableAll [.list (ns.map .int)]=true->
 wpAny (model pw w) callerA (c9 (.ref 1073) [.ref l]) (λv s'=>v= .bool true/\OldK s.heap s'.heap/\s'.os=s.os/\AllBare s'.gens) (λ_ _=>False) s
theorem XB(P:Params):(K P).lookup 1073=some (aJ (aG 90) "law" 1072 .none "law_nz0529_01" 1633):=by kernel_rfl
theorem D9(P:Params):nsIn (K P) mainGlobals "law"=some (some (.ref 1073)):=by kernel_rfl
noncomputable def np:FuncData:=match (aJ (aG 90) "law" 1072 .none "law_nz0529_01" 1633).data with | .func fd=>fd |_=>default
theorem U5:pw.theDef "law"=some (np.params,(match np.body with | .stmts b=>b | .expr _=>[]),np.scope):=by kernel_rfl
theorem PH{w:World}{h:Heap}(L:Left w h):globalOf h "law"=some (.ref 1073):=(Pin.globalOf_eq L.main _).trans (mg_of L.k (.of_isNs L.main) (D9 w.params))
theorem aby{w:World}{h:Heap}(L:Left w h):isTheDefsW pw h "law":=by refine ⟨1073,aJ (aG 90) "law" 1072 .none "law_nz0529_01" 1633,np,np.params,(match np.body with | .stmts b=>b | .expr _=>[]),np.scope,PH L,L.k _ _ (XB w.params),by kernel_rfl,U5,by kernel_rfl,by kernel_rfl,rfl,by kernel_rfl,rfl,by kernel_rfl,by kernel_rfl,by kernel_rfl,?_⟩;exact ⟨.inl ⟨by kernel_rfl,by kernel_rfl⟩,[],by kernel_rfl,.inl ⟨rfl,by kernel_rfl⟩⟩
theorem Xy{R:WRecords}{xs:List WData}(h:WShape.hasItems R xs .int=true):∃ns:List Int,xs=ns.map .int:=by
 induction xs with
 |nil=>exact ⟨[],rfl⟩
 |cons x r ih=>exact aB (show (WShape.has R x .int&&WShape.hasItems R r .int)=true from h) λh1 h2=>aQ (hasW_int h1) λi e=>aQ (ih h2) λns e2=>⟨i::ns,congr (congrArg jS e) e2⟩
theorem VK{args:List WData}(h:WShape.hasAll rr.records args rr.args=true):∃ns:List Int,args= [.list (ns.map .int)]:=bp (hasAllW_cons h) λd r e hd hr=>am (hasW_list hd) λxs e1 hi=>aQ (Xy hi) λns e2=>⟨ns,e.trans (congr (congrArg jS (e1.trans (congrArg _ e2))) (hasAllW_nil hr))⟩
theorem PN{R:WRecords}{cl:Str->Option Addr}{h:Heap}{ns:List Int}:∀{vs:List Value} {as:List Addr},ReadsAllW R cl h vs (ns.map .int) as->IntsAre vs ns:=by
 induction ns with
 |nil=>intro vs as hr;cases hr;exact .nil
 |cons i r ih=>
  intro vs as hr;cases hr with
  |cons a b=>
   cases a with
   |int i t=>exact .cons _ _ (ih b)
theorem Qq{R:WRecords}{cl:Str->Option Addr}{P:Params}{ord:List DictEntry->List DictEntry}{xs:List WData}{s s₁:Shared}{vs:List Value}(h:layAllW R cl P ord [.list xs] s=some (vs,s₁)):∃(a:Addr) (r:List Value),vs= [.ref a]/\s₁.heap.get? a=some {cls:=.type "list",data:=.seq r.toArray}:=by
 simp only [layAllW,layW] at h;cases e:layAllW R cl P ord xs s with
 |none=>rw [e] at h;exact aD h
 |some r=>rw [e] at h;cases h;exact ⟨_,r.1,rfl,k7 _ rfl⟩
inductive IN(h:Heap)(ns:List Int)(vs:List Value)(as:List Addr):Prop
 |mk (a:Addr) (us:Array Value) (n:Nat) (e1:vs= [.ref a]) (e2:h.get? a=some ⟨.type "list",none,.seq us n, #[]⟩) (e3:IntsAre us.toList ns) (e4:a∈as):IN h ns vs as
theorem aa4{R:WRecords}{cl:Str->Option Addr}{P:Params}{ord:List DictEntry->List DictEntry}{ns:List Int}{s s₁:Shared}{vs:List Value}{as:List Addr}(hl:layAllW R cl P ord [.list (ns.map .int)] s=some (vs,s₁))(hr:ReadsAllW R cl s₁.heap vs [.list (ns.map .int)] as):IN s₁.heap ns vs as:=by
 refine ba (Qq hl) λa r e1 q=>?_;rw [e1] at hr;cases hr with
 |cons h1 h2=>
  cases h2;cases h1 with
  |list e ec ed er=>have eo:=af (e.symm.trans q);rw [eo] at ed;cases ed;exact ⟨a,_,_,e1,q,PN er,.head _⟩
theorem ab0(ns:List Int):WTm.holds [] (.and (.not (.lt (.lit (.int 63)) (.len (.arg 0)))) (.lit (.bool true))) {args:=[.list (ns.map .int)]}=(!(decide ((63:Int)< ((ns.map WData.int).length:Int)))&&true):=holdsW_of_value (w_and (R:=[]) (w_not (w_lt (w_lit (d:=.int 63)) (w_len_list (w_arg (e:={args:=[.list (ns.map .int)]}) (i:=0) rfl)))) (w_lit (d:=.bool true)))
theorem aac:hV.pre= .and (.not (.lt (.lit (.int 63)) (.len (.arg 0)))) (.lit (.bool true)):=rfl
theorem aad{ns:List Int}(h:hV.pre.holds [] {args:=[.list (ns.map .int)]}=true):ns.length<=63:=i5 λhc=>by have q:=(ab0 ns).symm.trans (aac▸h);rw [decide_eq_true (show (63:Int)< ((ns.map WData.int).length:Int) from qk.mpr (dz (as:=ns) WData.int▸hc))] at q;exact aE q
theorem aaG:hV.row.claim.prog.tablesWhole=true:=by kernel_rfl
theorem Vv:opensWell hV.row.claim.prog=true:=by kernel_rfl
set_option maxHeartbeats 1000000 in
theorem holds_of(R:Runs)(said:hV.row.wellSaid=true)(wit:rr.promised)(H:Ex):hV.row.Holds:=by
 refine ⟨said,wit,⟨⟨by kernel_rfl,by kernel_rfl,by kernel_rfl,by kernel_rfl,by kernel_rfl,aaG⟩,Vv,rfl⟩,wit.witness,λw=>⟨(behind R w).1,λs' hs'=>?_⟩⟩;refine Px ((behind R w).2 s' hs') λs₀ hf hg0 s hT hz hgens L htk=>?_;refine ⟨s₀,hf,hg0,s,hT,λn hn=>fe.mp (show n∈ [("law":Str)] from hn)▸aby L,λx hx=>(nomatch hx),λx hx=>(nomatch hx),?_⟩;refine ClaimW.callFrom_of_specG (c:=rr.claim) hz hgens λargs hpre hlay ord hord=>?_;obtain ⟨ns,rfl⟩:=VK (pre_splitW hpre).1;obtain ⟨⟨vs,s₁⟩,hlaid⟩:=n6.mp (layAllW_isSome (P:=w.params) (ord:=ord) (R:=rr.records) (cl:=classAt s.heap) (λc hc=>by cases hc) _ rr.args s (pre_splitW hpre).1);have keeps:=layAllW_keeps _ _ _ hlaid;have hal:=layAllW_rest _ _ _ hlaid;refine bP (reads_layAllW hord _ _ _ hlaid hlay s₁.heap (λ_ _ e=>e)) λas hrd hin hold=>?_;have Ld:Laid rr.records w s s₁ _ vs as:=⟨⟨ord,hord,hlaid⟩,hrd,hin,hold,keeps,hal.1.trans hgens,hal.2.2.1⟩;cases aa4 hlaid hrd with
 |mk a us n e1 e2 e3 e4=>
 have ha:1074<=a:=aI L.size (hin.2.2 a e4).1;have L₁:Left w s₁.heap:=L.keeps keeps (aI ha (ot (cU e2)));refine ⟨vs,s₁,hlaid,?_⟩;refine az (wpAny_nsGet (.of_isNs L₁.main) ?_);refine ae (show s₁.heap.nsMap mainNs hV.row.name=some (.ref 1073) from mg_of L₁.k (.of_isNs L₁.main) (D9 w.params)) (ae e1 ?_);refine az (da (H w s₁ a _ us n ns L₁ (hal.1.trans hgens) ha e2 rfl e3 (aad (pre_splitW hpre).2) hlay) (λv s' g=>?_) λ_ _ x=>x.elim);have z:=GoodWG.laid (c:=rr.claim) (r:=.ok (.ret v)) rfl rfl (ident_freeW (r:=rr) rfl rfl rfl) Ld ⟨.inl ⟨_,_,[],rfl,λ_=>rfl,g.1▸ReadsW.bool true,by kernel_rfl,λ_=>⟨Nv,λ_ hm=>(nomatch hm)⟩⟩,g.2⟩;exact aT ⟨_,rfl,e1▸z.1,z.2.1,z.2.2,λq=>(nomatch q)⟩
theorem bL{a b:Bool}(h:a=true)(h':b=true):(a&&b)=true:=by rw [h,h'];rfl
theorem aaA:rr.solid=true:=by kernel_rfl
theorem adz:sreFenced rr.prog.main=true:=by kernel_rfl
theorem adA:((moduleNames rr.prog.main.body).isEmpty||lookedIntoSs (moduleNames rr.prog.main.body) rr.prog.main.body)=true:=by kernel_rfl
theorem adB:namesResolve rr.prog=true:=by kernel_rfl
theorem adC:(rr.prog.boundNames.all λn=> !worldNames.contains n)=true:=by kernel_rfl
theorem adD:noRoadLSs {strict:= !(importedModules rr.prog.main.body).all cThrough.contains,foot:=none,bare:=(["vars","dir","locals"]:List Str).filter (readsOut rr.prog rr.prog.main.body)} rr.prog.main.body=true:=by kernel_rfl
theorem adE:(namesMeet rr.prog rr.prog.main.body λ_ n=>attrL n)=true:=by kernel_rfl
theorem looks:looksOpen rr.prog=true:=bL (bL (bL (bL (bL adz adA) adB) adC) adD) adE
theorem part:hV.row.partSaid=true:=bL (bL (bL (bL (bL (bL (bL (bL (bL (bL (bL (bL (bL looks (by kernel_rfl)) (by kernel_rfl)) (by kernel_rfl)) (by kernel_rfl)) (by kernel_rfl)) (by kernel_rfl)) aaA) (by kernel_rfl)) (by kernel_rfl)) (by kernel_rfl)) (by kernel_rfl)) (by kernel_rfl)) (by kernel_rfl)
theorem VG:hV.row.wellSaid=true:=bL (bL part (by kernel_rfl)) (by kernel_rfl)
theorem said:hV.wellSaid=true:=bL (bL (bL (bL (bL (bL (bL (bL (bL (bL (bL (bL (bL (bL (bL (bL (bL (bL (VG) (by kernel_rfl)) (by kernel_rfl)) (by kernel_rfl)) (by kernel_rfl)) (by kernel_rfl)) (by kernel_rfl)) (by kernel_rfl)) (by kernel_rfl)) (by kernel_rfl)) (by kernel_rfl)) (by kernel_rfl)) (by kernel_rfl)) (by kernel_rfl)) (by kernel_rfl)) (by kernel_rfl)) (by kernel_rfl)) (by kernel_rfl)) (by kernel_rfl)
section
noncomputable def mkT{Y:Type}(l:List (Nat×Y)):TM Y:=aW .nil (λp _ t=>t.put 11 p.1 (some p.2)) l
abbrev Nm:=Nat
noncomputable def enc(l:List Nat):Nat:=aW 0 (λa _ c=>bf (aM a 126) (a+1+128* c) (128* (2 ^ a* (2* c+1)))) l
noncomputable def nm(s:Str):Nat:=enc s.cps.toList
noncomputable def cl(s:String):List Nat:=s.toList.map Char.toNat
noncomputable def cs(s:String):Nat:=enc (cl s)
noncomputable def lk{Y:Type}(n:Nm)(l:List (Nm×Y)):Option Y:=aW none (λp _ x=>bf (ag n p.1) (some p.2) x) l
noncomputable def aj{Y:Type}(o:Option Y)(f:Y->Bool):Bool:=match o with
 |some a=>f a
 |none=>false
theorem aF{Y:Type}{o:Option Y}{f:Y->Bool}{G:Prop}(h:aj o f=true)(k:∀a,o=some a->f a=true->G):G:=by
 cases o with
 |none=>exact aE h
 |some a=>exact k a rfl h
noncomputable def bF{Y:Type}(l:List Y)(f:Y->Bool):Bool:=aW true (λa _ x=>bf (f a) x false) l
inductive AI where
 |lit (i:Int)
 |var (k:Nat)
 |add (a b:AI)
 |mul (a b:AI)
 |md (a:AI) (m:Nat)
 |dv (a:AI) (m:Nat)
inductive SW where
 |lit (s:List Nat)
 |var (pre:List Nat) (k:Nat) (suf:List Nat)
inductive AV where
 |none
 |bool (b:Bool)
 |bM
 |int (e:AI)
 |str (s:SW)
 |glob (a:Nat)
 |ref (i:Nat)
 |typ (n:Nat)
 |bi (id:Nat)
 |aY (k:Nat)
 |inst (C:Nat) (ns:List Nm) (vs:List AV)
 |d9 (ns:List Nm) (vs:List AV)
 |bw (xs:List AV)
 |tup (xs:List AV)
 |told (s:SW)
noncomputable def mh{Y:Type}(n:Nm)(ns:List Nm):List Y->Option Y:=aW (λ_=>none) (λm _ x vs=>match vs with
 | []=>none
 |v::r=>bf (ag n m) (some v) (x r)) ns
inductive EV where
 |val (v:AV)
 |unk
 |ov (k:Nat)
 |oi (k:Nat)
inductive AO where
 |inst (C:Nat) (d:Nat)
 |dict (cap:Nat) (loc:Bool) (es:List (Nm×EV))
 |list (pre:Option Nat) (xs:List AV)
 |du (src:AV) (pos:Nat)
 |rng (cur stop:Int)
 |exc (C:Nat) (d:Nat)
 |cell (v:Option AV)
structure St where
 objs:TM AO
 n:Nat
 ni:Nat
 nv:Nat
 bnd:TM (Int×Int)
 sub:List (Nat×Int)
 aU:List (Nat×Option Nat)
 x:Option Nat
noncomputable def St.get(st:St)(i:Nat):Option AO:=st.objs.get i
noncomputable def St.set(st:St)(i:Nat)(o:AO):St:=match st with | ⟨objs,n,ni,nv,bnd,sub,aU,x⟩=>⟨objs.put 11 i (some o),n,ni,nv,bnd,sub,aU,x⟩
noncomputable def St.push(st:St)(o:AO):St:=match st with | ⟨objs,n,ni,nv,bnd,sub,aU,x⟩=>⟨objs.put 11 n (some o),n+1,ni,nv,bnd,sub,aU,x⟩
noncomputable def ca(st:St)(o:AO):Option St:=bf (aM st.n 2000) (some (st.push o)) none
noncomputable def St.drop(st:St)(i:Nat):St:=match st with | ⟨objs,n,ni,nv,bnd,sub,aU,x⟩=>⟨objs.put 11 i none,n,ni,nv,bnd,sub,aU,x⟩
noncomputable def bA(a b:Int):Bool:=match a with
 | .ofNat a=>match b with
  | .ofNat b=>bh a b
  | .negSucc _=>false
 | .negSucc a=>match b with
  | .ofNat _=>true
  | .negSucc b=>bh b a
noncomputable def ieq(a b:Int):Bool:=match a with
 | .ofNat a=>match b with
  | .ofNat b=>ag a b
  | .negSucc _=>false
 | .negSucc a=>match b with
  | .ofNat _=>false
  | .negSucc b=>ag a b
noncomputable def pv(l:List (Nat×Int))(j:Nat):Option Int:=aW none (λp _ x=>bf (ag p.1 j) (some p.2) x) l
noncomputable def rangeOf(st:St)(e:AI):Option (Int×Int):=AI.rec (motive:=λ_=>Option (Int×Int)) (λi=>some (i,i)) (λk=>oe (st.bnd.get k) (λi=>some (i,i)) (pv st.sub k)) (λ_ _ a b=>ob a λp=>ob b λq=>some (p.1+q.1,p.2+q.2))
 (λ_ _ a b=>ob a λp=>ob b λq=>bf (bA p.1 0||bA q.1 0) none (some (p.1* q.1,p.2* q.2))) (λ_ m _=>bf (ag m 0) none (some (0,(m:Int) - 1))) (λ_ m a=>ob a λp=>bf (bA p.1 0||ag m 0) none (some (p.1 / (m:Int),p.2 / (m:Int)))) e
end
section
structure FI where
 st:Stmt
 qual:Str
 cd:Nat
 dV:Value
 mod:Str
 tok:Nat
 defs:List AV
noncomputable def LM:List (Nat×FI):=[
 (21,⟨aG 0,"_wall",20,.none,"__main__",164,[]⟩),
 (48,⟨aP 3 0,"Refusal.__init__",47,.none,"vectorcove.errors",194,[]⟩),
 (67,⟨aP 4 0,"RError.__init__",66,.none,"vectorcove.errors",194,[]⟩),
 (86,⟨aP 5 0,"LimitReached.__init__",85,.none,"vectorcove.errors",194,[]⟩),
 (105,⟨aP 6 0,"ReturnSignal.__init__",104,.none,"vectorcove.errors",194,[]⟩),
 (124,⟨aP 7 0,"LoopSignal.__init__",123,.none,"vectorcove.errors",194,[]⟩),
 (143,⟨aP 9 0,"Matching.__init__",142,.none,"vectorcove.callargs",349,[]⟩),
 (150,⟨aP 9 1,"Matching.exact",149,.none,"vectorcove.callargs",349,[]⟩),
 (157,⟨aP 9 2,"Matching.partial",156,.none,"vectorcove.callargs",349,[]⟩),
 (164,⟨aP 9 3,"Matching.partial_of",163,.none,"vectorcove.callargs",349,[]⟩),
 (171,⟨aP 9 4,"Matching.positional",170,.none,"vectorcove.callargs",349,[]⟩),
 (178,⟨aP 9 5,"Matching.is_free",177,.none,"vectorcove.callargs",349,[]⟩),
 (183,⟨aP 9 6,"Matching.rest",182,.none,"vectorcove.callargs",349,[]⟩),
 (197,⟨aG 10,"doubled_text",196,.none,"vectorcove.callargs",349,[]⟩),
 (204,⟨aG 11,"argument_text",203,.none,"vectorcove.callargs",349,[]⟩),
 (209,⟨aG 12,"unused_text",208,.none,"vectorcove.callargs",349,[]⟩),
 (215,⟨aG 13,"match_names",214,(.ref 210),"vectorcove.callargs",349,[.none]⟩),
 (222,⟨aG 15,"lookup_here",221,.none,"vectorcove.scope",464,[]⟩),
 (229,⟨aG 16,"lookup",228,.none,"vectorcove.scope",464,[]⟩),
 (236,⟨aG 17,"holder",235,.none,"vectorcove.scope",464,[]⟩),
 (243,⟨aG 18,"locked_text",242,.none,"vectorcove.scope",464,[]⟩),
 (250,⟨aG 19,"define",249,.none,"vectorcove.scope",464,[]⟩),
 (257,⟨aG 20,"up_holder",256,.none,"vectorcove.scope",464,[]⟩),
 (264,⟨aG 21,"assign_up",263,.none,"vectorcove.scope",464,[]⟩),
 (278,⟨aP 23 0,"Null.__init__",277,.none,"vectorcove.values",528,[]⟩),
 (299,⟨aP 24 0,"Missing.__init__",298,.none,"vectorcove.values",528,[]⟩),
 (321,⟨aP 25 0,"Vector.__init__",320,(.ref 314),"vectorcove.values",528,[.none]⟩),
 (328,⟨aP 25 1,"Vector.copy",327,.none,"vectorcove.values",528,[]⟩),
 (349,⟨aP 26 0,"Symbol.__init__",348,.none,"vectorcove.values",528,[]⟩),
 (371,⟨aP 27 0,"Call.__init__",370,(.ref 364),"vectorcove.values",528,[.none]⟩),
 (393,⟨aP 28 0,"Closure.__init__",392,(.ref 386),"vectorcove.values",528,[.none]⟩),
 (414,⟨aP 29 0,"Builtin.__init__",413,.none,"vectorcove.values",528,[]⟩),
 (436,⟨aP 30 0,"Environment.__init__",435,(.ref 429),"vectorcove.values",528,[.none]⟩),
 (457,⟨aP 31 0,"Promise.__init__",456,.none,"vectorcove.values",528,[]⟩),
 (478,⟨aP 32 0,"Dots.__init__",477,.none,"vectorcove.values",528,[]⟩),
 (492,⟨aG 33,"null",491,.none,"vectorcove.values",528,[]⟩),
 (499,⟨aG 34,"missing",498,.none,"vectorcove.values",528,[]⟩),
 (506,⟨aG 35,"whole",505,.none,"vectorcove.values",528,[]⟩),
 (513,⟨aG 36,"text",512,.none,"vectorcove.values",528,[]⟩),
 (520,⟨aG 37,"symbol",519,.none,"vectorcove.values",528,[]⟩),
 (527,⟨aG 38,"call_of",526,.none,"vectorcove.values",528,[]⟩),
 (534,⟨aG 39,"is_atomic",533,.none,"vectorcove.values",528,[]⟩),
 (541,⟨aG 40,"is_function",540,.none,"vectorcove.values",528,[]⟩),
 (548,⟨aG 41,"share",547,.none,"vectorcove.values",528,[]⟩),
 (555,⟨aG 43,"done_promise",554,.none,"vectorcove.funcall",935,[]⟩),
 (562,⟨aG 44,"bound_argument",561,.none,"vectorcove.funcall",935,[]⟩),
 (569,⟨aG 45,"dots_argument",568,.none,"vectorcove.funcall",935,[]⟩),
 (576,⟨aG 46,"default_binding",575,.none,"vectorcove.funcall",935,[]⟩),
 (582,⟨aG 47,"bind_formals",581,(.ref 577),"vectorcove.funcall",935,[.none]⟩),
 (589,⟨aG 48,"dots_of",588,.none,"vectorcove.funcall",935,[]⟩),
 (596,⟨aG 49,"is_dots_place",595,.none,"vectorcove.funcall",935,[]⟩),
 (603,⟨aG 50,"dots_place",602,.none,"vectorcove.funcall",935,[]⟩),
 (610,⟨aG 51,"is_empty_name",609,.none,"vectorcove.funcall",935,[]⟩),
 (617,⟨aG 53,"target_chain",616,.none,"vectorcove.replace",1011,[]⟩),
 (624,⟨aG 54,"fetch_target",623,.none,"vectorcove.replace",1011,[]⟩),
 (631,⟨aG 55,"store_target",630,.none,"vectorcove.replace",1011,[]⟩),
 (638,⟨aG 56,"end_loose",637,.none,"vectorcove.replace",1011,[]⟩),
 (645,⟨aG 57,"tmp_call",644,.none,"vectorcove.replace",1011,[]⟩),
 (652,⟨aG 58,"special_value",651,.none,"vectorcove.replace",1011,[]⟩),
 (659,⟨aG 59,"closure_value",658,.none,"vectorcove.replace",1011,[]⟩),
 (666,⟨aG 60,"has_class",665,.none,"vectorcove.replace",1011,[]⟩),
 (673,⟨aG 61,"builtin_value",672,.none,"vectorcove.replace",1011,[]⟩),
 (680,⟨aG 62,"told_call",679,.none,"vectorcove.replace",1011,[]⟩),
 (688,⟨aG 63,"apply_getter",687,(.ref 681),"vectorcove.replace",1011,[.none]⟩),
 (695,⟨aG 64,"shown_value",694,.none,"vectorcove.replace",1011,[]⟩),
 (703,⟨aG 65,"apply_setter",702,(.ref 696),"vectorcove.replace",1011,[.none]⟩),
 (710,⟨aG 66,"special_setter",709,.none,"vectorcove.replace",1011,[]⟩),
 (718,⟨aG 67,"assign_complex",717,(.ref 711),"vectorcove.replace",1011,[.none]⟩),
 (725,⟨aG 69,"need",724,.none,"vectorcove.control",1204,[]⟩),
 (732,⟨aG 70,"s_brace",731,.none,"vectorcove.control",1204,[]⟩),
 (739,⟨aG 71,"target_name",738,.none,"vectorcove.control",1204,[]⟩),
 (746,⟨aG 72,"assign",745,.none,"vectorcove.control",1204,[]⟩),
 (753,⟨aG 73,"s_assign",752,.none,"vectorcove.control",1204,[]⟩),
 (760,⟨aG 74,"s_assign_up",759,.none,"vectorcove.control",1204,[]⟩),
 (774,⟨aP 76 0,"Frame.__init__",773,.none,"vectorcove.evaluator",1263,[]⟩),
 (796,⟨aP 77 0,"Evaluator.__init__",795,(.ref 789),"vectorcove.evaluator",1263,[.int (.lit 20000),.int (.lit 40)]⟩),
 (803,⟨aP 77 1,"Evaluator.new_env",802,.none,"vectorcove.evaluator",1263,[]⟩),
 (811,⟨aP 77 2,"Evaluator.define",810,(.ref 804),"vectorcove.evaluator",1263,[.str (.lit [])]⟩),
 (818,⟨aP 77 3,"Evaluator.tick",817,.none,"vectorcove.evaluator",1263,[]⟩),
 (825,⟨aP 77 4,"Evaluator.signal_error",824,.none,"vectorcove.evaluator",1263,[]⟩),
 (833,⟨aP 77 5,"Evaluator.warn_all",832,(.ref 826),"vectorcove.evaluator",1263,[.none]⟩),
 (840,⟨aP 77 6,"Evaluator.running_call",839,.none,"vectorcove.evaluator",1263,[]⟩),
 (847,⟨aP 77 7,"Evaluator.eval",846,.none,"vectorcove.evaluator",1263,[]⟩),
 (854,⟨aP 77 8,"Evaluator.variable",853,.none,"vectorcove.evaluator",1263,[]⟩),
 (861,⟨aP 77 9,"Evaluator.dots_value",860,.none,"vectorcove.evaluator",1263,[]⟩),
 (868,⟨aP 77 10,"Evaluator.force",867,.none,"vectorcove.evaluator",1263,[]⟩),
 (876,⟨aP 77 11,"Evaluator.find_function",875,(.ref 869),"vectorcove.evaluator",1263,[.none]⟩),
 (883,⟨aP 77 12,"Evaluator.function_of",882,.none,"vectorcove.evaluator",1263,[]⟩),
 (890,⟨aP 77 13,"Evaluator.eval_call",889,.none,"vectorcove.evaluator",1263,[]⟩),
 (897,⟨aP 77 14,"Evaluator.plain_call",896,.none,"vectorcove.evaluator",1263,[]⟩),
 (904,⟨aP 77 15,"Evaluator.spread_dots",903,.none,"vectorcove.evaluator",1263,[]⟩),
 (911,⟨aP 77 16,"Evaluator.promise_args",910,.none,"vectorcove.evaluator",1263,[]⟩),
 (919,⟨aP 77 17,"Evaluator.eager_args",918,(.ref 912),"vectorcove.evaluator",1263,[.bool false]⟩),
 (926,⟨aP 77 18,"Evaluator.empty_arg",925,.none,"vectorcove.evaluator",1263,[]⟩),
 (933,⟨aP 77 19,"Evaluator.call_special",932,.none,"vectorcove.evaluator",1263,[]⟩),
 (940,⟨aP 77 20,"Evaluator.call_builtin",939,.none,"vectorcove.evaluator",1263,[]⟩),
 (948,⟨aP 77 21,"Evaluator.apply_closure",947,(.ref 941),"vectorcove.evaluator",1263,[.none]⟩),
 (955,⟨aP 77 22,"Evaluator.leave",954,.none,"vectorcove.evaluator",1263,[]⟩),
 (962,⟨aP 77 23,"Evaluator.run_exits",961,.none,"vectorcove.evaluator",1263,[]⟩),
 (969,⟨aP 77 24,"Evaluator.shower",968,.none,"vectorcove.evaluator",1263,[]⟩),
 (977,⟨aP 77 25,"Evaluator.call_value",976,(.ref 970),"vectorcove.evaluator",1263,[.none]⟩),
 (984,⟨aP 77 26,"Evaluator.run",983,.none,"vectorcove.evaluator",1263,[]⟩),
 (998,⟨aG 79,"_law_draw",997,.none,"law_nz0529_01",1633,[]⟩),
 (1005,⟨aG 80,"_law_index",1004,.none,"law_nz0529_01",1633,[]⟩),
 (1012,⟨aG 81,"_law_statement",1011,.none,"law_nz0529_01",1633,[]⟩),
 (1019,⟨aG 82,"_law_made",1018,.none,"law_nz0529_01",1633,[]⟩),
 (1026,⟨aG 83,"_law_target",1025,.none,"law_nz0529_01",1633,[]⟩),
 (1033,⟨aG 84,"_law_mixed",1032,.none,"law_nz0529_01",1633,[]⟩),
 (1040,⟨aG 85,"_law_word",1039,.none,"law_nz0529_01",1633,[]⟩),
 (1047,⟨aG 86,"_law_called",1046,.none,"law_nz0529_01",1633,[]⟩),
 (1054,⟨aG 87,"_law_read",1053,.none,"law_nz0529_01",1633,[]⟩),
 (1061,⟨aG 88,"_law_builtin",1060,.none,"law_nz0529_01",1633,[]⟩),
 (1068,⟨aG 89,"_law_note",1067,.none,"law_nz0529_01",1633,[]⟩),
 (1073,⟨aG 90,"law",1072,.none,"law_nz0529_01",1633,[]⟩)]
noncomputable def BR:List (Nm×Nat):=[
 (cs "_wall",21),
 (cs "CoveError",31),
 (cs "Refusal",51),
 (cs "RError",70),
 (cs "LimitReached",89),
 (cs "ReturnSignal",108),
 (cs "LoopSignal",127),
 (cs "Matching",186),
 (cs "doubled_text",197),
 (cs "argument_text",204),
 (cs "unused_text",209),
 (cs "match_names",215),
 (cs "lookup_here",222),
 (cs "lookup",229),
 (cs "holder",236),
 (cs "locked_text",243),
 (cs "define",250),
 (cs "up_holder",257),
 (cs "assign_up",264),
 (cs "Null",281),
 (cs "Missing",302),
 (cs "Vector",331),
 (cs "Symbol",352),
 (cs "Call",374),
 (cs "Closure",396),
 (cs "Builtin",417),
 (cs "Environment",439),
 (cs "Promise",460),
 (cs "Dots",481),
 (cs "null",492),
 (cs "missing",499),
 (cs "whole",506),
 (cs "text",513),
 (cs "symbol",520),
 (cs "call_of",527),
 (cs "is_atomic",534),
 (cs "is_function",541),
 (cs "share",548),
 (cs "done_promise",555),
 (cs "bound_argument",562),
 (cs "dots_argument",569),
 (cs "default_binding",576),
 (cs "bind_formals",582),
 (cs "dots_of",589),
 (cs "is_dots_place",596),
 (cs "dots_place",603),
 (cs "is_empty_name",610),
 (cs "target_chain",617),
 (cs "fetch_target",624),
 (cs "store_target",631),
 (cs "end_loose",638),
 (cs "tmp_call",645),
 (cs "special_value",652),
 (cs "closure_value",659),
 (cs "has_class",666),
 (cs "builtin_value",673),
 (cs "told_call",680),
 (cs "apply_getter",688),
 (cs "shown_value",695),
 (cs "apply_setter",703),
 (cs "special_setter",710),
 (cs "assign_complex",718),
 (cs "need",725),
 (cs "s_brace",732),
 (cs "target_name",739),
 (cs "assign",746),
 (cs "s_assign",753),
 (cs "s_assign_up",760),
 (cs "Frame",777),
 (cs "Evaluator",987),
 (cs "_law_draw",998),
 (cs "_law_index",1005),
 (cs "_law_statement",1012),
 (cs "_law_made",1019),
 (cs "_law_target",1026),
 (cs "_law_mixed",1033),
 (cs "_law_word",1040),
 (cs "_law_called",1047),
 (cs "_law_read",1054),
 (cs "_law_builtin",1061),
 (cs "_law_note",1068),
 (cs "law",1073)]
noncomputable def FT:TM FI:=mkT LM
noncomputable def dR(f:FI):List Stmt:=match f.st with
 | .FunctionDef _ _ body _ _ _ _ _ _ _=>body
 |_=>[]
noncomputable def bK(f:FI):Scope:=match f.st with
 | .FunctionDef _ _ _ _ _ _ scope _ _ _=>scope
 |_=>default
noncomputable def j6(f:FI):Arguments:=match f.st with
 | .FunctionDef _ args _ _ _ _ _ _ _ _=>args
 |_=>default
noncomputable def bY:FI:=match FI.st ((FT.get 1061).getD ⟨.Pass default,"",0,.none,"",0,[]⟩) with
 | .FunctionDef _ _ (b::_) _ _ _ _ _ _ _=>⟨b,"_law_builtin.<locals>.told",0,.none,"law_nz0529_01",0,[]⟩
 |_=>⟨.Pass default,"",0,.none,"",0,[]⟩
noncomputable def Db:List (Nm×AV):=[(cs "len",.bi 0),(cs "list",.typ 0),(cs "range",.typ 1),(cs "isinstance",.bi 2),(cs "ord",.bi 1),(cs "str",.typ 2)]
noncomputable def oY(n:Nm):Option AV:=match lk n BR with
 |some a=>some (.glob a)
 |none=>lk n Db
inductive X where
 |bad
 |nil
 |cons (h t:X)
 |con (v:AV)
 |loc (n:Nm)
 |gI (n:Nm)
 |jG (v:AV)
 |attr (o:X) (a:Nm)
 |cmp (op:CmpOp) (l r:X)
 |pM (op:ey) (es:X)
 |sR (t b o:X)
 |call (f es:X)
 |HZ (o:X) (m:Nm) (es:X)
 |IH (o:X) (m:Nm) (es:X)
 |bin (op:Operator) (l r:X)
 |slice (o:X) (a b c:Option Int)
 |item (o i:X)
 |not (x:X)
 |list (es:X)
 |tup (es:X)
 |dict (ns:List Nm) (es:X)
 |comp (scope:Scope) (elt t ifs it:X)
 |Ix
 |Iv (e:X)
 |AW (e:X)
 |Ml (t b o:X)
 |AU (t v:X)
 |KO (t:X) (op:Operator) (v:X)
 |KQ (t it body:X)
 |GU (t body:X)
 |GR (e:X)
 |KT (body hs fin:X)
 |vy (n:Nm)
 |hand (t:X) (n:Nm) (body:X)
noncomputable def nS(n:Nm)(l:List (Str×NameKind)):Option NameKind:=aW none (λp _ x=>bf (ag n (nm p.1)) (some p.2) x) l
noncomputable def gd(b:Bool)(x:X):X:=bf b x .bad
noncomputable def go{Y:Type}(o:Option Y)(f:Y->X):X:=oe .bad f o
noncomputable def zK(k:NameKind):Nat:=NameKind.casesOn (motive:=λ_=>Nat) k 0 1 1 3 2
noncomputable def IL(x:Str)(k:NameKind):X:=bf (ag (zK k) 0) (.loc (nm x)) (bf (ag (zK k) 1) (.gI (nm x)) (gd (ag (zK k) 2) (go (oY (nm x)) .jG)))
noncomputable def xName(sc:Scope)(x:Str):X:=bf (ag (nm x) (cs "__debug__")||ag (nm x) (cs "__classdict__")) .bad (go (nS (nm x) sc.names) (IL x))
noncomputable def aK{Y:Type}(f:Y->X)(l:List Y):X:=aW .nil (λa _ r=>.cons (f a) r) l
noncomputable def gK(n:Nat)(e:ax):Bool:=ag e.ctorIdx n
noncomputable def fV{β:Type}(e:ax)(d:β)(nm:Str->Pos->β:=λ_ _=>d)(at_:ax->Str->Pos->β:=λ_ _ _=>d)(sub:ax->ax->β:=λ_ _=>d)(tup:List ax->β:=λ_=>d)(cst:Const->β:=λ_=>d)(lc:ax->List Comprehension->Scope->Pos->β:=λ_ _ _ _=>d)(un:UnaryOp->ax->β:=λ_ _=>d)(sl:Option ax->Option ax->Option ax->β:=λ_ _ _=>d)(call:ax->List ax->List Keyword->Pos->β:=λ_ _ _ _=>d)
 (cmp:ax->List CmpOp->List ax->β:=λ_ _ _=>d) (pM:ey->List ax->β:=λ_ _=>d) (sR:ax->ax->ax->β:=λ_ _ _=>d) (bin:ax->Operator->ax->β:=λ_ _ _=>d) (lst:List ax->β:=λ_=>d) (LG:List (Option ax)->List ax->β:=λ_ _=>d):β:=
 ax.casesOn (motive_1:=λ_=>β) e (λo es _=>pM o es) (λ_ _ _=>d) (λl o r _=>bin l o r) (λo x _=>un o x) (λ_ _ _ _=>d) (λa b c _=>sR a b c) (λks vs _=>LG ks vs) (λ_ _ _=>d) (λa b c p=>lc a b c p) (λ_ _ _ _=>d) (λ_ _ _ _ _=>d) (λ_ _ _ _=>d) (λ_ _=>d) (λ_ _=>d) (λ_ _=>d) (λl o r _=>cmp l o r) (λf es ks p=>call f es ks p) (λ_ _ _ _=>d) (λ_ _=>d) (λc _ _=>cst c) at_ (λo i _=>sub o i) (λ_ _=>d) nm (λes _=>lst es) (λes _ _=>tup es) (λa b c _=>sl a b c)
noncomputable def cInt(c:Const):Option Int:=Const.casesOn (motive:=λ_=>Option Int) c none (λ_=>none) some (λ_=>none) (λ_ _=>none) (λ_=>none) (λ_=>none) none
noncomputable def cStr(c:Const):Option Str:=Const.casesOn (motive:=λ_=>Option Str) c none (λ_=>none) (λ_=>none) (λ_=>none) (λ_ _=>none) some (λ_=>none) none
noncomputable def noStar(es:List ax):Bool:=aW true (λe _ x=>bf (gK 22 e) false x) es
noncomputable def m0(l:List (Option ax)):Option (List Nm):=aW (some []) (λe _ x=>ob e λe=>ob (fV e none (cst:=cStr)) λs=>ob x λl=>some (nm s::l)) l
noncomputable def UR(e:ax):Bool:=gK 23 e
noncomputable def allNames(es:List ax):Bool:=aW true (λe _ x=>bf (UR e) x false) es
noncomputable def km(e:ax):Bool:=fV e false (nm:=λ_ _=>true) (tup:=allNames)
noncomputable def o7(e:ax):Bool:= !(gK 7 e)
noncomputable def isNeg(o:UnaryOp):Bool:=ag o.ctorIdx UnaryOp.USub.ctorIdx
noncomputable def cI(e:ax):Option Int:=fV e none (cst:=cInt) (un:=λo x=>bf (isNeg o) (ob (fV x none (cst:=cInt)) λi=>some (-i)) none)
noncomputable def gC(o:Option ax):Option (Option Int):=oe (some none) (λe=>ob (cI e) λi=>some (some i)) o
noncomputable def attrS:List Str:=[("args":Str),("attrs":Str),("base":Str),("body":Str),("call":Str),("caller":Str),("code":Str),("condition":Str),("current":Str),("deparser":Str),("dispatch":Str),("dispatcher":Str),("env":Str),("expr":Str),("fn":Str),("formals":Str),("frame":Str),("frames":Str),("function":Str),("generic":Str),("globals":Str),("group":Str),("handlers":Str),("items":Str),("kind":Str),("limit":Str),("locked":Str),("locks":Str),("loose":Str),("message":Str),("most_frames":Str),("name":Str),("next_number":Str),("number":Str),("on_exit":Str),("out":Str),("parent":Str),("places":Str),("restarts":Str),("s4":Str),("shared":Str),("signaller":Str),("special":Str),("state":Str),("steps":Str),("tags":Str),("targets":Str),("used":Str),("value":Str),("visible":Str),("warner":Str),("warnings":Str)]
noncomputable def uR:List Str:=[("apply_closure":Str),("call_builtin":Str),("call_special":Str),("define":Str),("dots_value":Str),("eager_args":Str),("empty_arg":Str),("eval":Str),("exact":Str),("find_function":Str),("force":Str),("function_of":Str),("is_free":Str),("leave":Str),("new_env":Str),("partial":Str),("partial_of":Str),("plain_call":Str),("positional":Str),("promise_args":Str),("rest":Str),("run_exits":Str),("running_call":Str),("shower":Str),("signal_error":Str),("spread_dots":Str),("tick":Str),("variable":Str),("append":Str),("extend":Str),("pop":Str),("get":Str),("startswith":Str),("isdigit":Str)]
noncomputable def abQ:List (Nm×Unit):=uR.map λa=>(nm a,())
noncomputable def zh:List (Nm×Unit):=attrS.map λa=>(nm a,())
noncomputable def baseOk(e:ax):Bool:=fV e false (nm:=λ_ _=>true) (at_:=λ_ _ _=>true) (sub:=λ_ _=>true) (call:=λf _ _ _=>gK 20 f)
noncomputable def acu(o:ax)(a:Str)(x:X):X:=gd (baseOk o) (go (lk (nm a) zh) λ_=>x)
noncomputable def aaY(m:Str)(b:Bool)(o es:X):X:=gd b (oe (go (lk (nm m) abQ) λ_=>.HZ o (nm m) es) (λ_=>.IH o (nm m) es) (lk (nm m) zh))
noncomputable def gq(l:List Nat):Bool:=aW true (λa r x=>bf (r.any (ag a)) false x) l
noncomputable def isFun(k:ScopeKind):Bool:=ag k.ctorIdx ScopeKind.function.ctorIdx
noncomputable def lh(k:NameKind):Bool:=NameKind.casesOn (motive:=λ_=>Bool) k false true false false false
noncomputable def ul(k:NameKind):Bool:=NameKind.casesOn (motive:=λ_=>Bool) k true false false false false
noncomputable def uh(scope:Scope):Bool:=isFun scope.kind&&gq (scope.names.map λp=>nm p.1)&&scope.names.all λp=> !(lh p.2)
noncomputable def Lj(c:Const):X:=Const.casesOn (motive:=λ_=>X) c (.con .none) (λb=>.con (.bool b)) (λi=>.con (.int (.lit i))) (λ_=>.bad) (λ_ _=>.bad) (λx=>.con (.str (.lit x.cps.toList))) (λ_=>.bad) .bad
section
variable(rec:Scope->ax->X)(sc:Scope)
noncomputable def nu{Y:Type}(l:List Y)(f:Y->X):X:=aW .bad (λa r _=>aW (f a) (λ_ _ _=>.bad) r) l
noncomputable def pG{Y:Type}(l:List Y)(x:X):X:=aW x (λ_ _ _=>.bad) l
noncomputable def aeg(l:ax)(ops:List CmpOp)(cs:List ax):X:=nu ops λop=>nu cs λr=>gd (!(behindInMarks op r)) (.cmp op (rec sc l) (rec sc r))
noncomputable def Lk(f:ax)(es:List ax)(pos:Pos):X:=fV f .bad (at_:=λo m ap=>aaY m (baseOk o&&ag ap.endLine pos.line&&aM es.length 20) (rec sc o) (aK (rec sc) es)) (nm:=λx _=>.call (xName sc x) (aK (rec sc) es))
noncomputable def aef(f:ax)(es:List ax)(ks:List Keyword)(pos:Pos):X:=pG ks (gd (noStar es) (Lk rec sc f es pos))
noncomputable def Bg(o i:ax):X:=fV i (.item (rec sc o) (rec sc i)) (sl:=λlo hi sp=>go (gC lo) λa=>go (gC hi) λb=>go (gC sp) λc=>.slice (rec sc o) a b c)
noncomputable def Ll(x:ax):X:=fV x .bad (cst:=λc=>go (cInt c) λi=>.con (.int (.lit (-i))))
noncomputable def xUn(op:UnaryOp)(x:ax):X:=bf (isNeg op) (Ll x) (gd (ag op.ctorIdx UnaryOp.Not.ctorIdx) (.not (rec sc x)))
noncomputable def aeh(ks:List (Option ax))(vs:List ax):X:=go (m0 ks) λns=>gd (gq ns&&ag ks.length vs.length) (.dict ns (aK (rec sc) vs))
noncomputable def xLc(elt:ax)(gens:List Comprehension)(scope:Scope):X:=nu gens λg=>gd (km g.target&&o7 g.iter&&ieq g.is_async 0&&uh scope) (.comp scope (rec scope elt) (rec scope g.target) (aK (rec scope) g.ifs) (rec sc g.iter))
noncomputable def kZ(e:ax):X:=fV e .bad (cst:=Lj) (nm:=λx _=>xName sc x) (at_:=λo a _=>acu o a (.attr (rec sc o) (nm a))) (cmp:=aeg rec sc) (pM:=λop es=>.pM op (aK (rec sc) es)) (sR:=λt b o=>.sR (rec sc t) (rec sc b) (rec sc o)) (call:=aef rec sc)
 (bin:=λl op r=>.bin op (rec sc l) (rec sc r)) (sub:=Bg rec sc) (un:=xUn rec sc) (lst:=λes=>gd (noStar es) (.list (aK (rec sc) es))) (tup:=λes=>gd (noStar es) (.tup (aK (rec sc) es))) (LG:=aeh rec sc) (lc:=λelt gens scope _=>xLc rec sc elt gens scope)
noncomputable def gD(x:X):Bool:=ag x.ctorIdx 9||ag x.ctorIdx 17
noncomputable def nH(e:ax):Bool:=fV e false (pM:=λ_ _=>true) (un:=λo _=>ag o.ctorIdx UnaryOp.Not.ctorIdx)
noncomputable def AN(e:ax)(x:X):X:=gd (!(gD x)||nH e) x
noncomputable def xE(e:ax):X:=AN e (kZ rec sc e)
end
noncomputable def aw(n:Nat):Scope->ax->X:=cC (λ_ _=>.bad) (λ_ rec=>xE rec) n
noncomputable def ex(sc:Scope)(e:ax):X:=aw 30 sc e
noncomputable def xH(rec:Scope->Stmt->X)(sc:Scope)(h:ExceptHandler):X:=match h with
 | .ExceptHandler t name body _=>go t λt=>go name λn=>fV t .bad (nm:=λx _=>go (nS (nm n) sc.names) λk=>gd (ul k) (.hand (xName sc x) (nm n) (aK (rec sc) body)))
noncomputable def Gd(e:ax):Bool:=gK 23 e||(gK 20 e||gK 21 e)
noncomputable def gX(e:ax):Bool:=gK 8 e||(gK 9 e||gK 10 e)
noncomputable def Xz(e:ax):Bool:=gK 9 e||gK 10 e
noncomputable def zr(sc:Scope)(t v:ax):Bool:=fV t false (nm:=λx p=>fV v false (lc:=λ_ _ scope pos=>aj (nS (nm x) sc.names) ul&&ag p.line pos.line&&scope.names.all λq=> !(ag (nm q.1) (nm x)&&(ul q.2||lh q.2))))
noncomputable def o4(e:ax):Bool:=gK 25 e
noncomputable def uL(e:ax):Bool:=fV e false (nm:=λ_ _=>true) (at_:=λ_ _ _=>true) (sub:=λ_ _=>true) (tup:=allNames)
open Classical in
noncomputable def ny(n:Str)(c:Stmt):X:=if c=bY.st then .vy (nm n) else .bad
noncomputable def vv(x:X):Bool:=ag x.ctorIdx 4||(ag x.ctorIdx 5||(ag x.ctorIdx 7||(ag x.ctorIdx 16||ag x.ctorIdx 19)))
noncomputable def abZ(sc:Scope)(t v:ax):Bool:=(!(Xz v)&&bf (gX v) (zr sc t v) true)&&((!(o4 t&&o4 v)&&uL t)&&vv (ex sc t))
noncomputable def xS(rec:Scope->Stmt->X)(sc:Scope)(s:Stmt):X:=match s with
 | .Pass _=>.Ix
 | .Expr e _=>gd (!(gX e)) (.Iv (ex sc e))
 | .Return e _=>oe (.AW (.con .none)) (λe=>.AW (ex sc e)) e
 | .If t b o _=>.Ml (ex sc t) (aK (rec sc) b) (aK (rec sc) o)
 | .Assign ts v _=>nu ts λt=>gd (abZ sc t v) (bf (gX v) (.AU (.cons (ex sc t) .nil) (ex sc v)) (.AU (ex sc t) (ex sc v)))
 | .AugAssign t op v _=>gd (Gd t) (.KO (ex sc t) op (ex sc v))
 | .For t it body o _=>pG o (gd (km t&&o7 it) (.KQ (ex sc t) (ex sc it) (aK (rec sc) body)))
 | .While t body o _=>pG o (.GU (ex sc t) (aK (rec sc) body))
 | .Raise e c _=>go e λe=>oe (.GR (ex sc e)) (λ_=>.bad) c
 | .Try body hs o fin _=>pG o (gd (!(hs.isEmpty&&fin.isEmpty)) (.KT (aK (rec sc) body) (aK (xH rec sc) hs) (aK (rec sc) fin)))
 | .FunctionDef n a b d r tp s t i p=>gd (ag (nm n) (nm "told")) (ny n (.FunctionDef n a b d r tp s t i p))
 |_=>.bad
noncomputable def bE(n:Nat):Scope->Stmt->X:=cC (λ_ _=>.bad) (λ_ rec=>xS rec) n
noncomputable def sts(sc:Scope)(l:List Stmt):X:=aK (bE 30 sc) l
end
section
structure FX where
 ps:List (Bool×Nm)
 cells:List Nm
 defs:List AV
 body:X
noncomputable def aX(i:Nat):FI:=bf (ag i 0) bY ((FT.get i).getD ⟨.Pass default,"",0,.none,"",0,[]⟩)
noncomputable def pNames(f:FI):List Str:=(j6 f).args.map (·.arg)
noncomputable def qI(k:Option NameKind):Bool:=oe false lh k
noncomputable def cellNames(l:List (Str×NameKind)):List Str:=(l.filter λp=>lh p.2).map (·.1)
noncomputable def Ks(a:Nat)(d:List AV):Nat×FX:=(a,⟨(pNames (aX a)).map λn=>(qI ((bK (aX a)).names.lookup n),nm n),(cellNames (bK (aX a)).names).map nm,d,bf (ag a 1061) (.cons (.vy (nm "told")) (aK (bE 30 (bK (aX a))) ((dR (aX a)).drop 1))) (sts (bK (aX a)) (dR (aX a)))⟩)
noncomputable def fxN:List Nat:=[21,86,105,124,197,204,209,243,328,478,513,569,589,603,652,710,833,861,890,904,926,977,984]
noncomputable def fxD:List (Nat×FX):=Ks 0 []::(LM.filter λp=> !(fxN.any (ag p.1))).map λp=>Ks p.1 p.2.defs
noncomputable def fxS:{l:List (Nat×FX) // l=fxD}:=by
 refine ⟨?_,?b⟩
 case b=>conv=>rhs;reduce
noncomputable def eY:List (Nat×FX):=fxS.1
noncomputable def clX:List (Nat×List (Nm×Nat)):=[
 (31,[]),
 (51,[(54469456771592288,48)]),
 (70,[(54469456771592288,67)]),
 (89,[(54469456771592288,86)]),
 (108,[(54469456771592288,105)]),
 (127,[(54469456771592288,124)]),
 (186,[(54469456771592288,143),(31618284774,150),(482783025492337,157),(958132296306843775345,164),(1012472179932689938545,171),(452136525118058,178),(247280499,183)]),
 (281,[(54469456771592288,278)]),
 (302,[(54469456771592288,299)]),
 (331,[(54469456771592288,321),(257718372,328)]),
 (352,[(54469456771592288,349)]),
 (374,[(54469456771592288,371)]),
 (396,[(54469456771592288,393)]),
 (417,[(54469456771592288,414)]),
 (439,[(54469456771592288,436)]),
 (460,[(54469456771592288,457)]),
 (481,[(54469456771592288,478)]),
 (777,[(54469456771592288,774)]),
 (987,[(54469456771592288,796),(527209049502575,803),(3534713647973,811),(228144501,818),(17511603950735076580013428,825),(61844325251477880,833),(16601209929630970883603315,840),(230210534,847),(57903710463652215,854),(949348540523967510629,861),(27592030311,868),(2164103446225279963478357351,876),(122640935114748529998695,883),(7916073765589007334,890),(1013257441995946243825,897),(138035890265718584572148,904),(17653273716890998513875441,911),(1077470319637920624998,919),(7559163364677285734,926),(16588297212196825446707556,933),(16900075507950179705385316,940),(1990485634122691250531104994,948),(27631596397,955),(8425016430992030579,962),(3979003835636,969),(949348540523952697700,977),(1833843,984)])]
noncomputable def iq:Nm:=213644652
noncomputable def t4:Nm:=31370885866
noncomputable def ik:Nm:=31381617378
noncomputable def fp:Nm:=3497956783348
noncomputable def fy:Nm:=27625535597
noncomputable def pq:Nm:=1930088
noncomputable def tD:Nm:=976945006850212412148
noncomputable def jT:Nm:=3500345686242
noncomputable def jU:Nm:=3500345752806
noncomputable def ko:Nm:=1865841
noncomputable def jo:Nm:=54469456771592288
noncomputable def iu:Nm:=215724399
noncomputable def tM:Nm:=452200708780910
noncomputable def rx:Nm:=230388068
noncomputable def tG:Nm:=8061913574680557668
noncomputable def b6:TM FX:=mkT eY
noncomputable def CTX:TM (List (Nm×Nat)):=mkT clX
end
section
section
variable{Y β:Type}
noncomputable def app(a b:List Y):List Y:=aW b (λx _ r=>x::r) a
noncomputable def len(a:List Y):Nat:=aW 0 (λ_ _ n=>n+1) a
noncomputable def mp(f:Y->β)(a:List Y):List β:=aW [] (λx _ r=>f x::r) a
noncomputable def nth(a:List Y):Nat->Option Y:=aW (λ_=>none) (λx _ f n=>bf (ag n 0) (some x) (f (n - 1))) a
noncomputable def m8(a:List Y)(b:Y):Nat->List Y:=aW (λ_=>[]) (λx r f n=>bf (ag n 0) (b::r) (x::f (n - 1))) a
noncomputable def rev(a:List Y):List Y:=aW (λacc=>acc) (λx _ f acc=>f (x::acc)) a []
noncomputable def kU(a:List Y):Nat->List Y:=aW (λ_=>[]) (λx _ f n=>bf (ag n 0) [] (x::f (n - 1))) a
noncomputable def kP(a:List Y):Nat->List Y:=aW (λ_=>[]) (λx r f n=>bf (ag n 0) (x::r) (f (n - 1))) a
noncomputable def rep(a:List Y)(n:Nat):List Y:=cC [] (λ_ r=>app a r) n
noncomputable def bX(f:Y->Option β)(a:List Y):Option (List β):=aW (some []) (λx _ r=>ob (f x) λb=>ob r λl=>some (b::l)) a
noncomputable def dropLast(a:List Y):Option (List Y×Y):=aW none (λx _ r=>match r with
 |none=>some ([],x)
 |some (l,b)=>some (x::l,b)) a
noncomputable def KC(l:List Y)(i:Int):Option Y:=match i with
 | .ofNat n=>bf (aM n 1000000) (nth l n) none
 | .negSucc n=>bf (aM n 1000000&&bh n (len l)) (nth l (len l - 1 - n)) none
noncomputable def zp(ns:List Y):List β->List (Y×β):=aW (λ_=>[]) (λn _ f vs=>match vs with
 | []=>[]
 |v::r=>(n,v)::f r) ns
end
inductive cL where
 |at (i:Nat)
 |con (k:Nat) (v:AV)
structure gA where
 fi:Nat
 sub:Option Scope
 loc:Nat
 fn:AV
 cells:List (Nm×cL)
 frm:Nat
structure Cx where
 d:Nat
 u:Nat
 ups:List gA
 hd:Bool
structure Fr where
 e:gA
 c:Cx
inductive bG where
 |val (v:AV)
 |vals (l:List AV)
 |tt (b:Bool)
 |next |brk |cont
 |ret (v:AV)
 |exc (v:AV)
abbrev Kont:=bG->St->Bool
noncomputable def nn{Y β:Type}(_:Y):Option β:=none
noncomputable def eq{β:Type}(x:AV)(d:β)(no:β:=d)(bo:Bool->β:=λ_=>d)(an:β:=d)(it:AI->β:=λ_=>d)(st:SW->β:=λ_=>d)(gl:Nat->β:=λ_=>d)(rf:Nat->β:=λ_=>d)(ty:Nat->β:=λ_=>d)(bi:Nat->β:=λ_=>d)(op:Nat->β:=λ_=>d)(ins:Nat->List Nm->List AV->β:=λ_ _ _=>d)(fd:List Nm->List AV->β:=λ_ _=>d)(fl:List AV->β:=λ_=>d)(tp:List AV->β:=λ_=>d)(td:SW->β:=λ_=>d):β:=AV.rec (motive_1:=λ_=>β) (motive_2:=λ_=>Unit) no bo an it st gl rf ty bi op (λa b c _=>ins a b c) (λa b _=>fd a b) (λa _=>fl a) (λa _=>tp a) td () (λ_ _ _ _=>()) x
noncomputable def nN{β:Type}(x:AO)(d:β)(ins:Nat->Nat->β:=λ_ _=>d)(di:Nat->Bool->List (Nm×EV)->β:=λ_ _ _=>d)(li:Option Nat->List AV->β:=λ_ _=>d)(it:AV->Nat->β:=λ_ _=>d)(rg:Int->Int->β:=λ_ _=>d)(ex:Nat->Nat->β:=λ_ _=>d)(ce:Option AV->β:=λ_=>d):β:=AO.rec (motive:=λ_=>β) ins di li it rg ex ce x
noncomputable def refOf(x:AV):Option Nat:=eq x none (rf:=some)
noncomputable def intOf(x:AV):Option AI:=eq x none (it:=some)
noncomputable def strOf(x:AV):Option SW:=eq x none (st:=some)
noncomputable def boolOf(x:AV):Option Bool:=eq x none (bo:=some)
noncomputable def pi(x:AV):Option Nat:=eq x none (gl:=some)
noncomputable def Ak(x:AV):Option Nat:=eq x none (ty:=some)
noncomputable def Hr(x:AV):Option Nat:=eq x none (bi:=some)
noncomputable def gx(x:AV):Option Nat:=eq x none (op:=some)
noncomputable def j8(x:AV):Option (Nat×List Nm×List AV):=eq x none (ins:=λa b c=>some (a,b,c))
noncomputable def fdOf(x:AV):Option (List Nm×List AV):=eq x none (fd:=λa b=>some (a,b))
noncomputable def lU(x:AV):Option (List AV):=eq x none (fl:=some)
noncomputable def iM(x:AV):Option (List AV):=eq x none (tp:=some)
noncomputable def toldOf(x:AV):Option SW:=eq x none (td:=some)
noncomputable def dq(x:AV):Bool:=eq x false (no:=true)
noncomputable def isAny(x:AV):Bool:=eq x false (an:=true)
noncomputable def isBool(x:AV):Bool:=bf (isAny x) true (oe false (λ_=>true) (boolOf x))
noncomputable def nh(x:AO):Option (Nat×Nat):=nN x none (ins:=λa b=>some (a,b))
noncomputable def dU(x:AO):Option (Nat×Bool×List (Nm×EV)):=nN x none (di:=λa b c=>some (a,b,c))
noncomputable def FH(x:AO):Option (List (Nm×EV)):=ob (dU x) λq=>some q.2.2
noncomputable def asList(x:AO):Option (Option Nat×List AV):=nN x none (li:=λa b=>some (a,b))
noncomputable def zf(x:AO):Option (AV×Nat):=nN x none (it:=λa b=>some (a,b))
noncomputable def Hj(x:AO):Option (Int×Int):=nN x none (rg:=λa b=>some (a,b))
noncomputable def fA(x:AO):Option (Nat×Nat):=nN x none (ex:=λa b=>some (a,b))
noncomputable def mU(x:AO):Option (Option AV):=nN x none (ce:=some)
noncomputable def aa5(x:AO):Option Nat:=ob (fA x) λp=>some p.1
noncomputable def alt{Y β:Type}(o:Option Y)(f:Y->Option β)(z:Option β):Option β:=oe z f o
noncomputable def kh(x:EV):Option AV:=EV.rec (motive:=λ_=>Option AV) (λa0=>some a0) (none) (λ_=>none) (λ_=>none) x
noncomputable def plain1(p:Option Nat×List AV):Option (List AV):=oe (some p.2) nn p.1
noncomputable def litS(x:SW):Option (List Nat):=SW.rec (motive:=λ_=>Option (List Nat)) (λa0=>some a0) (λ_ _ _=>none) x
noncomputable def cZ(x:AI):Option Int:=AI.rec (motive:=λ_=>Option Int) (λa0=>some a0) (λ_=>none) (λ_ _ _ _=>none) (λ_ _ _ _=>none) (λ_ _ _=>none) (λ_ _ _=>none) x
noncomputable def natOf(i:Int):Option Nat:=match i with
 | .ofNat n=>some n
 | .negSucc _=>none
noncomputable def strLit(v:AV):Option (List Nat):=ob (strOf v) litS
noncomputable def dictAt(st:St)(i:Nat):Option (List (Nm×EV)):=ob (st.get i) FH
noncomputable def short{Y:Type}(l:List Y):Bool:=aM (len l) 1000000
noncomputable def kJ(st:St)(xs:List AV):Option St:=bf (short xs) (ca st (.list none xs)) none
noncomputable def c7(n:Nm)(v:EV)(l:List (Nm×EV)):List (Nm×EV):=aW [(n,v)] (λp r x=>bf (ag n p.1) ((n,v)::r) (p::x)) l
noncomputable def adN(st:St)(i:Nat)(n:Nm)(v:EV)(cap:Nat)(l:Bool)(es:List (Nm×EV)):Option St:=bf l (bf (ag cap 0) none (some (st.set i (.dict (cap - 1) true (c7 n v es))))) none
noncomputable def adO(st:St)(i:Nat)(n:Nm)(v:EV)(cap:Nat)(l:Bool)(es:List (Nm×EV)):Option St:=bf l none (bf (ag cap 0) none (some (st.set i (.dict (cap - 1) false (c7 n v es)))))
noncomputable def putD(x:AO)(st:St)(i:Nat)(n:Nm)(v:EV):Option St:=ob (dU x) λq=>adN st i n v q.1 q.2.1 q.2.2
noncomputable def KJ(x:AO)(st:St)(i:Nat)(n:Nm)(v:EV):Option St:=ob (dU x) λq=>adO st i n v q.1 q.2.1 q.2.2
noncomputable def re(st:St)(i:Nat)(n:Nm)(v:EV):Option St:=ob (st.get i) λo=>KJ o st i n v
noncomputable def putAt(st:St)(i:Nat)(n:Nm)(v:EV):Option St:=ob (st.get i) λo=>putD o st i n v
noncomputable def eA(l:List (Nat×Option Nat))(j:Nat):Option (Option Nat):=aW none (λp _ x=>bf (ag p.1 j) (some p.2) x) l
noncomputable def cD(e:AI):AV:=.inst 331 [iq,t4,ik,fp,fy] [.str (.lit [105,110,116,101,103,101,114]),.bw [.int e],.none,.bM,.bM]
noncomputable def St.jB(st:St)(b:Option (Int×Int)):St:=match st with | ⟨objs,n,ni,nv,bnd,sub,aU,x⟩=>⟨objs,n,ni+1,nv,bnd.put 11 ni b,sub,aU,x⟩
noncomputable def St.newV(st:St):St:=match st with | ⟨objs,n,ni,nv,bnd,sub,aU,x⟩=>⟨objs,n,ni,nv+1,bnd,sub,aU,x⟩
noncomputable def St.fM(st:St)(k:Nat)(o:Option Nat):St:=match st with | ⟨objs,n,ni,nv,bnd,sub,aU,x⟩=>⟨objs,n,ni,nv,bnd,sub,(k,o)::aU,x⟩
noncomputable def St.sa(st:St)(k:Nat)(i:Int):St:=match st with | ⟨objs,n,ni,nv,bnd,sub,aU,x⟩=>⟨objs,n,ni,nv,bnd,(k,i)::sub,aU,x⟩
abbrev Way:=Option AV×St
noncomputable def ab8(v:AV)(st:St):Option (List Way):=some [(some v,st)]
noncomputable def adW(k:Nat)(st:St):Option (List Way):=match eA st.aU k with
 |some o=>match o with
  |none=>some [(none,st)]
  |some j=>some [(some (cD (.var j)),st)]
 |none=>bf (aM st.ni 2000) (some [(none,st.fM k none),(some (cD (.var st.ni)),(st.jB none).fM k (some st.ni))]) none
noncomputable def adV(k:Nat)(st:St):Option (List Way):=match eA st.aU k with
 |some o=>match o with
  |none=>some [(none,st)]
  |some j=>some [(some (.int (.var j)),st)]
 |none=>bf (aM st.ni 2000) (some [(none,st.fM k none),(some (.int (.var st.ni)),(st.jB none).fM k (some st.ni))]) none
noncomputable def adU(_:St):Option (List Way):=none
noncomputable def ab9(x:EV):St->Option (List Way):=EV.rec (motive:=λ_=>St->Option (List Way)) (λa0=>ab8 a0) (adU) (λa0=>adW a0) (λa0=>adV a0) x
noncomputable def uU(st:St)(o:Option EV):Option (List Way):=oe (some [(none,st)]) (λe=>ab9 e st) o
noncomputable def cellAt(i:Nat)(st:St):Option AV:=ob (ob (st.get i) mU) id
noncomputable def FM(st:St)(c:cL):Option AV:=match c with
 | .at i=>cellAt i st
 | .con _ v=>some v
noncomputable def rN(fr:Fr)(n:Nm)(st:St):Option AV:=ob (dictAt st fr.e.loc) λes=>ob (lk n es) kh
noncomputable def zo(fr:Fr)(n:Nm)(st:St):Option AV:=ob (lk n fr.e.cells) (FM st)
noncomputable def V8(v:AV)(st:St)(c:cL):Option St:=match c with
 | .at i=>ob (ob (st.get i) mU) λ_=>some (st.set i (.cell (some v)))
 | .con _ _=>none
noncomputable def kf(fr:Fr)(n:Nm)(v:AV)(st:St):Option St:=ob (lk n fr.e.cells) (V8 v st)
noncomputable def fE(fr:Fr)(n:Nm)(v:AV)(st:St):Option St:=putAt st fr.e.loc n (.val v)
noncomputable def Vo(st:St)(i:Nat):Option (Nat×Nat×List (Nm×EV)):=ob (ob (st.get i) nh) λp=>ob (dictAt st p.2) λes=>some (p.1,p.2,es)
noncomputable def qQ:Nat:=1307993905256673975767120421215822522657964858038981454399109361598540448713207264949107550358055041357437106727558658586284420429411713316926989431133692439890892761309263653568007652370025664738436573262918019314747877677836218584168173126483097524704673135885023121488522475996154222800399237120
noncomputable def cn(C:Nat):Bool:=ag (Nat.land (wq qQ C) 1) 1
noncomputable def iT(a:Nm):Bool:=bf (ag a tM) true (bf (ag a rx) true (ag a tG))
noncomputable def l8(d:Nat)(a:Nm)(st:St):Option AV:=ob (dictAt st d) λes=>ob (lk a es) kh
noncomputable def Bn(C d:Nat)(a:Nm)(st:St):Option AV:=bf (cn C) (l8 d a st) none
noncomputable def atX(C d:Nat)(a:Nm)(st:St):Option AV:=bf (iT a) (bf (ag d 0) none (l8 d a st)) none
noncomputable def Hk(x:AO)(a:Nm)(st:St):Option AV:=alt (nh x) (λp=>Bn p.1 p.2 a st) (ob (fA x) λp=>atX p.1 p.2 a st)
noncomputable def Hl(i:Nat)(a:Nm)(st:St):Option AV:=ob (st.get i) λo=>Hk o a st
noncomputable def yg(C:Nat)(ns:List Nm)(vs:List AV)(a:Nm)(_:St):Option AV:=bf (cn C) (mh a ns vs) none
noncomputable def rj(x:AV)(a:Nm)(st:St):Option AV:=alt (refOf x) (λi=>Hl i a st) (ob (j8 x) λq=>yg q.1 q.2.1 q.2.2 a st)
noncomputable def stI(C d:Nat)(_:Nat)(a:Nm)(w:AV)(st:St):Option St:=bf (cn C) (putAt st d a (.val w)) none
noncomputable def gG(st:St)(i:Nat):Bool:=oe true (λj=> !(ag i j)) st.x
noncomputable def IJ(C i:Nat)(a:Nm)(w:AV)(st:St):Option St:=bf (gG st i&& !(ag st.n 0)) (ob (ca st (.dict 500000 true [])) λst1=>putAt (st1.set i (.exc C st.n)) st.n a (.val w)) none
noncomputable def BY(C d i:Nat)(a:Nm)(w:AV)(st:St):Option St:=bf (iT a) (bf (ag d 0) (IJ C i a w st) (putAt st d a (.val w))) none
noncomputable def acm(x:AO)(i:Nat)(a:Nm)(w:AV)(st:St):Option St:=alt (nh x) (λp=>stI p.1 p.2 i a w st) (ob (fA x) λp=>BY p.1 p.2 i a w st)
noncomputable def IC(i:Nat)(a:Nm)(w:AV)(st:St):Option St:=ob (st.get i) λo=>acm o i a w st
noncomputable def yR(C:Nat)(ns:List Nm)(vs:List AV)(a:Nm)(w:AV)(st:St):Option St:=bf (cn C) (ob (mh a ns vs) λx=>bf (isAny x&&isBool w&&(ag a fp||ag a fy)) (some st) none) none
noncomputable def tQ(x:AV)(a:Nm)(w:AV)(st:St):Option St:=alt (refOf x) (λi=>IC i a w st) (ob (j8 x) λq=>yR q.1 q.2.1 q.2.2 a w st)
noncomputable def jI{Y β J:Type}(z:J)(f:Y->β->J)(a:Option Y)(b:Option β):J:=oe z (λx=>oe z (f x) b) a
noncomputable def iJ(a b:AI):AI:=jI (.add a b) (λx y=>.lit (x+y)) (cZ a) (cZ b)
noncomputable def vq(a b:AI):AI:=jI (.mul a b) (λx y=>.lit (x* y)) (cZ a) (cZ b)
noncomputable def BQ(a:AI)(m:Nat):AI:=oe (.md a m) (λx=>.lit (wP x m)) (cZ a)
noncomputable def LH(a:AI)(m:Nat):AI:=oe (.dv a m) (λx=>.lit (qE x m)) (cZ a)
noncomputable def Hi(x:AI):Option (AI×AI):=AI.rec (motive:=λ_=>Option (AI×AI)) (λ_=>none) (λ_=>none) (λa b _ _=>some (a,b)) (λ_ _ _ _=>none) (λ_ _ _=>none) (λ_ _ _=>none) x
noncomputable def H9(x:AI):Option (AI×AI):=AI.rec (motive:=λ_=>Option (AI×AI)) (λ_=>none) (λ_=>none) (λ_ _ _ _=>none) (λa b _ _=>some (a,b)) (λ_ _ _=>none) (λ_ _ _=>none) x
noncomputable def Ky(x:AI):Option (AI×Nat):=AI.rec (motive:=λ_=>Option (AI×Nat)) (λ_=>none) (λ_=>none) (λ_ _ _ _=>none) (λ_ _ _ _=>none) (λa m _=>some (a,m)) (λ_ _ _=>none) x
noncomputable def Kb(x:AI):Option (AI×Nat):=AI.rec (motive:=λ_=>Option (AI×Nat)) (λ_=>none) (λ_=>none) (λ_ _ _ _=>none) (λ_ _ _ _=>none) (λ_ _ _=>none) (λa m _=>some (a,m)) x
noncomputable def Li(x:AI):Option Nat:=AI.rec (motive:=λ_=>Option Nat) (λ_=>none) (λk=>some k) (λ_ _ _ _=>none) (λ_ _ _ _=>none) (λ_ _ _=>none) (λ_ _ _=>none) x
noncomputable def AI.beq(a:AI):AI->Bool:=AI.rec (motive:=λ_=>AI->Bool) (λi b=>aj (cZ b) (ieq i)) (λk b=>aj (Li b) (ag k)) (λ_ _ f g b=>aj (Hi b) λx=>f x.1&&g x.2) (λ_ _ f g b=>aj (H9 b) λx=>f x.1&&g x.2) (λ_ m f b=>aj (Ky b) λx=>f x.1&&ag m x.2) (λ_ m f b=>aj (Kb b) λx=>f x.1&&ag m x.2) a
noncomputable def XK(k:Nat)(st:St):Option Int:=pv st.sub k
noncomputable def ady(x:AI):St->Option Int:=AI.rec (motive:=λ_=>St->Option Int) (λa0=>λ_=>some a0) (λa0=>XK a0) (λ_ _ f g st=>ob (f st) λx=>ob (g st) λy=>some (x+y)) (λ_ _ _ _=>nn) (λ_ _ _=>nn) (λ_ _ _=>nn) x
noncomputable def kE(st:St)(a:AI):Option Int:=ady a st
noncomputable def GJ(lo:Int)(n:Nat):List Int:=cC (λ_=>[]) (λ_ f lo=>lo::f (lo+1)) n lo
noncomputable def px(x:AI):Option Nat:=AI.rec (motive:=λ_=>Option Nat) (λ_=>none) (λa0=>some a0) (λ_ _ f g=>oe g some f) (λ_ _ _ _=>none) (λ_ _ _=>none) (λ_ _ _=>none) x
noncomputable def uY(st:St)(e:AI):Option (List (Int×St)):=oe (ob (px e) λk=>ob (st.bnd.get k) λp=>bf (bA (p.2 - p.1) 16) (bX (λi=>ob (kE (st.sa k i) e) λv=>some (v,st.sa k i)) (GJ p.1 (p.2 - p.1+1).toNat)) none) (λi=>some [(i,st)]) (kE st e)
noncomputable def both:List Bool:=[true,false]
noncomputable def eqR(p q:Int×Int):List Bool:=bf (bA p.2 q.1||bA q.2 p.1) [false] (bf (ieq p.1 p.2&&ieq q.1 q.2&&ieq p.1 q.1) [true] both)
noncomputable def Bs(st:St)(a b:AI):List Bool:=jI (bf (a.beq b) [true] (jI both eqR (rangeOf st a) (rangeOf st b))) (λx y=>[ieq x y]) (cZ a) (cZ b)
noncomputable def ltR(p q:Int×Int):List Bool:=bf (bA p.2 q.1) [true] (bf (bA p.1 q.2) both [false])
noncomputable def ltI(st:St)(a b:AI):List Bool:=jI (jI both ltR (rangeOf st a) (rangeOf st b)) (λx y=>[bA x y]) (cZ a) (cZ b)
noncomputable def lX(l:List Bool):List Bool:=mp (!·) l
noncomputable def SW.sm(w:SW):Bool:=SW.rec (motive:=λ_=>Bool) (λs=>aM (len s) 10000) (λp _ s=>aM (len p) 10000&&aM (len s) 10000) w
noncomputable def SW.I6(a b:SW):Option SW:=SW.rec (motive:=λ_=>Option SW) (λz=>SW.rec (motive:=λ_=>Option SW) (λw=>some (.lit (app z w))) (λp k s=>some (.var (app z p) k s)) b) (λp k s=>ob (litS b) λz=>some (.var p k (app s z))) a
noncomputable def SW.cat(a b:SW):Option SW:=bf (a.sm&&b.sm) (a.I6 b) none
noncomputable def SW.beq(a b:SW):Bool:=SW.rec (motive:=λ_=>Bool) (λa=>SW.rec (motive:=λ_=>Bool) (λb=>ag (enc a) (enc b)) (λ_ _ _=>false) b) (λp k s=>SW.rec (motive:=λ_=>Bool) (λ_=>false) (λp' k' s'=>ag (enc p) (enc p')&&ag k k'&&ag (enc s) (enc s')) b) a
noncomputable def Bt(a b:SW):List Bool:=jI (bf (a.beq b) [true] both) (λx y=>[ag (enc x) (enc y)]) (litS a) (litS b)
noncomputable def zS{Y:Type}(l:List Y):Bool:=aW true (λ_ _ _=>false) l
noncomputable def is1(b:Bool)(l:List Bool):Bool:=aW false (λx r _=>(x==b)&&zS r) l
noncomputable def BU(a b:List Bool):List Bool:=bf (is1 true a) [true] (bf (is1 false a) b (bf (is1 true b) [true] both))
noncomputable def yP(i:Nat)(st:St):Option (List AV):=ob (ob (st.get i) asList) plain1
noncomputable def acj(x:AV)(st:St):Option (List AV):=alt (refOf x) (λi=>yP i st) (alt (lU x) some (iM x))
noncomputable def seqItems(st:St)(v:AV):Option (List AV):=acj v st
abbrev Eq1:=AV->St->Option (List Bool)
noncomputable def AH(x:AV):Bool:=oe (oe false (λ_=>true) (strOf x)) (λ_=>true) (intOf x)
noncomputable def yt(x:AV):Option (List Bool):=bf (dq x) (some [true]) (bf (AH x) (some [false]) none)
noncomputable def yr(x:AV)(e:AI)(st:St):Option (List Bool):=alt (intOf x) (λa=>some (Bs st e a)) (bf (dq x) (some [false]) (ob (strOf x) λ_=>some [false]))
noncomputable def yu(x:AV)(e:SW):Option (List Bool):=alt (strOf x) (λa=>some (Bt e a)) (bf (dq x) (some [false]) (ob (intOf x) λ_=>some [false]))
noncomputable def EN(x:AV)(e:Bool):Option (List Bool):=ob (boolOf x) λa=>some [e==a]
noncomputable def eqA(x:AV):Eq1:=λb st=>bf (dq x) (yt b) (alt (boolOf x) (EN b) (alt (intOf x) (λa=>yr b a st) (ob (strOf x) (yu b))))
noncomputable def pV(st:St)(a b:AV):Option (List Bool):=eqA a b st
noncomputable def u8(a b:List Bool):List Bool:=bf (is1 true a) b (bf (is1 false a) [false] both)
noncomputable def pC(f:AV->AV->Option (List Bool))(a:List AV):List AV->Option (List Bool):=aW (λb=>some [zS b]) (λx _ g b=>aW (some [false]) (λy q _=>ob (f x y) λl=>ob (g q) λm=>some (u8 l m)) b) a
noncomputable def eqQ(rec:AV->AV->Option (List Bool))(x y:List AV):Option (List Bool):=bf (ag (len x) 0||ag (len y) 0) (some [ag (len x) (len y)]) (pC rec x y)
noncomputable def cy(x:AV):Bool:=oe true (λ_=>false) (iM x)
noncomputable def ji{Y:Type}(o:Option Y):Bool:=oe true (λ_=>false) o
noncomputable def xO(st:St)(a b:AV):Bool:=aj (ob (refOf a) λi=>ob (st.get i) asList) λp=>aj (ob (refOf b) λi=>ob (st.get i) asList) λq=>aj p.1 λk=>aj q.1 λj=>ag k j&&(ag (len p.2) 0&&ag (len q.2) 0)
noncomputable def deep(rec:AV->AV->Option (List Bool)):Bool:=oe false (λ_=>true) (rec (.bw [.int (.lit 0)]) (.bw [.int (.lit 0)]))
noncomputable def LJ(st:St)(rec:AV->AV->Option (List Bool))(a b:AV):Option (List Bool):=bf (cy a&&cy b) (bf (xO st a b&&deep rec) (some [true]) (ob (seqItems st a) λx=>ob (seqItems st b) λy=>eqQ rec x y)) none
noncomputable def eF(st:St)(n:Nat):AV->AV->Option (List Bool):=cC (λ_ _=>none) (λ_ rec a b=>oe (LJ st rec a b) some (pV st a b)) n
noncomputable def zF(st:St)(a:AV)(l:List AV):Option (List Bool):=aW (some [false]) (λb _ x=>ob (pV st b a) λl=>ob x λl'=>some (BU l l')) l
noncomputable def isNone(x:AV):Option Bool:=bf (dq x) (some true) (oe (some false) (λ_=>none) (gx x))
noncomputable def jE(l:List Bool)(st:St):List (AV×St):=mp (λb=>(.bool b,st)) l
noncomputable def oB(st:St)(o:Option (List Bool)):Option (List (AV×St)):=ob o λl=>some (jE l st)
noncomputable def oN(o:Option (List Bool)):Option (List Bool):=ob o λl=>some (lX l)
abbrev lZ:=AV->St->Option (List (Bool×St))
noncomputable def adj:lZ:=λ_ _=>none
noncomputable def vi(xs:List AV):lZ:=λa st=>ob (zF st a xs) λl=>some (mp (λt=>(t,st)) l)
noncomputable def AF(es:List (Nm×EV)):lZ:=λa st=>ob (strLit a) λn=>ob (uU st (lk (enc n) es)) λl=>some (mp (λp=>(p.1.isSome,p.2)) l)
noncomputable def HJ(l:Bool)(es:List (Nm×EV)):lZ:=bf l adj (AF es)
noncomputable def adi(pre:Option Nat)(xs:List AV):lZ:=λa st=>ob (plain1 (pre,xs)) λxs=>vi xs a st
noncomputable def abv(x:AO):lZ:=λa st=>alt (dU x) (λq=>HJ q.2.1 q.2.2 a st) (ob (asList x) λq=>adi q.1 q.2 a st)
noncomputable def abw(i:Nat):lZ:=λa st=>ob (st.get i) λo=>abv o a st
noncomputable def inV(x:AV):lZ:=λa st=>alt (refOf x) (λi=>abw i a st) (alt (lU x) (λl=>vi l a st) (ob (iM x) λl=>vi l a st))
noncomputable def AE(st:St)(a b:AV):Option (List (Bool×St)):=inV b a st
abbrev cE:=AV->AV->St->Option (List (AV×St))
noncomputable def cIs:cE:=λa b st=>bf (dq b) (ob (isNone a) λt=>some [(.bool t,st)]) none
noncomputable def WL:cE:=λa b st=>bf (dq b) (ob (isNone a) λt=>some [(.bool !t,st)]) none
noncomputable def cEq:cE:=λa b st=>oB st (eF st 3 a b)
noncomputable def cNe:cE:=λa b st=>oB st (oN (eF st 3 a b))
noncomputable def gZ(a b:AV)(f:AI->AI->Option (List (AV×St))):Option (List (AV×St)):=ob (intOf a) λx=>ob (intOf b) λy=>f x y
noncomputable def cLt:cE:=λa b st=>gZ a b λx y=>some (jE (ltI st x y) st)
noncomputable def cGt:cE:=λa b st=>gZ a b λx y=>some (jE (ltI st y x) st)
noncomputable def cLe:cE:=λa b st=>gZ a b λx y=>some (jE (lX (ltI st y x)) st)
noncomputable def cGe:cE:=λa b st=>gZ a b λx y=>some (jE (lX (ltI st x y)) st)
noncomputable def cIn:cE:=λa b st=>ob (AE st a b) λl=>some (mp (λp=>(.bool p.1,p.2)) l)
noncomputable def WM:cE:=λa b st=>ob (AE st a b) λl=>some (mp (λp=>(.bool !p.1,p.2)) l)
noncomputable def zq(x:CmpOp):cE:=CmpOp.rec (motive:=λ_=>cE) (cEq) (cNe) (cLt) (cLe) (cGt) (cGe) (cIs) (WL) (cIn) (WM) x
noncomputable def ml:cE:=λ_ _ _=>none
noncomputable def rH(st:St)(e:AI):Bool:=aj (rangeOf st e) λp=>bA (-9223372036854775808) p.1&&bA p.2 9223372036854775808
noncomputable def yf:cE:=λa b st=>bf (cy b) (ob (seqItems st a) λx=>ob (seqItems st b) λy=>bf (short x&&short y) (ob (kJ st (app x y)) λst'=>some [(.ref st.n,st')]) none) none
noncomputable def TI(y:AV)(x:AI)(st:St):Option (List (AV×St)):=ob (intOf y) λa=>some [(.int (iJ x a),st)]
noncomputable def TJ(y:AV)(x:SW)(st:St):Option (List (AV×St)):=ob (strOf y) λa=>ob (x.cat a) λz=>some [(.str z,st)]
noncomputable def KD(x b:AV)(st:St):Option (List (AV×St)):=alt (intOf x) (λa=>TI b a st) (alt (strOf x) (λa=>TJ b a st) (bf (cy x) (yf x b st) none))
noncomputable def adK:cE:=λa b st=>gZ a b λx y=>ob (cZ y) λy=>some [(.int (iJ x (.lit (-y))),st)]
noncomputable def yJ:cE:=λa b st=>ob (seqItems st a) λx=>ob (intOf b) λy=>ob (kE st y) λn=>bf (bA n 100000&&bA (-100000) n&&aM (len x) 100) (ob (kJ st (rep x n.toNat)) λst'=>some [(.ref st.n,st')]) none
noncomputable def KF(x b:AV)(st:St):Option (List (AV×St)):=alt (intOf x) (λa=>gZ (.int a) b λx y=>bf (rH st x||rH st y) (some [(.int (vq x y),st)]) none) (ob (refOf x) λi=>yJ (.ref i) b st)
noncomputable def oMod:cE:=λa b st=>gZ a b λx y=>ob (cZ y) λy=>ob (natOf y) λm=>bf (ag m 0) none (some [(.int (BQ x m),st)])
noncomputable def oDiv:cE:=λa b st=>gZ a b λx y=>ob (cZ y) λy=>ob (natOf y) λm=>bf (ag m 0||aM 1073741824 m) none (some [(.int (LH x m),st)])
noncomputable def adJ:cE:=λa b st=>gZ a b λx y=>ob (cZ x) λx=>ob (natOf x) λx=>ob (cZ y) λy=>ob (natOf y) λy=>bf (aM x 1000000&&aM y 1000) (some [(.int (.lit (.ofNat (x ^ y))),st)]) none
noncomputable def uG(x:Operator):cE:=Operator.rec (motive:=λ_=>cE) (KD) (adK) (KF) (ml) (ml) (oMod) (adJ) (ml) (ml) (ml) (ml) (ml) (oDiv) x
noncomputable def pe(op:Operator)(a b:AV)(st:St):Option (List (AV×St)):=ob (intOf a) λ_=>ob (intOf b) λ_=>uG op a b st
noncomputable def acD(l:List Way):Option (List (AV×St)):=bX (λp=>ob p.1 λv=>some (v,p.2)) l
noncomputable def zE(st:St)(e:AI)(n:Nat):Bool:=(oe true (λ_=>false) (kE st e)&&aM n 1000000)&&oe false (λp=>bf (bA p.1 0) false (bA p.2 n)) (rangeOf st e)
noncomputable def vp(C:List Nat)(c:Nat):Bool:=aW false (λx _ r=>bf (ag c x) true r) C
noncomputable def Lb(s:List Nat):Option Nat:=bf (bF s (vp [103,104,107,117])) (some 2) (bf (bF s (vp [120,121])) (some 3) none)
noncomputable def xA{Y:Type}(f:Y->AV)(xs:List Y)(e:AI)(st:St):Option (List (AV×St)):=ob (uY st e) λl=>bX (λp=>ob (KC xs p.1) λc=>some (f c,p.2)) l
noncomputable def HO(s:SW):cE:=λ_ i st=>ob (litS s) λs=>ob (intOf i) λe=>oe (xA (λc=>.str (.lit [c])) s e st) (λO=>some [(.aY (1000000* (O+1)+st.nv),st.newV)]) (bf (zE st e (len s)&&aM st.nv 2000) (Lb s) none)
noncomputable def AJ(es:List (Nm×EV)):cE:=λ_ i st=>ob (strLit i) λn=>ob (uU st (lk (enc n) es)) acD
noncomputable def HN(l:Bool)(es:List (Nm×EV)):cE:=bf l ml (AJ es)
noncomputable def Gf(v:AV):Bool:=oe false (λ_=>true) (intOf v)
noncomputable def vj(xs:List AV):cE:=λ_ i st=>ob (intOf i) λe=>bf (zE st e (len xs)&&(bF xs Gf&&aM st.ni 2000)) (some [(.int (.var st.ni),st.jB none)]) (xA (λv=>v) xs e st)
noncomputable def adl(pre:Option Nat)(xs:List AV):cE:=λa i st=>ob (plain1 (pre,xs)) λxs=>vj xs a i st
noncomputable def abz(x:AO):cE:=λa i st=>alt (dU x) (λq=>HN q.2.1 q.2.2 a i st) (ob (asList x) λq=>adl q.1 q.2 a i st)
noncomputable def abD(j:Nat):cE:=λa i st=>ob (st.get j) λo=>abz o a i st
noncomputable def itA(x:AV):cE:=λa i st=>alt (refOf x) (λj=>abD j a i st) (alt (strOf x) (λw=>HO w a i st) (alt (lU x) (λl=>vj l a i st) (ob (iM x) λl=>vj l a i st)))
noncomputable def o5(a i:AV)(st:St):Option (List (AV×St)):=itA a a i st
noncomputable def IA(j:Nat)(n:List Nat)(w:AV)(st:St):Option St:=re st j (enc n) (.val w)
noncomputable def Iz(j:Nat)(e:AI)(w:AV)(st:St):Option St:=ob (cZ e) λi=>ob (natOf i) λn=>ob (yP j st) λxs=>bf (bh n (len xs)&&short xs) (some (st.set j (.list none (m8 xs w n)))) none
noncomputable def ack(x:AV)(j:Nat)(w:AV)(st:St):Option St:=alt (intOf x) (λa=>Iz j a w st) (ob (strOf x) λa=>ob (litS a) λn=>IA j n w st)
noncomputable def qC(a i w:AV)(st:St):Option St:=ob (refOf a) λj=>ack i j w st
noncomputable def yQ{Y:Type}(l:List Y)(a b c:Option Int):Option (List Y):=oe (oe (ob b λj=>ob (natOf j) λn=>some (kU l n)) (λk=>bf (ieq k (-1)) (oe (some (rev l)) (λj=>bf (ieq j 0&&aM (len l) 6) (some (rev (kP l 1))) none) b) none) c) (λi=>oe (oe (ob (natOf i) λn=>some (kP l n)) (λ_=>none) b) (λ_=>none) c) a
noncomputable def xQ(a:AV)(lo hi sp:Option Int)(st:St):Option (List (AV×St)):=bf (cy a) (ob (seqItems st a) λxs=>bf (short xs) (ob (yQ xs lo hi sp) λl=>ob (kJ st l) λst'=>some [(.ref st.n,st')]) none) none
noncomputable def aaK(x:AV)(st:St):Option (List Bool):=bf (dq x) (some [false]) (bf (isAny x) (some both) (alt (boolOf x) (λb=>some [b]) (ob (intOf x) λa=>some (lX (Bs st a (.lit 0))))))
noncomputable def oP(st:St)(a:AV):Option (List Bool):=aaK a st
noncomputable def lenStr(s:SW)(_:St):Option Nat:=ob (litS s) λs=>some (len s)
noncomputable def XJ(v:AV)(st:St):Option Nat:=ob (seqItems st v) λxs=>some (len xs)
noncomputable def bR(x:AV)(st:St):Option Nat:=alt (strOf x) (λw=>lenStr w st) (XJ x st)
noncomputable def abN(st:St)(a:AV):Option Nat:=bR a st
noncomputable def isOwn(x:AV)(D:Nat)(st:St):Option Bool:=bf (dq x) (bf (cn D) (some false) none) (alt (refOf x) (λi=>ob (Vo st i) λp=>bf (cn p.1&&cn D) (some (ag p.1 D)) none) (ob (j8 x) λq=>bf (cn q.1&&cn D) (some (ag q.1 D)) none))
noncomputable def Gg(x:AV):Option Bool:=alt (strOf x) (λ_=>some true) (bf (dq x) (some false) (alt (intOf x) (λ_=>some false) (ob (boolOf x) λ_=>some false)))
noncomputable def UQ(x:AV)(a:AV)(st:St):Option Bool:=alt (pi x) (λD=>isOwn a D st) (ob (Ak x) λn=>bf (ag n 2) (Gg a) none)
noncomputable def DZ(st:St)(a c:AV):Option Bool:=UQ c a st
noncomputable def one{Y:Type}(l:List Y):Option Y:=match l with
 | [a]=>some a
 |_=>none
noncomputable def two{Y:Type}(l:List Y):Option (Y×Y):=match l with
 | [a,b]=>some (a,b)
 |_=>none
abbrev iN:=List AV->St->Option (List (AV×St))
noncomputable def zi:iN:=λl st=>ob (one l) λa=>ob (abN st a) λn=>bf (aM n 1000000) (some [(.int (.lit (.ofNat n)),st)]) none
noncomputable def zj:iN:=λl st=>ob (one l) λa=>ob (strLit a) λs=>ob (one s) λc=>some [(.int (.lit (.ofNat c)),st)]
noncomputable def Ho:iN:=λl st=>ob (two l) λp=>ob (DZ st p.1 p.2) λb=>some [(.bool b,st)]
noncomputable def yk:iN:=λl st=>ob (one l) λa=>ob (seqItems st a) λxs=>ob (kJ st xs) λst'=>some [(.ref st.n,st')]
noncomputable def xl:iN:=λl st=>ob (one l) λa=>ob (intOf a) λe=>ob (uY st e) λl=>bX (λp=>ob (ca p.2 (.du (.int (.lit p.1)) 0)) λst'=>some (.ref p.2.n,st')) l
noncomputable def I3:iN:=λ_ _=>none
noncomputable def u9(id:Nat):iN:=bf (ag id 0) zi (bf (ag id 1) zj (bf (ag id 2) Ho I3))
noncomputable def vC(id:Nat):iN:=bf (ag id 0) yk (bf (ag id 1) xl I3)
noncomputable def starts(a:List Nat)(b:List Nat):Bool:=ag (enc (kU a (len b))) (enc b)
abbrev l7:=Nm->List AV->St->Option (List (AV×St))
noncomputable def adG:l7:=λ_ _ _=>none
noncomputable def H5(s:SW):l7:=λm l st=>bf (ag m tD) (ob (litS s) λs=>ob (one l) λa=>ob (strLit a) λp=>some [(.bool (starts s p),st)]) none
noncomputable def HR(i:Nat)(pre:Option Nat)(xs:List AV):iN:=λl st=>ob (one l) λa=>bf (short xs) (some [(.none,st.set i (.list pre (app xs [a])))]) none
noncomputable def HT(i:Nat)(pre:Option Nat)(xs:List AV):iN:=λl st=>ob (one l) λa=>ob (seqItems st a) λys=>bf (short xs&&short ys&&cy a) (some [(.none,st.set i (.list pre (app xs ys)))]) none
noncomputable def HU(i:Nat)(pre:Option Nat)(xs:List AV):iN:=λl st=>match l with
 | []=>bf (short xs) (ob (dropLast xs) λp=>some [(p.2,st.set i (.list pre p.1))]) none
 |_=>none
noncomputable def Kz(pre:Option Nat)(xs:List AV):Nat->l7:=λi m l st=>bf (ag m jT) (HR i pre xs l st) (bf (ag m jU) (HT i pre xs l st) (bf (ag m ko) (HU i pre xs l st) none))
noncomputable def AM(es:List (Nm×EV)):Nat->l7:=λ_ m l st=>bf (ag m pq) (ob (one l) λa=>ob (strLit a) λn=>ob (uU st (lk (enc n) es)) λl=>some (mp (λp=>(p.1.getD .none,p.2)) l)) none
noncomputable def H4(l:Bool)(es:List (Nm×EV)):Nat->l7:=bf l (λ_=>adG) (AM es)
noncomputable def abO(x:AO)(i:Nat):l7:=λm l st=>alt (dU x) (λq=>H4 q.2.1 q.2.2 i m l st) (ob (asList x) λq=>Kz q.1 q.2 i m l st)
noncomputable def abP(i:Nat):l7:=λm l st=>ob (st.get i) λo=>abO o i m l st
noncomputable def yI(x:AV):l7:=λm l st=>alt (strOf x) (λw=>H5 w m l st) (ob (refOf x) λi=>abP i m l st)
noncomputable def gp(C:Nat)(m:Nm):Option Nat:=ob (CTX.get C) (lk m)
noncomputable def qW(v:Bool)(C:Nat):Bool:=(v&&ag C 331)||ag C 352||ag C 374||ag C 302||ag C 281||ag C 417||ag C 396
noncomputable def flagged(n:Nm)(v:AV):AV:=bf (ag n fp||ag n fy) (bf (isBool v) .bM v) v
noncomputable def vh(f:AV->St->Option (AV×St))(l:List AV):St->Option (List AV×St):=aW (λst=>some ([],st)) (λa _ g st=>ob (f a st) λp=>ob (g p.2) λq=>some (p.1::q.1,q.2)) l
noncomputable def yw(l:List (Nm×EV)):Option (List AV):=bX (λp=>kh p.2) l
noncomputable def pn(x:AO):Bool:=aj (dU x) λq=>bh 100000 q.1&&q.2.1
noncomputable def dec(n:Nat):List Nat:=cC (λ_=>[]) (λ_ f n=>bf (ag n 0) [] ((oH n 128 - 1)::f (jg n 128))) 40 n
noncomputable def AR(n:Nat):Bool:=ag (enc (dec n)) n
noncomputable def rs(p:Nm×AV):Bool:=bf (ag p.1 fp||ag p.1 fy) (isBool p.2) true
noncomputable def Ko(vec:Bool)(rec:AV->St->Option (AV×St))(i C d:Nat)(st:St):Option (AV×St):=bf (qW vec C) (bf (gG st i&&gG st d&& !(ag i d)&&aj (st.get d) pn) (ob (dictAt st d) λes=>bf (gq (mp (·.1) es)&&bF (mp (·.1) es) AR) (ob (yw es) λvs=>ob (vh rec vs ((st.drop i).drop d)) λq=>
 bf (bF (zp (mp (·.1) es) q.1) rs) (some (.inst C (mp (·.1) es) (mp (λp=>flagged p.1 p.2) (zp (mp (·.1) es) q.1)),q.2)) none) none) none) (some (.ref i,st))
noncomputable def Kr(rec:AV->St->Option (AV×St))(i:Nat)(xs:List AV)(st:St):Option (AV×St):=bf (gG st i) (ob (vh rec xs (st.drop i)) λq=>some (.bw q.1,q.2)) none
noncomputable def Kq(vec:Bool)(rec:AV->St->Option (AV×St))(i:Nat)(o:AO)(st:St):Option (AV×St):=alt (nh o) (λp=>Ko vec rec i p.1 p.2 st) (oe (some (.ref i,st)) (λxs=>Kr rec i xs st) (ob (asList o) plain1))
noncomputable def ac4(vec:Bool)(rec:AV->St->Option (AV×St))(v:AV)(st:St):Option (AV×St):=oe (some (v,st)) (λi=>oe (some (v,st)) (λo=>Kq vec rec i o st) (st.get i)) (refOf v)
noncomputable def cF(vec:Bool)(n:Nat):AV->St->Option (AV×St):=cC (λ_ _=>none) (λ_ rec=>ac4 vec rec) n
noncomputable def nk(v:AV)(st:St):Option (Nat×St):=ob (ca st (.du v 0)) λst'=>some (st.n,st')
noncomputable def abA(pre:Option Nat)(xs:List AV)(_:Nat)(v:AV)(st:St):Option (Nat×St):=ob (plain1 (pre,xs)) λ_=>nk v st
noncomputable def abB(src:AV)(_:Nat)(_:Nat)(_:AV)(st:St):Option (Nat×St):=ob (intOf src) λe=>ob (cZ e) λn=>bf (bA n 1000000&&bA (-1000000) n) (ob (ca st (.rng 0 n)) λst'=>some (st.n,st')) none
noncomputable def Kt(x:AO)(i:Nat)(v:AV)(st:St):Option (Nat×St):=alt (asList x) (λq=>abA q.1 q.2 i v st) (ob (zf x) λq=>abB q.1 q.2 i v st)
noncomputable def UX(i:Nat)(v:AV)(st:St):Option (Nat×St):=ob (st.get i) λo=>Kt o i v st
noncomputable def abC(s:SW)(v:AV)(st:St):Option (Nat×St):=ob (litS s) λ_=>nk v st
noncomputable def abE(x v:AV)(st:St):Option (Nat×St):=alt (refOf x) (λi=>UX i v st) (alt (strOf x) (λw=>abC w v st) (alt (lU x) (λ_=>nk v st) (ob (iM x) λ_=>nk v st)))
noncomputable def mZ(v:AV)(st:St):Option (Nat×St):=abE v v st
noncomputable def rV(it:Nat)(src:AV)(pos:Nat)(st:St)(o:Option AV):Option (Option AV×St):=oe (some (none,st.drop it)) (λv=>some (some v,st.set it (.du src (pos+1)))) o
noncomputable def zV(it:Nat)(src:AV)(pos:Nat)(st:St)(s:SW):Option (Option AV×St):=ob (litS s) λs=>bf (bF s λc=>bh c 128) (rV it src pos st (ob (nth s pos) λc=>some (.str (.lit [c])))) none
noncomputable def zU(it:Nat)(src:AV)(pos:Nat)(st:St):Option (Option AV×St):=ob (seqItems st src) λxs=>rV it src pos st (nth xs pos)
noncomputable def abX(src:AV)(pos:Nat)(it:Nat)(st:St):Option (Option AV×St):=oe (zU it src pos st) (zV it src pos st) (strOf src)
noncomputable def Ig(cur stop:Int)(it:Nat)(st:St):Option (Option AV×St):=bf (bA cur stop) (some (some (.int (.lit cur)),st.set it (.rng (cur+1) stop))) (some (none,st.drop it))
noncomputable def nxO(x:AO)(it:Nat)(st:St):Option (Option AV×St):=alt (zf x) (λq=>abX q.1 q.2 it st) (ob (Hj x) λq=>Ig q.1 q.2 it st)
noncomputable def kb(it:Nat)(st:St):Option (Option AV×St):=ob (st.get it) λo=>nxO o it st
noncomputable def Hp{Y:Type}(n:Nat)(args defs:List Y):Option (List Y):=bf (aM (len args) n&&aM n (len args+len defs)) (some (app args (kP defs (len defs - (n - len args))))) none
end
section
inductive Tk where
 |ex (fr:Fr) (e:X)
 |test (fr:Fr) (e:X)
 |bools (fr:Fr) (op:ey) (es:X)
 |tests (fr:Fr) (op:ey) (es:X)
 |args (fr:Fr) (es:X)
 |sts (fr:Fr) (l:X)
 |loop (fr:Fr) (t:X) (it:Nat) (body:X)
 |gY (fr:Fr) (t:X) (body:X)
 |comp (fr:Fr) (elt t ifs:X) (it acc:Nat)
 |call (c:Cx) (f:AV) (args:List AV)
abbrev Self:=Tk->St->Kont->Bool
noncomputable def rc{β:Type}(hv:AV->β)(hs:List AV->β)(ht:Bool->β)(h1 h2 h3:β)(hr:AV->β)(he:AV->β)(r:bG):β:=bG.rec hv hs ht h1 h2 h3 hr he r
noncomputable def bB{Y:Type}(_:Y)(_:St):Bool:=false
noncomputable def cP(_:St):Bool:=false
noncomputable def kv(k:Kont)(f:AV->St->Bool):Kont:=rc f bB bB cP cP cP bB (λv=>k (.exc v))
noncomputable def kvs(k:Kont)(f:List AV->St->Bool):Kont:=rc bB f bB cP cP cP bB (λv=>k (.exc v))
noncomputable def kt(k:Kont)(f:Bool->St->Bool):Kont:=rc bB bB f cP cP cP bB (λv=>k (.exc v))
noncomputable def outs(k:Kont)(o:Option (List (AV×St))):Bool:=aj o λl=>bF l λp=>k (.val p.1) p.2
noncomputable def eS(_:Self)(_:Fr)(_:St)(_:Kont):Bool:=false
noncomputable def Kf(v:AV)(_:Self)(_:Fr)(st:St)(k:Kont):Bool:=k (.val v) st
noncomputable def acO(n:Nm)(_:Self)(fr:Fr)(st:St)(k:Kont):Bool:=aj (rN fr n st) λv=>k (.val v) st
noncomputable def acM(n:Nm)(_:Self)(fr:Fr)(st:St)(k:Kont):Bool:=aj (zo fr n st) λv=>k (.val v) st
noncomputable def HA(o:X)(a:Nm)(self:Self)(fr:Fr)(st:St)(k:Kont):Bool:=self (.ex fr o) st (kv k λv st1=>aj (rj v a st1) λw=>k (.val w) st1)
noncomputable def Ke(op:CmpOp)(l r:X)(self:Self)(fr:Fr)(st:St)(k:Kont):Bool:=self (.ex fr l) st (kv k λa st1=>self (.ex fr r) st1 (kv k λb st2=>bf (aM fr.c.u 600) (outs k (zq op a b st2)) false))
noncomputable def acL(op:ey)(es:X)(self:Self)(fr:Fr)(st:St)(k:Kont):Bool:=self (.bools fr op es) st k
noncomputable def Kg(t b o:X)(self:Self)(fr:Fr)(st:St)(k:Kont):Bool:=self (.test fr t) st (kt k λc st1=>self (.ex fr (bf c b o)) st1 k)
noncomputable def qw:Nat:=104388563713612956709357816680000436447888157474946285375209467337307650767021666878568226853085722050251589579500695187280624602315105834610387357322033667187374780838988965031148805263213654448787366025742976495712799000211323895881528919833048164706542112970179359266247060244230613122401959649460783902814390771815284736
noncomputable def isKnown(a:Nat):Bool:=ag (Nat.land (wq qw a) 1) 1
noncomputable def p0(x:AV):Bool:=AV.rec (motive_1:=λ_=>Bool) (motive_2:=λ_=>Unit) (false) (λ_=>false) (false) (λ_=>false) (λ_=>false) (λa0=>isKnown a0) (λ_=>false) (λa0=>true) (λa0=>true) (λ_=>false) (λ_ _ _ _=>false) (λ_ _ _=>false) (λ_ _=>false) (λ_ _=>false) (λa0=>true) () (λ_ _ _ _=>()) x
noncomputable def HB(f es:X)(self:Self)(fr:Fr)(st:St)(k:Kont):Bool:=self (.ex fr f) st (kv k λw st1=>bf (p0 w) (self (.args fr es) st1 (kvs k λvs st2=>self (.call fr.c w vs) st2 k)) false)
noncomputable def E1(x:AO):Bool:=AO.rec (motive:=λ_=>Bool) (λa0 a1=>true) (λ_ _ _=>false) (λ_ _=>false) (λ_ _=>false) (λ_ _=>false) (λ_ _=>false) (λ_=>false) x
noncomputable def Lg(x:AV):St->Bool:=AV.rec (motive_1:=λ_=>St->Bool) (motive_2:=λ_=>Unit) (λ_=>false) (λ_=>λ_=>false) (λ_=>false) (λ_=>λ_=>false) (λ_=>λ_=>false) (λ_=>λ_=>false) (λa0=>λst=>aj (st.get a0) E1) (λ_=>λ_=>false) (λ_=>λ_=>false) (λ_=>λ_=>false) (λa0 a1 a2 _=>λ_=>true) (λ_ _ _=>λ_=>false) (λ_ _=>λ_=>false) (λ_ _=>λ_=>false) (λ_=>λ_=>false) () (λ_ _ _ _=>()) x
noncomputable def FR(o:X)(m:Nm)(es:X)(self:Self)(fr:Fr)(st:St)(k:Kont):Bool:=self (.ex fr o) st (kv k λv st1=>bf (Lg v st1) (aj (rj v m st1) λw=>bf (p0 w) (self (.args fr es) st1 (kvs k λvs st2=>self (.call fr.c w vs) st2 k)) false) false)
noncomputable def I2(m:Nm):Bool:=bf (ag m jT) true (bf (ag m jU) true (ag m ko))
noncomputable def I1(m:Nm):Bool:=ag m pq
noncomputable def aba(m:Nm):Bool:=ag m tD
noncomputable def Hn(l:Bool):Nm->Bool:=bf l (λ_=>false) I1
noncomputable def biO(x:AO)(m:Nm):Bool:=aj (dU x) (λq=>Hn q.2.1 m)||aj (asList x) λ_=>I2 m
noncomputable def aa9(i:Nat)(m:Nm)(st:St):Bool:=aj (st.get i) λo=>biO o m
noncomputable def vJ(x:AV)(m:Nm)(st:St):Bool:=aj (strOf x) (λ_=>aba m)||aj (refOf x) λi=>aa9 i m st
noncomputable def sW(v:AV)(m:Nm)(es:X)(self:Self)(fr:Fr)(st1:St)(k:Kont):Bool:=bf (vJ v m st1) (self (.args fr es) st1 (kvs k λvs st2=>outs k (yI v m vs st2))) false
noncomputable def Kx(a:Nat)(v:AV)(es:X)(self:Self)(fr:Fr)(st1:St)(k:Kont):Bool:=self (.args fr es) st1 (kvs k λvs st2=>self (.call fr.c (.glob a) (v::vs)) st2 k)
noncomputable def zQ(C d:Nat)(v:AV)(m:Nm)(es:X)(self:Self)(fr:Fr)(st1:St)(k:Kont):Bool:=bf (cn C) (aj (dictAt st1 d) λds=>oe (aj (gp C m) λa=>Kx a v es self fr st1 k) (λ_=>false) (lk m ds)) false
abbrev Mc:=AV->Nm->X->Self->Fr->St->Kont->Bool
noncomputable def Kv:Mc:=λv m es self fr st1 k=>sW v m es self fr st1 k
noncomputable def XP(C d:Nat):Mc:=λv m es self fr st1 k=>zQ C d v m es self fr st1 k
noncomputable def vn:Mc:=λ_ _ _ _ _ _ _=>false
noncomputable def Kw(x:AO):Mc:=AO.rec (motive:=λ_=>Mc) (λa0 a1=>XP a0 a1) (λa0 a1 a2=>Kv) (λa0 a1=>Kv) (λ_ _=>vn) (λ_ _=>vn) (λ_ _=>vn) (λ_=>vn) x
noncomputable def vO(v:AV)(m:Nm)(es:X)(self:Self)(fr:Fr)(st1:St)(k:Kont):Bool:=oe (sW v m es self fr st1 k) (λi=>aj (st1.get i) λo=>Kw o v m es self fr st1 k) (refOf v)
noncomputable def FP(o:X)(m:Nm)(es:X)(self:Self)(fr:Fr)(st:St)(k:Kont):Bool:=self (.ex fr o) st (kv k λv st1=>vO v m es self fr st1 k)
noncomputable def Kd(op:Operator)(l r:X)(self:Self)(fr:Fr)(st:St)(k:Kont):Bool:=self (.ex fr l) st (kv k λa st1=>self (.ex fr r) st1 (kv k λb st2=>outs k (uG op a b st2)))
noncomputable def FQ(o:X)(a b c:Option Int)(self:Self)(fr:Fr)(st:St)(k:Kont):Bool:=self (.ex fr o) st (kv k λv st1=>outs k (xQ v a b c st1))
noncomputable def HC(o i:X)(self:Self)(fr:Fr)(st:St)(k:Kont):Bool:=self (.ex fr o) st (kv k λv st1=>self (.ex fr i) st1 (kv k λw st2=>outs k (o5 v w st2)))
noncomputable def Kh(x:X)(self:Self)(fr:Fr)(st:St)(k:Kont):Bool:=self (.ex fr x) st (kv k λv st1=>aj (oP st1 v) λl=>bF l λb=>k (.val (.bool !b)) st1)
noncomputable def eList(es:X)(self:Self)(fr:Fr)(st:St)(k:Kont):Bool:=self (.args fr es) st (kvs k λvs st1=>aj (kJ st1 vs) λst2=>k (.val (.ref st1.n)) st2)
noncomputable def Ki(es:X)(self:Self)(fr:Fr)(st:St)(k:Kont):Bool:=self (.args fr es) st (kvs k λvs st1=>bf (short vs) (k (.val (.tup vs)) st1) false)
noncomputable def isNil(x:X):Bool:=X.rec (motive:=λ_=>Bool) (false) (true) (λ_ _ _ _=>false) (λ_=>false) (λ_=>false) (λ_=>false) (λ_=>false) (λ_ _ _=>false) (λ_ _ _ _ _=>false) (λ_ _ _=>false) (λ_ _ _ _ _ _=>false) (λ_ _ _ _=>false) (λ_ _ _ _ _=>false) (λ_ _ _ _ _=>false) (λ_ _ _ _ _=>false) (λ_ _ _ _ _=>false) (λ_ _ _ _=>false) (λ_ _=>false) (λ_ _=>false) (λ_ _=>false) (λ_ _ _=>false) (λ_ _ _ _ _ _ _ _ _=>false) (false) (λ_ _=>false) (λ_ _=>false) (λ_ _ _ _ _ _=>false) (λ_ _ _ _=>false) (λ_ _ _ _ _=>false) (λ_ _ _ _ _ _=>false) (λ_ _ _ _=>false) (λ_ _=>false) (λ_ _ _ _ _ _=>false) (λ_=>false) (λ_ _ _ _ _=>false) x
noncomputable def hd(x:X):Option (X×X):=X.rec (motive:=λ_=>Option (X×X)) (none) (none) (λa0 a1 _ _=>some (a0,a1)) (λ_=>none) (λ_=>none) (λ_=>none) (λ_=>none) (λ_ _ _=>none) (λ_ _ _ _ _=>none) (λ_ _ _=>none) (λ_ _ _ _ _ _=>none) (λ_ _ _ _=>none) (λ_ _ _ _ _=>none) (λ_ _ _ _ _=>none) (λ_ _ _ _ _=>none) (λ_ _ _ _ _=>none) (λ_ _ _ _=>none) (λ_ _=>none) (λ_ _=>none) (λ_ _=>none) (λ_ _ _=>none) (λ_ _ _ _ _ _ _ _ _=>none) (none) (λ_ _=>none) (λ_ _=>none) (λ_ _ _ _ _ _=>none) (λ_ _ _ _=>none) (λ_ _ _ _ _=>none) (λ_ _ _ _ _ _=>none) (λ_ _ _ _=>none) (λ_ _=>none) (λ_ _ _ _ _ _=>none) (λ_=>none) (λ_ _ _ _ _=>none) x
noncomputable def fill(d:Nat)(ns:List Nm):List AV->St->Option St:=aW (λws st=>match ws with
  | []=>some st
  |_::_=>none) (λn _ f ws st=>match ws with
  | []=>none
  |w::q=>ob (re st d n (.val w)) (f q)) ns
noncomputable def vN(self:Self)(fr:Fr)(k:Kont)(ns:List Nm):X->(List AV->St->Bool)->St->Bool:=aW (λes kk st=>bf (isNil es) (kk [] st) false)
 (λ_ _ rec es kk st=>aj (hd es) λp=>self (.ex fr p.1) st (kv k λv st1=>rec p.2 (λws st2=>kk (v::ws) st2) st1)) ns
noncomputable def zx(ns:List Nm)(es:X)(self:Self)(fr:Fr)(st:St)(k:Kont):Bool:=bf (aM (len ns) 15) (aj (ca st (.dict 100000 false [])) λst0=>vN self fr k ns es (λws st1=>aj (fill st.n ns ws st1) λst2=>k (.val (.ref st.n)) st2) st0) false
noncomputable def zC(k:NameKind):Bool:=match k with
 | .free=>true
 |_=>false
noncomputable def frees(cells:List (Nm×cL))(names:List (Str×NameKind)):Option (List (Nm×cL)):=aW (some []) (λp _ x=>bf (zC p.2) (ob (lk (nm p.1) cells) λc=>ob x λl=>some ((nm p.1,c)::l)) x) names
noncomputable def yl(fr:Fr)(scope:Scope)(cs:List (Nm×cL))(L:Nat):Fr:=⟨⟨fr.e.fi,some scope,L,fr.e.fn,cs,fr.e.frm⟩,fr.c⟩
noncomputable def Hv(kk:St->Bool):Kont:=rc bB bB bB kk cP cP bB bB
noncomputable def zu(L:Nat)(k:St->Bool)(st:St):Bool:=aj (st.get L) λao=>bf (pn ao) (k (st.drop L)) false
noncomputable def HM(x:AV):Bool:=AV.rec (motive_1:=λ_=>Bool) (motive_2:=λ_=>Unit) (false) (λ_=>false) (false) (λ_=>false) (λa0=>true) (λ_=>false) (λa0=>true) (λ_=>false) (λ_=>false) (λ_=>false) (λ_ _ _ _=>false) (λ_ _ _=>false) (λa0 _=>true) (λa0 _=>true) (λ_=>false) () (λ_ _ _ _=>()) x
noncomputable def zI(x:AO):Bool:=AO.rec (motive:=λ_=>Bool) (λ_ _=>false) (λ_ _ _=>false) (λ_ _=>false) (λa0 a1=>HM a0) (λa0 a1=>true) (λ_ _=>false) (λ_=>false) x
noncomputable def WC(x:X):Option (Scope×X×X×X×X):=X.rec (motive:=λ_=>Option (Scope×X×X×X×X)) (none) (none) (λ_ _ _ _=>none) (λ_=>none) (λ_=>none) (λ_=>none) (λ_=>none) (λ_ _ _=>none) (λ_ _ _ _ _=>none) (λ_ _ _=>none) (λ_ _ _ _ _ _=>none) (λ_ _ _ _=>none) (λ_ _ _ _ _=>none) (λ_ _ _ _ _=>none) (λ_ _ _ _ _=>none) (λ_ _ _ _ _=>none) (λ_ _ _ _=>none) (λ_ _=>none) (λ_ _=>none) (λ_ _=>none) (λ_ _ _=>none) (λa0 a1 a2 a3 a4 _ _ _ _=>some (a0,a1,a2,a3,a4)) (none) (λ_ _=>none) (λ_ _=>none) (λ_ _ _ _ _ _=>none) (λ_ _ _ _=>none) (λ_ _ _ _ _=>none) (λ_ _ _ _ _ _=>none) (λ_ _ _ _=>none) (λ_ _=>none) (λ_ _ _ _ _ _=>none) (λ_=>none) (λ_ _ _ _ _=>none) x
noncomputable def ui(scope:Scope)(cs:List (Nm×cL))(elt t ifs:X)(self:Self)(fr:Fr)(kk:Nat->Nat->St->Bool)(p:Nat×St):Bool:=aj (p.2.get p.1) λo=>bf (zI o) (aj (ca p.2 (.list none [])) λst1=>aj (ca st1 (.dict 500000 true [])) λst2=>self (.comp (yl fr scope cs st1.n) elt t ifs p.1 p.2.n) st2 (Hv (kk p.2.n st1.n))) false
noncomputable def zv(scope:Scope)(elt t ifs it:X)(self:Self)(fr:Fr)(st:St)(k:Kont):Bool:=aj (frees fr.e.cells scope.names) λcs=>self (.ex fr it) st (kv k λv st1=>aj (mZ v st1) (ui scope cs elt t ifs self fr λacc L=>zu L (k (.val (.ref acc)))))
noncomputable def dI(x:X):Self->Fr->St->Kont->Bool:=X.rec (motive:=λ_=>Self->Fr->St->Kont->Bool) (eS) (eS) (λ_ _ _ _=>eS) (λa0=>Kf a0) (λa0=>acO a0) (λa0=>acM a0) (λa0=>Kf a0) (λa0 a1 _=>HA a0 a1) (λa0 a1 a2 _ _=>Ke a0 a1 a2) (λa0 a1 _=>acL a0 a1) (λa0 a1 a2 _ _ _=>Kg a0 a1 a2) (λa0 a1 _ _=>HB a0 a1) (λa0 a1 a2 _ _=>FP a0 a1 a2) (λa0 a1 a2 _ _=>FR a0 a1 a2) (λa0 a1 a2 _ _=>Kd a0 a1 a2) (λa0 a1 a2 a3 _=>FQ a0 a1 a2 a3) (λa0 a1 _ _=>HC a0 a1) (λa0 _=>Kh a0) (λa0 _=>eList a0) (λa0 _=>Ki a0) (λa0 a1 _=>zx a0 a1) (λa0 a1 a2 a3 a4 _ _ _ _=>zv a0 a1 a2 a3 a4) (eS) (λ_ _=>eS) (λ_ _=>eS) (λ_ _ _ _ _ _=>eS) (λ_ _ _ _=>eS) (λ_ _ _ _ _=>eS) (λ_ _ _ _ _ _=>eS) (λ_ _ _ _=>eS) (λ_ _=>eS) (λ_ _ _ _ _ _=>eS) (λ_=>eS) (λ_ _ _ _ _=>eS) x
noncomputable def K7(x:X)(self:Self)(fr:Fr)(st:St)(k:Kont):Bool:=self (.test fr x) st (kt k λb st1=>k (.tt !b) st1)
noncomputable def K4(op:ey)(es:X)(self:Self)(fr:Fr)(st:St)(k:Kont):Bool:=self (.tests fr op es) st k
noncomputable def cb(x:X)(self:Self)(fr:Fr)(st:St)(k:Kont):Bool:=self (.ex fr x) st (kv k λv st1=>aj (oP st1 v) λl=>bF l λb=>k (.tt b) st1)
noncomputable def Mm:Self->Fr->St->Kont->Bool:=λ_ _ _ _=>false
noncomputable def Bu(x:X):Self->Fr->St->Kont->Bool:=X.rec (motive:=λ_=>Self->Fr->St->Kont->Bool) Mm (cb (.nil)) (λa0 a1 _ _=>cb (.cons a0 a1)) (λa0=>cb (.con a0)) (λa0=>cb (.loc a0)) (λa0=>cb (.gI a0)) (λa0=>cb (.jG a0)) (λa0 a1 _=>cb (.attr a0 a1)) (λa0 a1 a2 _ _=>cb (.cmp a0 a1 a2)) (λa0 a1 _=>K4 a0 a1) (λa0 a1 a2 _ _ _=>Mm) (λa0 a1 _ _=>cb (.call a0 a1)) (λa0 a1 a2 _ _=>cb (.HZ a0 a1 a2)) (λa0 a1 a2 _ _=>cb (.IH a0 a1 a2)) (λa0 a1 a2 _ _=>cb (.bin a0 a1 a2)) (λa0 a1 a2 a3 _=>cb (.slice a0 a1 a2 a3)) (λa0 a1 _ _=>cb (.item a0 a1)) (λa0 _=>K7 a0) (λa0 _=>cb (.list a0)) (λa0 _=>cb (.tup a0)) (λa0 a1 _=>cb (.dict a0 a1)) (λa0 a1 a2 a3 a4 _ _ _ _=>cb (.comp a0 a1 a2 a3 a4)) (cb (.Ix)) (λa0 _=>cb (.Iv a0)) (λa0 _=>cb (.AW a0)) (λa0 a1 a2 _ _ _=>cb (.Ml a0 a1 a2)) (λa0 a1 _ _=>cb (.AU a0 a1)) (λa0 a1 a2 _ _=>cb (.KO a0 a1 a2)) (λa0 a1 a2 _ _ _=>cb (.KQ a0 a1 a2)) (λa0 a1 _ _=>cb (.GU a0 a1)) (λa0 _=>cb (.GR a0)) (λa0 a1 a2 _ _ _=>cb (.KT a0 a1 a2)) (λa0=>cb (.vy a0)) (λa0 a1 a2 _ _=>cb (.hand a0 a1 a2)) x
noncomputable def Lm{β:Type}(z:β)(f:X->β->β)(l:X):β:=X.rec (motive:=λ_=>β) z z (λh _ _ r=>f h r) (λ_=>z) (λ_=>z) (λ_=>z) (λ_=>z) (λ_ _ _=>z) (λ_ _ _ _ _=>z) (λ_ _ _=>z) (λ_ _ _ _ _ _=>z) (λ_ _ _ _=>z) (λ_ _ _ _ _=>z) (λ_ _ _ _ _=>z) (λ_ _ _ _ _=>z) (λ_ _ _ _ _=>z) (λ_ _ _ _=>z) (λ_ _=>z) (λ_ _=>z) (λ_ _=>z) (λ_ _ _=>z) (λ_ _ _ _ _ _ _ _ _=>z) z (λ_ _=>z) (λ_ _=>z) (λ_ _ _ _ _ _=>z) (λ_ _ _ _=>z) (λ_ _ _ _ _=>z) (λ_ _ _ _ _ _=>z) (λ_ _ _ _=>z) (λ_ _=>z) (λ_ _ _ _ _ _=>z) (λ_=>z) (λ_ _ _ _ _=>z) l
noncomputable def b8(_:Fr)(_:AV)(_:St):Option St:=none
noncomputable def ad5(n:Nm)(fr:Fr)(v:AV)(st:St):Option St:=fE fr n v st
noncomputable def ad4(n:Nm)(fr:Fr)(v:AV)(st:St):Option St:=kf fr n v st
noncomputable def Af(x:X):Fr->AV->St->Option St:=X.rec (motive:=λ_=>Fr->AV->St->Option St) (b8) (b8) (λ_ _ _ _=>b8) (λ_=>b8) (λa0=>ad5 a0) (λa0=>ad4 a0) (λ_=>b8) (λ_ _ _=>b8) (λ_ _ _ _ _=>b8) (λ_ _ _=>b8) (λ_ _ _ _ _ _=>b8) (λ_ _ _ _=>b8) (λ_ _ _ _ _=>b8) (λ_ _ _ _ _=>b8) (λ_ _ _ _ _=>b8) (λ_ _ _ _ _=>b8) (λ_ _ _ _=>b8) (λ_ _=>b8) (λ_ _=>b8) (λ_ _=>b8) (λ_ _ _=>b8) (λ_ _ _ _ _ _ _ _ _=>b8) (b8) (λ_ _=>b8) (λ_ _=>b8) (λ_ _ _ _ _ _=>b8) (λ_ _ _ _=>b8) (λ_ _ _ _ _=>b8) (λ_ _ _ _ _ _=>b8) (λ_ _ _ _=>b8) (λ_ _=>b8) (λ_ _ _ _ _ _=>b8) (λ_=>b8) (λ_ _ _ _ _=>b8) x
noncomputable def jW(fr:Fr)(ts:X):List AV->St->Option St:=Lm (λvs st=>aW (some st) (λ_ _ _=>none) vs) (λt f vs st=>aW none (λa q _=>ob (Af t fr a st) (f q)) vs) ts
noncomputable def cB(_:Self)(_:Fr)(_:AV)(_:St)(_:Kont):Bool:=false
noncomputable def acA(n:Nm)(_:Self)(fr:Fr)(v:AV)(st:St)(k:Kont):Bool:=aj (fE fr n v st) λst1=>k .next st1
noncomputable def acz(n:Nm)(_:Self)(fr:Fr)(v:AV)(st:St)(k:Kont):Bool:=aj (kf fr n v st) λst1=>k .next st1
noncomputable def aa2(o:X)(a:Nm)(self:Self)(fr:Fr)(v:AV)(st:St)(k:Kont):Bool:=self (.ex fr o) st (kv k λw st1=>aj (tQ w a v st1) λst2=>k .next st2)
noncomputable def aa3(o i:X)(self:Self)(fr:Fr)(v:AV)(st:St)(k:Kont):Bool:=self (.ex fr o) st (kv k λw st1=>self (.ex fr i) st1 (kv k λj st2=>aj (qC w j v st2) λst3=>k .next st3))
noncomputable def acB(ts:X)(_:Self)(fr:Fr)(v:AV)(st:St)(k:Kont):Bool:=bf fr.c.hd false (bf (cy v) false (aj (seqItems st v) λvs=>aj (jW fr ts vs st) λst1=>k .next st1))
noncomputable def dc(x:X):Self->Fr->AV->St->Kont->Bool:=X.rec (motive:=λ_=>Self->Fr->AV->St->Kont->Bool) (cB) (cB) (λ_ _ _ _=>cB) (λ_=>cB) (λa0=>acA a0) (λa0=>acz a0) (λ_=>cB) (λa0 a1 _=>aa2 a0 a1) (λ_ _ _ _ _=>cB) (λ_ _ _=>cB) (λ_ _ _ _ _ _=>cB) (λ_ _ _ _=>cB) (λ_ _ _ _ _=>cB) (λ_ _ _ _ _=>cB) (λ_ _ _ _ _=>cB) (λ_ _ _ _ _=>cB) (λa0 a1 _ _=>aa3 a0 a1) (λ_ _=>cB) (λ_ _=>cB) (λa0 _=>acB a0) (λ_ _ _=>cB) (λ_ _ _ _ _ _ _ _ _=>cB) (cB) (λ_ _=>cB) (λ_ _=>cB) (λ_ _ _ _ _ _=>cB) (λ_ _ _ _=>cB) (λ_ _ _ _ _=>cB) (λ_ _ _ _ _ _=>cB) (λ_ _ _ _=>cB) (λ_ _=>cB) (λ_ _ _ _ _ _=>cB) (λ_=>cB) (λ_ _ _ _ _=>cB) x
noncomputable def isExc(C:Nat):Bool:=ag C 70||ag C 51
noncomputable def eu(C:Nat):Nat:=bf (isExc C) C (bf (isExc (xf C 128)) (xf C 128) (xf C 256))
noncomputable def lG(C:Nat):Bool:=isExc (xf C 256)
noncomputable def vl(st:St)(v:AV):Option St:=ob (refOf v) λi=>ob (ob (st.get i) fA) λp=>some (st.set i (.exc (eu p.1+256) p.2))
noncomputable def yy(st:St)(v:AV):Option Nat:=ob (refOf v) λi=>ob (ob (st.get i) aa5) λC=>some (eu C)
noncomputable def Fr.held(fr:Fr):Fr:=⟨fr.e,fr.c.d,fr.c.u,fr.c.ups,true⟩
noncomputable def uj(v:AV):Option Nat:=match v with
 | .glob a=>some a
 |_=>none
noncomputable def pF(D:Nat):Bool:=isExc D||(ag D 89||(ag D 108||ag D 127))
noncomputable def kq(r:bG)(st:St):Bool:=match r with
 | .exc v=>match refOf v,st.x with
  |some i,some j=>ag i j&&aj (ob (st.get i) fA) λp=>lG p.1
  |_,_=>false
 |_=>true
noncomputable def BK(f:AV->St->Bool):Kont:=rc f bB bB cP cP cP bB bB
noncomputable def goneN(fr:Fr)(n:Nm)(st:St):Option St:=ob (putAt st fr.e.loc n (.val .none)) λst1=>putAt st1 fr.e.loc n .unk
noncomputable def Bl(fr:Fr)(n:Nm)(k:Kont):Kont:=rc bB bB bB (λst=>aj (goneN fr n st) (k .next)) (λst=>aj (goneN fr n st) (k .brk)) (λst=>aj (goneN fr n st) (k .cont)) (λv st=>aj (goneN fr n st) (k (.ret v))) bB
noncomputable def Xu(self:Self)(fr:Fr)(v:AV)(t:X)(n:Nm)(body:X)(f:St->Kont->Bool)(st:St)(k:Kont):Bool:=bf (isNil body) false (self (.ex fr.held t) st (BK λc st1=>aj (yy st1 v) λC=>aj (uj c) λD=>bf (pF D&&kq (.exc v) st1) (bf (ag C D) (aj (fE fr n v st1) λst2=>self (.sts fr.held body) st2 (Bl fr n k)) (f st1 k)) false))
noncomputable def pj(self:Self)(fr:Fr)(v:AV)(f:St->Kont->Bool)(st:St)(k:Kont)(h:X):Bool:=match h with
 | .hand t n body=>Xu self fr v t n body f st k
 |_=>false
noncomputable def handle(self:Self)(fr:Fr)(v:AV)(hs:X):St->Kont->Bool:=Lm (λst k=>bf (kq (.exc v) st) (k (.exc v) st) false) (λh f st k=>pj self fr v f st k h) hs
noncomputable def rn(t:TM AO):TM AO:=La .nil (λ (v:Option AO)=>.leaf (match v with
  |some (.du _ _)=>none
  |some (.rng _ _)=>none
  |v=>v)) .node t
noncomputable def St.raised(st:St)(i:Nat):St:=match st with | ⟨objs,n,ni,nv,bnd,sub,aU,_⟩=>⟨rn objs,n,ni,nv,bnd,sub,aU,some i⟩
noncomputable def vg(k:Kont)(r:bG):Kont:=rc bB bB bB (λst=>bf (kq r st) (k r st) false) cP cP bB bB
noncomputable def AG(r:bG):Bool:=match r with
 | .exc _=>true
 |_=>false
noncomputable def finish(self:Self)(fr:Fr)(fin:X)(k:Kont):Kont:=λr st2=>bf (isNil fin) (k r st2) (self (.sts (bf (AG r) fr.held fr) fin) st2 (vg k r))
noncomputable def de(_:Self)(_:Fr)(_:St)(_:Kont):Bool:=false
noncomputable def GQ(_:Self)(_:Fr)(st:St)(k:Kont):Bool:=k .next st
noncomputable def GP(e:X)(self:Self)(fr:Fr)(st:St)(k:Kont):Bool:=self (.ex fr e) st (kv k λ_ st1=>k .next st1)
noncomputable def Aa(e:X)(self:Self)(fr:Fr)(st:St)(k:Kont):Bool:=self (.ex fr e) st (kv k λv st1=>k (.ret v) st1)
noncomputable def KR(t b o:X)(self:Self)(fr:Fr)(st:St)(k:Kont):Bool:=self (.test fr t) st (kt k λc st1=>self (.sts fr (bf c b o)) st1 k)
noncomputable def nextK(k:Kont)(f:St->Bool):Kont:=rc (λv=>k (.val v)) (λv=>k (.vals v)) (λv=>k (.tt v)) f (k .brk) (k .cont) (λv=>k (.ret v)) (λv=>k (.exc v))
noncomputable def rU(t v:X)(self:Self)(fr:Fr)(st:St)(k:Kont):Bool:=aj (WC v) λc=>aj (frees fr.e.cells c.1.names) λcs=>self (.ex fr c.2.2.2.2) st (kv k λv st1=>aj (mZ v st1) (ui c.1 cs c.2.1 c.2.2.1 c.2.2.2.1 self fr λacc L st=>dc t self fr (.ref acc) st (nextK k (zu L (k .next)))))
noncomputable def acf(t v:X)(self:Self)(fr:Fr)(st:St)(k:Kont):Bool:=self (.ex fr v) st (kv k λw st1=>dc t self fr w st1 k)
noncomputable def lL(t v:X)(self:Self)(fr:Fr)(st:St)(k:Kont):Bool:=oe (acf t v self fr st k) (λp=>rU p.1 v self fr st k) (hd t)
noncomputable def cg(_:Operator)(_:X)(_:Self)(_:Fr)(_:St)(_:Kont):Bool:=false
noncomputable def Lc(n:Nm)(op:Operator)(v:X)(self:Self)(fr:Fr)(st:St)(k:Kont):Bool:=aj (rN fr n st) λa=>self (.ex fr v) st (kv k λb st1=>aj (pe op a b st1) λl=>bF l λp=>aj (fE fr n p.1 p.2) λst2=>k .next st2)
noncomputable def IE(o:X)(a:Nm)(op:Operator)(v:X)(self:Self)(fr:Fr)(st:St)(k:Kont):Bool:=self (.ex fr o) st (kv k λw st1=>aj (rj w a st1) λx=>self (.ex fr v) st1 (kv k λy st2=>aj (pe op x y st2) λl=>bF l λp=>aj (tQ w a p.1 p.2) λst3=>k .next st3))
noncomputable def IF(o i:X)(op:Operator)(v:X)(self:Self)(fr:Fr)(st:St)(k:Kont):Bool:=self (.ex fr o) st (kv k λw st1=>self (.ex fr i) st1 (kv k λj st2=>aj (o5 w j st2) λl=>bF l λq=>self (.ex fr v) q.2 (kv k λy st3=>aj (pe op q.1 y st3) λl=>bF l λp=>aj (qC w j p.1 p.2) λbc=>k .next bc)))
noncomputable def ju(x:X):Operator->X->Self->Fr->St->Kont->Bool:=X.rec (motive:=λ_=>Operator->X->Self->Fr->St->Kont->Bool) (cg) (cg) (λ_ _ _ _=>cg) (λ_=>cg) (λa0=>Lc a0) (λ_=>cg) (λ_=>cg) (λa0 a1 _=>IE a0 a1) (λ_ _ _ _ _=>cg) (λ_ _ _=>cg) (λ_ _ _ _ _ _=>cg) (λ_ _ _ _=>cg) (λ_ _ _ _ _=>cg) (λ_ _ _ _ _=>cg) (λ_ _ _ _ _=>cg) (λ_ _ _ _ _=>cg) (λa0 a1 _ _=>IF a0 a1) (λ_ _=>cg) (λ_ _=>cg) (λ_ _=>cg) (λ_ _ _=>cg) (λ_ _ _ _ _ _ _ _ _=>cg) (cg) (λ_ _=>cg) (λ_ _=>cg) (λ_ _ _ _ _ _=>cg) (λ_ _ _ _=>cg) (λ_ _ _ _ _=>cg) (λ_ _ _ _ _ _=>cg) (λ_ _ _ _=>cg) (λ_ _=>cg) (λ_ _ _ _ _ _=>cg) (λ_=>cg) (λ_ _ _ _ _=>cg) x
noncomputable def acg(t:X)(op:Operator)(v:X)(self:Self)(fr:Fr)(st:St)(k:Kont):Bool:=ju t op v self fr st k
noncomputable def Iw(t it body:X)(self:Self)(fr:Fr)(st:St)(k:Kont):Bool:=self (.ex fr it) st (kv k λv st1=>aj (mZ v st1) λp=>self (.loop fr t p.1 body) p.2 k)
noncomputable def Fo(t body:X)(self:Self)(fr:Fr)(st:St)(k:Kont):Bool:=self (.gY fr t body) st k
noncomputable def xN(e:X)(self:Self)(fr:Fr)(st:St)(k:Kont):Bool:=bf fr.c.hd false<|self (.ex fr e) st (kv k λv st1=>aj (refOf v) λi=>aj (ob (st1.get i) fA) λp=>bf (isExc p.1&&gG st1 i) (k (.exc v) ((st1.set i (.exc (p.1+128) p.2)).raised i)) false)
noncomputable def Ab(body hs fin:X)(self:Self)(fr:Fr)(st:St)(k:Kont):Bool:=self (.sts fr body) st λr st1=>match r with
   | .exc v=>aj (vl st1 v) λst2=>handle self fr v hs st2 (finish self fr fin k)
   |r=>finish self fr fin k r st1
noncomputable def uV(n:Nm)(fr:Fr)(st:St)(k:Kont)(i:Nat):Bool:=match st.get i with
 |some (.cell (some (.str w)))=>bf (gG st i) (aj (fE fr n (.told w) (st.drop i)) λst1=>k .next st1) false
 |_=>false
noncomputable def Iu(n:Nm)(_:Self)(fr:Fr)(st:St)(k:Kont):Bool:=bf (ag fr.e.fi 1061&&fr.e.sub.isNone) (match lk iu fr.e.cells with
  |some (.at i)=>uV n fr st k i
  |_=>false) false
noncomputable def dp(x:X):Self->Fr->St->Kont->Bool:=X.rec (motive:=λ_=>Self->Fr->St->Kont->Bool) (de) (de) (λ_ _ _ _=>de) (λ_=>de) (λ_=>de) (λ_=>de) (λ_=>de) (λ_ _ _=>de) (λ_ _ _ _ _=>de) (λ_ _ _=>de) (λ_ _ _ _ _ _=>de) (λ_ _ _ _=>de) (λ_ _ _ _ _=>de) (λ_ _ _ _ _=>de) (λ_ _ _ _ _=>de) (λ_ _ _ _ _=>de) (λ_ _ _ _=>de) (λ_ _=>de) (λ_ _=>de) (λ_ _=>de) (λ_ _ _=>de) (λ_ _ _ _ _ _ _ _ _=>de) (GQ) (λa0 _=>GP a0) (λa0 _=>Aa a0) (λa0 a1 a2 _ _ _=>KR a0 a1 a2) (λa0 a1 _ _=>lL a0 a1) (λa0 a1 a2 _ _=>acg a0 a1 a2) (λa0 a1 a2 _ _ _=>Iw a0 a1 a2) (λa0 a1 _ _=>Fo a0 a1) (λa0 _=>xN a0) (λa0 a1 a2 _ _ _=>Ab a0 a1 a2) (λa0=>Iu a0) (λ_ _ _ _ _=>de) x
noncomputable def jh(l:List Nm):Nat->List (Nm×cL):=aW (λ_=>[]) (λp _ f base=>(p,.at base)::f (base+1)) l
noncomputable def pushCells(l:List Nm):St->Option St:=aW (λst=>some st) (λ_ _ f st=>ob (ca st (.cell none)) f) l
noncomputable def bindAll(fr:Fr)(ns:List (Bool×Nm)):List AV->St->Option St:=aW (λ_ st=>some st) (λn _ f vs st=>match vs with
 | []=>some st
 |v::q=>match bf n.1 (kf fr n.2 v st) (fE fr n.2 v st) with
   |some st'=>f q st'
   |none=>none) ns
noncomputable def leave(k:Kont):Kont:=rc bB bB bB (k (.val .none)) cP cP (λv=>k (.val v)) (λv=>k (.exc v))
noncomputable def RQ(self:Self)(x:FX)(bs:List AV)(st:St)(k:Kont)(fr:Fr):Bool:=aj (ob (ob (ca st (.dict 100000 true [])) (pushCells x.cells)) (bindAll fr x.ps bs)) λst1=>self (.sts fr x.body) st1 (leave k)
noncomputable def DU(self:Self)(c:Cx)(x:FX)(bs:List AV)(st:St)(k:Kont)(e:gA):Bool:=RQ self x bs st k ⟨e,⟨c.d+1,c.u+4,e::c.ups,c.hd⟩⟩
noncomputable def oJ(self:Self)(c:Cx)(fi:Nat)(fn:AV)(cl:List (Nm×cL))(x:FX)(args:List AV)(st:St)(k:Kont):Bool:=aj (Hp (len x.ps) args x.defs) λbs=>DU self c x bs st k ⟨fi,none,st.n,fn,app cl (jh x.cells (st.n+1)),st.n⟩
noncomputable def j0(vec:Bool)(C i:Nat)(k:Kont)(v:AV)(st2:St):Bool:=bf (dq v) (bf (qW vec C) (aj (cF vec 40 (.ref i) st2) λp=>k (.val p.1) p.2) (k (.val (.ref i)) st2)) false
noncomputable def lD(vec:Bool)(self:Self)(c:Cx)(C:Nat)(args:List AV)(st:St)(k:Kont):Bool:=
 bf (cn C||isExc C) (aj (gp C jo) λa=>bf (isExc C)
  (bf (aM 1000 (len args)) false (aj (ca st (.exc C 0)) λst2=>self (.call ⟨c.d+1,c.u+4,c.ups,c.hd⟩ (.glob a) (.ref st.n::args)) st2 (kv k (j0 vec C st.n k))))
  (aj (ca st (.dict 500000 true [])) λst1=>aj (ca st1 (.inst C st.n)) λst2=>self (.call ⟨c.d+1,c.u+4,c.ups,c.hd⟩ (.glob a) (.ref st1.n::args)) st2 (kv k (j0 vec C st1.n k)))) false
noncomputable def Xj(vec:Bool)(self:Self)(c:Cx)(a:Nat)(args:List AV)(st:St)(k:Kont):Bool:=bf (ag a 0||aM 2048 a) false (oe (lD vec self c a args st k) (λx=>oJ self c a (.glob a) [] x args st k) (b6.get a))
noncomputable def F0(self:Self)(c:Cx)(w:SW)(args:List AV)(st:St)(k:Kont):Bool:=aj (b6.get 0) λx=>oJ self c 0 .none [(iu,.con 0 (.str w))] x args st k
abbrev nK:=Bool->Self->Cx->List AV->St->Kont->Bool
noncomputable def abd(a:Nat):nK:=λvec self c args st k=>Xj vec self c a args st k
noncomputable def abe(w:SW):nK:=λ_ self c args st k=>F0 self c w args st k
noncomputable def cBi(i:Nat):nK:=λ_ _ _ args st k=>outs k (u9 i args st)
noncomputable def cTy(i:Nat):nK:=λ_ _ _ args st k=>outs k (vC i args st)
noncomputable def iQ:nK:=λ_ _ _ _ _ _=>false
noncomputable def LK(x:AV):nK:=AV.rec (motive_1:=λ_=>nK) (motive_2:=λ_=>Unit) (iQ) (λ_=>iQ) (iQ) (λ_=>iQ) (λ_=>iQ) (λa0=>abd a0) (λ_=>iQ) (λa0=>cTy a0) (λa0=>cBi a0) (λ_=>iQ) (λ_ _ _ _=>iQ) (λ_ _ _=>iQ) (λ_ _=>iQ) (λ_ _=>iQ) (λa0=>abe a0) () (λ_ _ _ _=>()) x
noncomputable def EO(vec:Bool)(self:Self)(c:Cx)(f:AV)(args:List AV)(st:St)(k:Kont):Bool:=LK f vec self c args st k
noncomputable def py(op:ey):Bool:=match op with
 | .And=>true
 | .Or=>false
abbrev IU:=Bool->Self->St->Kont->Bool
noncomputable def rEx(fr:Fr)(e:X)(_:Bool)(self:Self)(st:St)(k:Kont):Bool:=dI e self fr st k
noncomputable def ab6(fr:Fr)(e:X)(_:Bool)(self:Self)(st:St)(k:Kont):Bool:=Bu e self fr st k
noncomputable def zl(v:AV)(b:Bool):AV:=bf (isAny v) (.bool b) v
noncomputable def GG(fr:Fr)(op:ey)(es:X)(_:Bool)(self:Self)(st:St)(k:Kont):Bool:=aj (hd es) λp=>bf (isNil p.2) (self (.ex fr p.1) st k)
 (self (.ex fr p.1) st (kv k λv st1=>aj (oP st1 v) λl=>bF l λb=>bf (b==py op)
     (self (.bools fr op p.2) st1 k) (k (.val (zl v b)) st1)))
noncomputable def GH(fr:Fr)(op:ey)(es:X)(_:Bool)(self:Self)(st:St)(k:Kont):Bool:=oe (k (.tt (py op)) st) (λp=>self (.test fr p.1) st (kt k λb st1=>bf (b==py op) (self (.tests fr op p.2) st1 k) (k (.tt b) st1))) (hd es)
noncomputable def Ip(fr:Fr)(es:X)(_:Bool)(self:Self)(st:St)(k:Kont):Bool:=oe (k (.vals []) st) (λp=>self (.ex fr p.1) st (kv k λv st1=>self (.args fr p.2) st1 (kvs k λl st2=>k (.vals (v::l)) st2))) (hd es)
noncomputable def uN(k:Kont)(f:St->Bool):Kont:=rc (λv=>k (.val v)) (λv=>k (.vals v)) (λv=>k (.tt v)) f (k .next) f (λv=>k (.ret v)) (λv=>k (.exc v))
noncomputable def KK(fr:Fr)(l:X)(_:Bool)(self:Self)(st:St)(k:Kont):Bool:=oe (k .next st) (λp=>dp p.1 self fr st (nextK k (λst1=>self (.sts fr p.2) st1 k))) (hd l)
noncomputable def HX(fr:Fr)(t:X)(it:Nat)(body:X)(self:Self)(k:Kont)(p:Option AV×St):Bool:=oe (k .next p.2) (λv=>dc t self fr v p.2 (nextK k λst1=>self (.sts fr body) st1 (uN k λst2=>self (.loop fr t it body) st2 k))) p.1
noncomputable def Iq(fr:Fr)(t:X)(it:Nat)(body:X)(_:Bool)(self:Self)(st:St)(k:Kont):Bool:=bf fr.c.hd false<|aj (kb it st) (HX fr t it body self k)
noncomputable def GI(fr:Fr)(t:X)(body:X)(_:Bool)(self:Self)(st:St)(k:Kont):Bool:=self (.test fr t) st (kt k λb st1=>bf b (self (.sts fr body) st1 (uN k λst2=>self (.gY fr t body) st2 k)) (k .next st1))
noncomputable def uH(fr:Fr)(elt t ifs:X)(it acc:Nat)(self:Self)(k:Kont)(w:AV)(st3:St):Bool:=match st3.get acc with
 |some (.list none xs)=>bf (short xs) (self (.comp fr elt t ifs it acc) (st3.set acc (.list none (app xs [w]))) k) false
 |_=>false
noncomputable def zt(fr:Fr)(elt t ifs:X)(it acc:Nat)(self:Self)(k:Kont)(p:Option AV×St):Bool:=match p.1 with
 |none=>k .next p.2
 |some v=>dc t self fr v p.2 (nextK k λst1=>self (.tests fr .And ifs) st1 (kt k λb st2=>bf b
     (self (.ex fr elt) st2 (kv k (uH fr elt t ifs it acc self k))) (self (.comp fr elt t ifs it acc) st2 k)))
noncomputable def z9(fr:Fr)(elt t ifs:X)(it acc:Nat)(_:Bool)(self:Self)(st:St)(k:Kont):Bool:=bf fr.c.hd false<|aj (kb it st) (zt fr elt t ifs it acc self k)
noncomputable def z0(c:Cx)(f:AV)(args:List AV)(vec:Bool)(self:Self)(st:St)(k:Kont):Bool:=bf (aM c.d 100&&aM c.u 500) (EO vec self c f args st k) false
noncomputable def step1(tk:Tk):IU:=Tk.rec (motive:=λ_=>IU) rEx ab6 GG GH Ip KK Iq GI z9 z0 tk
abbrev iO:=Tk->St->Kont->Option Bool
noncomputable def ad0(vec:Bool)(hR:iO)(_:Nat)(self:Self):Self:=λtk st k=>oe (step1 tk vec self st k) (λb=>b) (hR tk st k)
noncomputable def ad3:Self:=λ_ _ _=>false
noncomputable def run(vec:Bool)(hR:iO)(n:Nat):Self:=cC ad3 (ad0 vec hR) n
noncomputable def kp:iO:=λ_ _ _=>none
end
structure fG where
 g:Nat
 ix:Nat
 n:Int
noncomputable def nU(d:fG):Prop:=d.g∈ [103,104,107,117]/\d.ix∈ [0,1,2]
structure SD where
 up:Bool
 v:Nat
 L:Nat
 D:Nat->fG
 r:Nat
 num:Int
noncomputable def upTo(n b:Nat):List Nat:=cC (λ_=>[]) (λ_ f i=>i::f (i+1)) n b
noncomputable def ei(ix:Nat)(e:AI):AV:=bf (ag ix 0) .none (.tup [bf (ag ix 1) (.str (.lit [99,111,117,110,116])) (.str (.lit [110,111,116,101])),.int e])
noncomputable def jq(r:Nat)(e:AI):AV:=bf (ag r 0) (.tup [.str (.lit [99,111,117,110,116]),.int e]) (bf (ag r 1) (.tup [.str (.lit [110,111,116,101]),.int e]) (.tup [.str (.lit [110,97,109,101]),.str (.lit [118+r])]))
noncomputable def lR(up:Bool):AV:=.str (.lit (bf up [60,60,45] [60,45]))
noncomputable def pB(d:fG):AV:=.tup [.str (.lit [d.g]),ei d.ix (.lit d.n)]
noncomputable def I7(d:SD):AV:=.bw (mp (λe=>pB (d.D e)) (upTo d.L 0))
noncomputable def eE(d:SD):AV:=.tup [lR d.up,.str (.lit [120+d.v]),I7 d,jq d.r (.lit d.num)]
structure kS(d:SD):Prop where
 v:d.v<=1
 L:d.L<=3
 r:d.r<=3
 D:∀e,nU (d.D e)
section
inductive NW where
 |int (e:AI)
 |row (s:List Nat) (l:List AI)
noncomputable def sZ(n:NW):AV:=NW.rec (motive:=λ_=>AV) (λe=>.int e) (λs l=>.bw (.str (.lit s)::mp (λe=>.int e) l)) n
inductive OW where
 |cp (k:Nat)
 |no
 |int (e:AI)
inductive TW where
 |at (i:Nat)
 |tree (O:Nat) (a:AV)
structure Th where
 ob:List Nat
 iw:List AI
 sw:List SW
 vw:List AV
 ow:List OW
 pw:List (Option Nat×List NW)
 tw:List TW
variable(Z:Th)
noncomputable def nZ(p:AI):Option AI:=AI.rec (motive:=λ_=>Option AI) (λi=>some (.lit i)) (λk=>nth Z.iw k) (λ_ _ f g=>ob f λx=>ob g λy=>some (.add x y)) (λ_ _ f g=>ob f λx=>ob g λy=>some (.mul x y)) (λ_ m f=>ob f λx=>some (.md x m)) (λ_ m f=>ob f λx=>some (.dv x m)) p
noncomputable def KY(p s:List Nat)(w:SW):SW:=SW.rec (motive:=λ_=>SW) (λx=>.lit (app p (app x s))) (λp' k' s'=>.var (app p p') k' (app s' s)) w
noncomputable def s8(p:SW):Option SW:=SW.rec (motive:=λ_=>Option SW) (λs=>some (.lit s)) (λp k s=>ob (nth Z.sw k) λw=>some (KY p s w)) p
noncomputable def zT(a:AV):Option AV:=bf (isAny a) none (some a)
noncomputable def trT(d:Nat)(t:TW):Option AV:=TW.rec (motive:=λ_=>Option AV) (λi=>bf (bh i 1000000) (some (.aY (1000000* d+i))) none) (λO a=>bf (ag d (O+1)) (zT a) none) t
noncomputable def v7(k:Nat):Option AV:=bf (bh k 1000000) (ob (nth Z.vw k) zT) (ob (nth Z.tw (k % 1000000)) (trT (k / 1000000)))
noncomputable def kW(p:AV):Option AV:=AV.rec (motive_1:=λ_=>Option AV) (motive_2:=λ_=>Option (List AV))
 (some .none) (λb=>some (.bool b)) (some .bM) (λe=>ob (nZ Z e) λx=>some (.int x)) (λw=>ob (s8 Z w) λx=>some (.str x)) (λn=>some (.glob n)) (λj=>ob (nth Z.ob j) λi=>some (.ref i)) (λn=>some (.typ n)) (λn=>some (.bi n))
 (v7 Z) (λC ns _ f=>ob f λl=>some (.inst C ns l)) (λns _ f=>ob f λl=>some (.d9 ns l)) (λ_ f=>ob f λl=>some (.bw l)) (λ_ f=>ob f λl=>some (.tup l)) (λw=>ob (s8 Z w) λx=>some (.told x))
 (some []) (λ_ _ f g=>ob f λx=>ob g λr=>some (x::r)) p
noncomputable def vB(p:List AV):Option (List AV):=AV.rec_1 (motive_1:=λ_=>Option AV) (motive_2:=λ_=>Option (List AV))
 (some .none) (λb=>some (.bool b)) (some .bM) (λe=>ob (nZ Z e) λx=>some (.int x)) (λw=>ob (s8 Z w) λx=>some (.str x)) (λn=>some (.glob n)) (λj=>ob (nth Z.ob j) λi=>some (.ref i)) (λn=>some (.typ n)) (λn=>some (.bi n))
 (v7 Z) (λC ns _ f=>ob f λl=>some (.inst C ns l)) (λns _ f=>ob f λl=>some (.d9 ns l)) (λ_ f=>ob f λl=>some (.bw l)) (λ_ f=>ob f λl=>some (.tup l)) (λw=>ob (s8 Z w) λx=>some (.told x))
 (some []) (λ_ _ f g=>ob f λx=>ob g λr=>some (x::r)) p
noncomputable def Be(f:Nat->EV)(g:AI->AV)(w:OW):Option EV:=OW.rec (motive:=λ_=>Option EV) (λk=>some (f k)) none (λe=>some (.val (g e))) w
noncomputable def Mo(p:EV):Option (Option EV):=EV.rec (motive:=λ_=>Option (Option EV)) (λp=>ob (kW Z p) λx=>some (some (.val x))) (some (some .unk)) (λk=>ob (nth Z.ow k) λw=>some (Be .ov cD w)) (λk=>ob (nth Z.ow k) λw=>some (Be .oi .int w)) p
noncomputable def Mn(p:List (Nm×EV)):Option (List (Nm×EV)):=aW (some []) (λh t g=>ob (Mo Z h.2) λx=>ob g λr=>oe (bf (ji (lk h.1 t)) (some r) none) (λe=>some ((h.1,e)::r)) x) p
noncomputable def Mp(p:Option Nat):Option (Option Nat×List AV):=oe (some (none,[])) (λk=>ob (nth Z.pw k) λq=>some (q.1,mp sZ q.2)) p
noncomputable def trX(p:Nat):Option Nat:=bf (ag p 0) (some 0) (ob (nth Z.ob p) λi=>bf (ag i 0) none (some i))
noncomputable def kX(p:AO):Option AO:=AO.rec (motive:=λ_=>Option AO) (λC d=>ob (nth Z.ob d) λi=>some (.inst C i)) (λcap loc es=>ob (Mn Z es) λl=>bf (aM (len es+cap) 1000000) (some (.dict cap loc l)) none) (λpre xs=>ob (Mp Z pre) λq=>ob (vB Z xs) λl=>some (.list q.1 (app q.2 l))) (λ_ _=>none) (λ_ _=>none) (λC d=>ob (trX Z d) λi=>some (.exc C i)) (λv=>oe (some (.cell none)) (λq=>ob (kW Z q) λx=>some (.cell (some x))) v) p
end
section
noncomputable def se(l:List Nat):List Nat->Bool:=aW (λb=>aW true (λ_ _ _=>false) b) (λx _ f b=>aW false (λy q _=>ag x y&&f q) b) l
noncomputable def lW{Y:Type}(l:List Y):Bool:=aW true (λ_ _ _=>false) l
noncomputable def dO(p:AV):AV->Bool:=AV.rec (motive_1:=λ_=>AV->Bool) (motive_2:=λ_=>List AV->Bool)
 dq (λb a=>aj (boolOf a) λc=>b==c) isAny (λe a=>aj (intOf a) e.beq) (λw a=>aj (strOf a) w.beq) (λn a=>aj (pi a) (ag n)) (λj a=>aj (refOf a) (ag j)) (λn a=>aj (Ak a) (ag n)) (λn a=>aj (Hr a) (ag n))
 (λk a=>aj (gx a) (ag k)) (λC ns _ f a=>aj (j8 a) λq=>ag C q.1&&se ns q.2.1&&f q.2.2) (λns _ f a=>aj (fdOf a) λq=>se ns q.1&&f q.2) (λ_ f a=>aj (lU a) f) (λ_ f a=>aj (iM a) f) (λw a=>aj (toldOf a) w.beq)
 lW (λ_ _ f g l=>aW false (λx r _=>f x&&g r) l) p
noncomputable def iL(p:List AV):List AV->Bool:=aW lW (λh _ g l=>aW false (λx r _=>dO h x&&g r) l) p
noncomputable def fR(e:AI):List AI×Int:=AI.rec (motive:=λ_=>List AI×Int) (λi=>([],i)) (λk=>([.var k],0)) (λ_ _ x y=>(app x.1 y.1,x.2+y.2)) (λa b _ _=>([.mul a b],0)) (λa m _=>([.md a m],0)) (λa m _=>([.dv a m],0)) e
noncomputable def Kl(l:List AI):List AI->Bool:=aW lW (λx _ f b=>aW false (λy r _=>x.beq y&&f r) b) l
noncomputable def Ac(x y:AI):Bool:=Kl (fR x).1 (fR y).1&&ieq (fR x).2 (fR y).2
noncomputable def ach(a q:AV):Bool:=aj (intOf a) λx=>aj (intOf q) λy=>Ac x y
noncomputable def sV(a q:AV):Bool:=bf (isAny q) (isBool a) (bf (dO q a) true (ach a q))
noncomputable def abh{Y:Type}(l:List Y):Option (List Y):=aW none (λ_ r _=>some r) l
noncomputable def Ag(l:List AI)(i:Int):AI:=aW (.lit i) (λa _ x=>.add a x) l
noncomputable def restOf(st:St)(hi:Int)(k:Nat)(e:AI):Option AI:=ob (abh (fR e).1) λr=>bf (Ac e (.add (.var k) (Ag r (fR e).2))) (ob (rangeOf st (Ag r (fR e).2)) λp=>bf (bA p.1 0||bA hi p.2) none (some (Ag r (fR e).2))) none
noncomputable def KI(x:EV):Option Nat:=EV.rec (motive:=λ_=>Option Nat) (λ_=>none) none (λa0=>some a0) (λ_=>none) x
noncomputable def KG(x:EV):Option Nat:=EV.rec (motive:=λ_=>Option Nat) (λ_=>none) none (λ_=>none) (λa0=>some a0) x
noncomputable def zJ(p:EV):Bool:=EV.rec (motive:=λ_=>Bool) (λ_=>false) true (λ_=>false) (λ_=>false) p
noncomputable def leE(a q:EV):Bool:=EV.rec (motive:=λ_=>Bool) (λq=>aj (kh a) λx=>sV x q) true (λk=>aj (KI a) (ag k)) (λk=>aj (KG a) (ag k)) q
noncomputable def Me(a q:List (Nm×EV)):Bool:=bF q (λe=>bf (zJ e.2) true (aj (lk e.1 a) λx=>leE x e.2))&&bF a λe=>oe false (λ_=>true) (lk e.1 q)
noncomputable def eqP(p a:Option Nat):Bool:=oe (ji a) (λk=>aj a (ag k)) p
noncomputable def leX(a:Nat×Nat)(C d:Nat):Bool:=ag (eu a.1) (eu C)&&(!(isExc C)&&(!(lG C)&&ag d a.2))
noncomputable def sU(a q:AO):Bool:=AO.rec (motive:=λ_=>Bool) (λC d=>aj (nh a) λx=>ag C x.1&&ag d x.2) (λcap loc es=>aj (dU a) λx=>(loc==x.2.1)&&(aM (len es+cap) 1000000&&Me x.2.2 es)) (λpre xs=>aj (asList a) λx=>eqP pre x.1&&iL xs x.2) (λ_ _=>false) (λ_ _=>false) (λC d=>aj (fA a) λx=>leX x C d)
 (λv=>aj (mU a) λx=>oe (ji x) (λq=>aj x (dO q)) v) q
end
section
noncomputable def rR{Y:Type}(l:List (Option Y)):Nat->TM Y->TM Y:=aW (λ_ t=>t) (λo _ f j t=>f (j+1) (t.put 11 j o)) l
noncomputable def putAll{Y:Type}(is:List Nat):List Y->TM Y->TM Y:=aW (λ_ t=>t) (λi _ f qs t=>aW t (λq r _=>f r (t.put 11 i (some q))) qs) is
noncomputable def c6(objs:List AO)(bs:List (Option (Int×Int)))(nv:Nat):St:=⟨rR (mp some objs) 0 .nil,len objs,len bs,nv,rR bs 0 .nil,[],[],none⟩
noncomputable def yK(a:AO):Bool:=oe true (λq=>bf q.2.1 (bh 100000 q.1) true) (dU a)
noncomputable def L5(Z:Th)(st:St)(sel:List Nat):List AO->Bool:=aW lW (λi _ f ps=>aW false (λp r _=>(bh i st.n&&aj (st.get i) λa=>yK a&&aj (kX Z p) (sU a))&&f r) ps) sel
noncomputable def fQ(Z:Th)(st:St)(objs:List AO):Bool:=ji st.x&&((gq Z.ob&&aM (len objs) 2010)&&L5 Z st Z.ob objs)
structure Cs where
 ex:Bool
 res:AV
 objs:List AO
 m:Nat
 bs:List (Option (Int×Int))
 nv:Nat
noncomputable def oR(cs:Cs)(res:AV)(objs:List AO):Cs:=⟨cs.ex,res,objs,cs.m,cs.bs,cs.nv⟩
noncomputable def pD(Z:Th)(st:St)(ls:List Nat):List AO->Bool:=aW lW (λi _ f ps=>aW false (λp r _=>(aj (st.get i) λa=>aj (kX Z p) (sU a))&&f r) ps) ls
noncomputable def fK(r:bG):Option (Bool×AV):=bG.rec (motive:=λ_=>Option (Bool×AV)) (λv=>some (false,v)) nn nn none none none nn (λv=>some (true,v)) r
noncomputable def iB(Z:Th)(st:St)(r:bG)(n:Nat)(nw:List Nat)(cs:Cs):Bool:=(aj (fK r) (λq=>(q.1==cs.ex)&&aj (kW Z cs.res) (sV q.2))&&bf cs.ex ((aj st.x λe=>aj (nth nw 0) (ag e))&&aj (refOf cs.res) (ag n)) (ji st.x))&&(((ag (len nw) cs.m&&gq nw)&&bF nw λj=>aM n j&&bh j st.n)&&(se (app (upTo n 0) nw) Z.ob&&pD Z st Z.ob cs.objs))
noncomputable def sg(Z:Th)(st:St)(r:bG)(n:Nat)(nw:List Nat)(cs:Cs):Bool:=(aj (fK r) (λq=>q.1==cs.ex)&&bf cs.ex ((aj st.x λe=>aj (nth nw 0) (ag e))&&aj (refOf cs.res) (ag n)) (ji st.x))&&(((ag (len nw) cs.m&&gq nw)&&bF nw λj=>aM n j&&bh j st.n)&&(se (app (upTo n 0) nw) Z.ob&&pD Z st Z.ob cs.objs))
noncomputable def Im(Z:Th)(st:St)(cs:Cs)(ps:List (Nat×Option Nat)):Option St:=ob (bX (kX Z) cs.objs) λqs=>some (match st with | ⟨objs,n,ni,nv,bnd,sub,aU,_⟩=>⟨putAll Z.ob qs objs,n+cs.m,ni+len cs.bs,nv+cs.nv,rR cs.bs ni bnd,sub,app ps aU,bf cs.ex (some n) none⟩)
noncomputable def yL(a:AO):Bool:=oe true (λp=> !(isExc p.1)) (fA a)
noncomputable def fH(Z:Th)(st:St)(cs:Cs)(ps:List (Nat×Option Nat))(k:Kont):Bool:=(aM (st.n+cs.m) 2010&&(aM (st.ni+len cs.bs) 2040&&bF cs.objs yL))&&aj (Im Z st cs ps) λst3=>aj (kW Z cs.res) λr=>k (bf cs.ex (.exc r) (.val r)) st3
noncomputable def Th.grow(Z:Th)(m n mi ni mv nv:Nat):Th:=⟨app Z.ob (upTo m n),app Z.iw (mp .var (upTo mi ni)),Z.sw,Z.vw,Z.ow,Z.pw,app Z.tw (mp .at (upTo mv nv))⟩
noncomputable def Th.on(Z:Th)(st:St)(cs:Cs):Th:=Z.grow cs.m st.n (len cs.bs) st.ni cs.nv st.nv
noncomputable def iR(d u:Nat)(c:Cx):Bool:=aM c.d d&&(aM c.u u&& !c.hd)
noncomputable def o8(f:Nat->Cx->List AV->St->Kont->Option Bool):iO:=λtk st k=>Tk.rec (motive:=λ_=>Option Bool) (λ_ _=>none) (λ_ _=>none) (λ_ _ _=>none) (λ_ _ _=>none) (λ_ _=>none) (λ_ _=>none) (λ_ _ _ _=>none) (λ_ _ _=>none) (λ_ _ _ _ _ _=>none)
 (λc g args=>oe none (λa=>f a c args st k) (pi g)) tk
noncomputable def nl(b:Bool)(p:AV):Bool:=AV.rec (motive_1:=λ_=>Bool) (motive_2:=λ_=>Bool) true (λ_=>true) true (λe=>aj (cZ e) λ_=>true) (λw=>aj (litS w) λ_=>true) (λ_=>true) (λj=>b&&ag j 7) (λ_=>true) (λ_=>true) (λ_=>false) (λ_ _ _ f=>f) (λ_ _ f=>f) (λ_ f=>f) (λ_ f=>f) (λw=>aj (litS w) λ_=>true) true (λ_ _ f g=>f&&g) p
end
noncomputable def cv(w:SW):AV:=.inst 352 [iq,iu,ik] [(.str (.lit [115,121,109,98,111,108])),.str w,.none]
noncomputable def iA(items:List AV):AV:=.inst 374 [iq,t4,244986229,ik,215578724] [(.str (.lit [108,97,110,103,117,97,103,101])),.bw items,.bw (mp (λ_=>.none) items),.none,.none]
noncomputable def abR:AV:=.inst 302 [iq,ik] [(.str (.lit [109,105,115,115,105,110,103])),.none]
noncomputable def kO(kind nm:List Nat)(sp:Bool)(fn:AV):AV:=.inst 417 [iq,iu,482782989629684,14311,30582520296,ik] [.str (.lit kind),.str (.lit nm),.bool sp,fn,(.str (.lit [])),.none]
noncomputable def nameOf(c:Nat):List Nat:=bf (ag c 118) [118,97,108,117,101] [c]
noncomputable def I8(formals:List (List Nat))(order:List Nat):AV:=.inst 396 [iq,513945146030183,257521763,1964006,ik] [(.str (.lit [99,108,111,115,117,114,101])),.bw (mp (λx=>.tup [.str (.lit x),abR]) formals),iA (cv (.lit [109,105,120])::mp (λc=>cv (.lit (nameOf c))) order),.ref 7,.none]
noncomputable def qV(a b:AI):AO:=.dict 300000 true [(31631062381,.val (.int (.lit 20000))),(137897393964758924605550,.val (.int (.lit 40))),(31377177332,.val (.int a)),(136716016479375554671471,.val (.int b)),(215822691,.val (.ref 3)),(513945122911976,.val (.ref 7)),(4013342374375,.val (.ref 10)),(1932144,.val (.ref 11)),(65763434053824888,.unk),(65811504112071017,.unk),(65820743962538867,.unk),(514221085094261,.unk),(452372754937207,.val .bM),(518412996246372,.val .none),(1068097212426563171685,.val .none),(8344527368433055092,.val .none),(3978985009528,.unk),(65191862194697061,.val .none),(6900,.unk)]
noncomputable def Az(num:Int)(par:AV)(frame locks:Nat):AO:=.dict 400000 true [(iq,.val ((.str (.lit [101,110,118,105,114,111,110,109,101,110,116])))),(3978959764335,.val (.int (.lit num))),(4050101530993,.val par),(ik,.val .none),(27612723687,.val (.ref frame)),(3497942136941,.val (.bool false)),(31366658157,.val (.ref locks))]
noncomputable def aa8:AO:=.dict 90000 false [(124,.val (kO [115,112,101,99,105,97,108] [123] true (.glob 732))),(5949,.val (kO [115,112,101,99,105,97,108] [60,45] true (.glob 753))),(761533,.val (kO [115,112,101,99,105,97,108] [60,60,45] true (.glob 760))),(104,.val (kO [98,117,105,108,116,105,110] [103] false (.told (.lit [103])))),(105,.val (kO [98,117,105,108,116,105,110] [104] false (.told (.lit [104])))),(761576,.val (kO [98,117,105,108,116,105,110] [103,60,45] false (.told (.lit [103,60,45])))),(761577,.val (kO [98,117,105,108,116,105,110] [104,60,45] false (.told (.lit [104,60,45])))),(1996142,.val (kO [98,117,105,108,116,105,110] [109,105,120] false (.told (.lit [109,105,120])))),(215840879,.val (kO [98,117,105,108,116,105,110] [110,111,116,101] false (.glob 1068)))]
noncomputable def rL(k ks:EV)(b:Nat):AO:=.dict 80000 false [(108,k),(761580,ks),(121,.ov b),(122,.ov (b+1))]
noncomputable def adF(b:Nat):AO:=.dict 80000 false [(121,.ov b),(122,.ov (b+1))]
noncomputable def yq:AO:=.dict 90000 false []
noncomputable def kT:EV:=.val (.aY 1000000)
noncomputable def sT:EV:=.val (.aY 1000001)
noncomputable def rQ(ins:Bool)(k ks:EV)(i fr o:AO)(b:Nat):List AO:=app [i,.inst 987 0,Az 0 .none 4 5,.inst 439 2,aa8,yq,Az 1 (.ref 3) 8 9,.inst 439 6,rL k ks b,yq,fr,o]
 (bf ins [Az 2 (.ref 7) 14 15,.inst 439 12,adF (b+2),yq] [])
noncomputable def Gs:AO:=.list (some 0) []
noncomputable def vr:AO:=.list none []
noncomputable def cK(o1:List Nat):AV:=I8 [[120],[105]] o1
noncomputable def cS(o2:List Nat):AV:=I8 [[120],[105],[118,97,108,117,101]] o2
noncomputable def mE(ins:Bool):Nat:=bf ins 16 12
noncomputable def envOf(ins:Bool):AV:=bf ins (.ref 13) (.ref 7)
noncomputable def listAt(st:St)(i:Nat):Option (Option Nat×List AV):=ob (st.get i) asList
noncomputable def wordAt(st:St)(d:Nat)(n:Nm):Option AI:=ob (dictAt st d) λes=>ob (lk n es) λe=>ob (kh e) intOf
noncomputable def Hx(msg:SW):AO:=.dict 400000 true [(tM,.val (.str msg)),(rx,.unk),(tG,.unk)]
noncomputable def KA(l:List AI):AI:=aW (λt=>t) (λo _ f t=>f (BQ (iJ (vq t (.lit 31)) o) 1009)) l (.lit 3)
noncomputable def ri(set:Bool)(g:Nat):List Nat:=bf set [g,60,45] [g]
noncomputable def adH:List Nat:=[109,105,120]
noncomputable def abW(n:List Nat):List Nat:=app [99,111,117,108,100,32,110,111,116,32,102,105,110,100,32,102,117,110,99,116,105,111,110,32,34] (app n [34])
noncomputable def abV:List Nat:=[97,114,103,117,109,101,110,116,32,34,105,34,32,105,115,32,109,105,115,115,105,110,103,44,32,119,105,116,104,32,110,111,32,100,101,102,97,117,108,116]
noncomputable def L8(ix:Nat):List AI:=bf (ag ix 0) [] [.var 2]
noncomputable def L7(ix:Nat):List NW:=bf (ag ix 2) [.int (.var 2)] []
noncomputable def adr(ix:Nat)(o:List Nat):Option (List AI):=aW (some []) (λc _ r=>bf (ag c 105) (bf (ag ix 0) none (ob r λl=>some (.var 2::l))) (ob r λl=>some (bf (ag c 120) (.var 0) (.var 1)::l))) o
noncomputable def ac9(o:List Nat):Bool:=aW false (λc _ r=>ag c 105||r) o
structure jy where
 res:Option AI
 msg:List Nat
 notes:List NW
noncomputable def Ad(set:Bool)(g ix:Nat)(o:List Nat):jy:=
 bf (ag g 117) ⟨none,abW (ri set g),[]⟩
 (bf (ag g 107) (oe ⟨none,abV,[]⟩ (λl=>⟨some (KA l),[],app (bf (ac9 o) (L7 ix) []) [.row adH l]⟩) (adr ix o))
 ⟨some (KA (.lit g:: .var 0::app (L8 ix) (bf set [.var 1] []))),[],app (L7 ix) [.row (ri set g) (.var 0::app (L8 ix) (bf set [.var 1] []))]⟩)
noncomputable def eD(ix:Nat)(e:AI):List AV:=bf (ag ix 0) [] (bf (ag ix 1) [cD e] [iA [cv (.lit [110,111,116,101]),cD e]])
noncomputable def stepT(g ix:Nat):AV:=iA (cv (.lit [g]):: .aY 1000002::eD ix (.var 2))
noncomputable def LO(ins:Bool):AO:=.list none (bf ins [.aY 0] [])
noncomputable def LC:List (Option (Int×Int)):=[none,none,none,some (0,15000),some (2,15000),none]
noncomputable def yN(ins:Bool)(k ks:EV):List AO:=rQ ins k ks (qV (.var 3) (.var 4)) (LO ins) Gs 0
noncomputable def kOf(b:Bool)(o1:List Nat):EV:=bf b (.val (cK o1)) kT
noncomputable def AK(b:Bool)(o2:List Nat):EV:=bf b (.val (cS o2)) sT
noncomputable def aaX:AV:=.inst 374 [] []
noncomputable def mb:Cx:=⟨40,180,[],false⟩
noncomputable def zd(set ins:Bool)(g ix:Nat):List AV:=app (.ref 1::stepT g ix::cD (.var 0)::bf set [cD (.var 1),envOf ins] [envOf ins]) [aaX]
noncomputable def mM:Nm:=enc [115,116,101,112,115]
noncomputable def m7:Nm:=enc [110,101,120,116,95,110,117,109,98,101,114]
noncomputable def LA:List (Option (Int×Int)):=[some (0,60),some (0,60)]
noncomputable def Fi(ins:Bool):List AO:=rQ ins kT sT (qV (.add (.var 3) (.var 6)) (.add (.var 4) (.var 7))) (LO ins) (.list (some 1) []) 0
noncomputable def pR(ins:Bool)(res:Bool):Cs:=bf res ⟨false,cD (.var 5),Fi ins,0,LA,0⟩ ⟨true,.ref (mE ins),app (Fi ins) [.exc 198 (mE ins+1),Hx (.var [] 0 [])],2,LA,0⟩
noncomputable def zD(i:Nat)(st:St):Option St:=ob (bf (gG st i) (listAt st i) none) λq=>ob (vh (cF true 8) q.2 st) λp=>ob (listAt p.2 i) λ_=>some (p.2.set i (.list q.1 p.1))
noncomputable def excOf(r:bG)(st:St):List Nat:=oe [] (λq=>bf q.1 (oe [] (λe=>oe [] (λp=>[e,p.2]) (ob (st.get e) fA)) (refOf q.2)) []) (fK r)
noncomputable def si(b:Bool)(a:AV)(i:Nat):TW:=bf b (.tree 0 a) (.at i)
noncomputable def lH(o:jy):Bool:=oe false (λ_=>true) o.res
noncomputable def Ah(ins bk bs:Bool)(o1 o2:List Nat)(o:jy)(nw:List Nat)(p q:AI):Th:=⟨app (upTo (mE ins) 0) nw,[.var 0,.var 1,.var 2,.var 3,.var 4,oe (.var 5) (λw=>w) o.res,p,q],[.lit o.msg],bf ins [.aY 0] [],[.cp 0,.cp 1,.cp 2,.cp 3],[(some 0,[]),(some 0,o.notes)],[si bk (cK o1) 0,si bs (cS o2) 1,.at 2]⟩
noncomputable def HP(ins bk bs:Bool)(o1 o2:List Nat)(o:jy):Kont:=λr st=>aj (wordAt st 0 mM) λa=>aj (wordAt st 0 m7) λb=>aj (restOf st 60 3 a) λp=>aj (restOf st 60 4 b) λq=>aj (zD 11 st) λbc=>iB (Ah ins bk bs o1 o2 o (excOf r bc) p q) bc r (mE ins) (excOf r bc) (pR ins (lH o))
noncomputable def gE(set:Bool)(g:Nat):Bool:=bf set false (ag g 107)
noncomputable def gF(set:Bool)(g:Nat):Bool:=bf set (ag g 107) false
noncomputable def jC(set:Bool)(g ix:Nat)(o1 o2:List Nat):jy:=Ad set g ix (bf set o2 o1)
noncomputable def im(set ins:Bool)(g ix:Nat)(o1 o2:List Nat):Bool:=run true kp 3000 (.call mb (.glob (bf set 703 688)) (zd set ins g ix)) (c6 (yN ins (kOf (gE set g) o1) (AK (gF set g) o2)) LC 3) (HP ins (gE set g) (gF set g) o1 o2 (jC set g ix o1 o2))
noncomputable def kH:List (List Nat):=[[120,105],[105,120],[120]]
noncomputable def kI:List (List Nat):=[[120,105,118],[118,105,120],[105,118,120],[120,118],[118,120]]
noncomputable def KH(a b:SW):AO:=.list none [.str a,.str b]
noncomputable def vx:AO:=KH (.var [] 0 []) (.var [] 1 [])
noncomputable def KN(set:Bool):AO:=.list none (.int (.var 0)::bf set [.int (.var 1)] [])
noncomputable def nX(b:Bool)(o:List Nat)(k:Nat):SW:=bf b (.lit o) (.var [] k [])
noncomputable def Ic:List (Option (Int×Int)):=[none,none,none,none]
noncomputable def argsR(set:Bool)(g ix:Nat):List AV:=[.str (.lit (ri set g)),ei ix (.var 2),.ref 2,.ref 1,.ref 0,.aY 0]
noncomputable def sC(set res:Bool):Cs:=⟨false,bf res (.int (.var 3)) (.str (.var [] 2 [])),[.list (some 1) [],vx,KN set],0,[],0⟩
noncomputable def GY(bk bs:Bool)(o1 o2:List Nat)(o:jy):Th:=⟨[0,1,2],[.var 0,.var 1,.var 2,oe (.var 3) (λw=>w) o.res],[nX bk o1 0,nX bs o2 1,.lit o.msg],[.aY 0],[],[(some 0,[]),(some 0,o.notes)],[]⟩
noncomputable def Gi(set bk bs:Bool)(o1 o2:List Nat)(o:jy):Kont:=λr st=>aj (zD 0 st) λbc=>iB (GY bk bs o1 o2 o) bc r 3 [] (sC set (lH o))
noncomputable def zY(set:Bool)(a b:SW):List AO:=[Gs,KH a b,KN set]
noncomputable def iF(set:Bool)(g ix:Nat)(o1 o2:List Nat):Bool:=run true kp 3000 (.call mb (.glob 1047) (argsR set g ix)) (c6 (zY set (nX (gE set g) o1 0) (nX (gF set g) o2 1)) Ic 1) (Gi set (gE set g) (gF set g) o1 o2 (jC set g ix o1 o2))
noncomputable def hJ:Cx:=⟨20,90,[],false⟩
noncomputable def cX(L p:Nat):Nat:=bf (aM L (p+1)) (p+1 - L) (L - 1 - p)
noncomputable def vE(k:Nat):AO:=.dict 90000 false [(121,.oi k),(122,.oi (k+1))]
noncomputable def Kk(i:Nat):AV:=.tup [.str (.var [] (2+i) []),.aY (1000000+(11+i))]
noncomputable def uw(r:Nat):AV:=jq r (.var 0)
noncomputable def vA(up:Bool)(v L r:Nat):AV:=.tup [lR up,.str (.lit [120+v]),.bw (mp Kk (upTo L 0)),uw r]
noncomputable def aca(ins:Bool)(k:Nat):List AO:=bf ins [vE (k+2),vE k] [vE k]
noncomputable def rC(ins:Bool)(q k:Nat):List AO:=.list (some q) []::vx:: .list none (bf ins [.ref 3,.ref 4] [.ref 3])::aca ins k
noncomputable def FK(r:Nat)(q:Option Nat×List AV):Option Nat:=ob q.1 λz=>bf (ag z 0) (bf (ag r 1) (bf (iL [.int (.var 0)] q.2) (some 0) none) (bf (lW q.2) (some 0) none)) (bf (ag z 1) none (bf (lW q.2) (some (z - 1)) none))
noncomputable def rO(st:St)(ins up:Bool)(v:Nat):Option (Option Nat):=bf (ins&& !up) (ob (eA st.aU (2+v)) λo=>oe (eA st.aU v) (λj=>some (some j)) o) (eA st.aU v)
noncomputable def j7(st:St)(ins up:Bool)(v:Nat):Option AI:=ob (rO st ins up v) λo=>ob o λj=>some (.var j)
noncomputable def L6(st:St)(ins up:Bool)(v L p:Nat):Option AI:=bf (aM L (p+1)) (bf (ag (2* L - 2 - p) 0) (j7 st ins up v) (some (.var (2* L - 2 - p)))) (bf (ag p 0) (j7 st ins up v) (some (.var p)))
noncomputable def inF(st:St)(ins:Bool)(L p r:Nat):Option AI:=bf (ag (p+1) L) (bf (aM r 1) (some (.var 0)) (j7 st ins false (r - 2))) (some (.var p))
noncomputable def iD(r p:Nat):Option Nat×List NW:=bf (ag p 0) (some 0,bf (ag r 1) [.int (.var 0)] []) (some (1+p),[])
noncomputable def yb(st:St)(ins up:Bool)(v L r p:Nat)(set:Bool)(wt wf:AI):Bool:=(set==aM L (p+1))&&(aM (p+2) (2* L)&&(aj (L6 st ins up v L p) wt.beq&&bf set (aj (inF st ins L p r) wf.beq) (wt.beq wf)))
noncomputable def Bb(r p e ir:Nat)(wt wf:AI):Th:=⟨[0,1,ir],[wt,wf,.var (6+e),.var (p+1)],[.var [] 0 [],.var [] 1 [],.var [] (5+p) []],[.ref 2],[],[iD r p,(some (2+p),[])],[]⟩
noncomputable def WA(set:Bool)(e ir:Nat):List AV:=[.str (.var [] (2+e) (bf set [60,45] [])),.aY (1000000+(11+e)),.ref ir,.ref 1,.ref 0,.ref 2]
noncomputable def Ht(Z:Th)(st:St)(a b:Cs)(p:Nat)(k:Kont):Bool:=fH (Z.on st a) st a [(4+p,some (p+1))] k&&fH (Z.on st b) st b [(4+p,none)] k
noncomputable def KM(ins up:Bool)(v L r:Nat)(set:Bool)(c:Cx)(args:List AV)(st:St)(k:Kont)(p ir:Nat)(wt wf:AI):Option Bool:=bf ((iR 40 180 c&&yb st ins up v L r p set wt wf)&&(iL (WA set (cX L p) ir) args&&fQ (Bb r p (cX L p) ir wt wf) st (zY set (.var [] 0 []) (.var [] 1 []))))
 (some (Ht (Bb r p (cX L p) ir wt wf) st (sC set true) (sC set false) p k)) none
noncomputable def aaB(ins up:Bool)(v L r:Nat)(c:Cx)(args:List AV)(st:St)(k:Kont):Option Bool:=ob (listAt st 0) λq=>ob (FK r q) λp=>ob (ob (nth args 2) refOf) λir=>ob (listAt st ir) λrow=>ob (ob (nth row.2 0) intOf) λwt=>KM ins up v L r (aM L (p+1)) c args st k p ir wt (oe wt (λw=>w) (ob (nth row.2 1) intOf))
noncomputable def Ir(ins up:Bool)(v L r:Nat):iO:=o8 λa c args st k=>bf (ag a 1047) (aaB ins up v L r c args st k) none
noncomputable def noObj(v:Nat):List Nat:=[111,98,106,101,99,116,32,39,120+v,39,32,110,111,116,32,102,111,117,110,100]
inductive b5 where
 |ok
 |lj
 |fC
 |step (p:Nat)
noncomputable def F6(st:St)(n:Nat):Option b5:=cC (λ_=>some .ok) (λ_ f p=>ob (eA st.aU (4+p)) λo=>oe (some (.step p)) (λ_=>f (p+1)) o) n 0
noncomputable def zN(st:St)(ins up:Bool)(v:Nat):Option (Option Nat):=bf (!ins&&up) (some none) (rO st ins up v)
noncomputable def GO(st:St)(ins:Bool)(r:Nat):Option (Option Nat):=bf (aM r 1) (some (some 0)) (rO st ins false (r - 2))
noncomputable def yz(st:St)(ins up:Bool)(v L r:Nat):Option (b5×Nat):=ob (GO st ins r) λo=>oe (some (.lj,0)) (λj=>bf (ag L 0) (some (.ok,j)) (ob (zN st ins up v) λo=>oe (some (.fC,j)) (λ_=>ob (F6 st (2* L - 1)) λw=>some (w,j)) o)) o
noncomputable def isOk(w:b5):Bool:=b5.rec (motive:=λ_=>Bool) true false false (λ_=>false) w
noncomputable def G6(v r:Nat)(w:b5):SW:=b5.rec (motive:=λ_=>SW) (.var [] 10 []) (.lit (noObj (r - 2))) (.lit (noObj v)) (λp=>.var [] (5+p) []) w
noncomputable def FD(L r:Nat)(w:b5):Option Nat×List NW:=b5.rec (motive:=λ_=>Option Nat×List NW) (bf (ag L 0) (iD r 0) (some (2* L),[])) (some 0,[]) (iD r 0) (λp=>(some (2+p),[])) w
noncomputable def placeOf(ins up:Bool)(v:Nat):Nat:=bf (ins&& !up) (2+v) v
noncomputable def yW(ins up:Bool)(v L:Nat)(j:Nat)(w:b5)(k:Nat):OW:=bf (isOk w&&ag k (placeOf ins up v)) (.int (bf (ag L 0) (.var j) (.var (2* L - 1)))) (.cp k)
noncomputable def cps(n b:Nat):List OW:=mp .cp (upTo n b)
noncomputable def adh(n:Nat):List (Option Nat×List NW):=mp (λk=>(some k,[])) (upTo n 0)
noncomputable def AD(n:Nat):List SW:=mp (λk=>.var [] k []) (upTo n 0)
noncomputable def Al(n:Nat):List AI:=mp .var (upTo n 0)
noncomputable def uX(ls:List Nat)(ins up:Bool)(v L r:Nat)(w:b5)(j:Nat)(iw:List AI)(vw:List AV)(tw:List TW):Th:=⟨ls,app (Al 9) (bf (isOk w) (.var j) (.var 9)::iw),app (AD 10) [G6 v r w],vw,app (cps 9 0) (mp (yW ins up v L j w) (upTo 4 0)),app (adh 7) [FD L r w],tw⟩
noncomputable def sb(ins:Bool)(ok:Bool):Cs:=⟨false,bf ok (.int (.var 9)) (.str (.var [] 10 [])),rC ins 7 9,0,[],0⟩
noncomputable def vW(ins:Bool):Nat:=bf ins 5 4
noncomputable def BI(ins up:Bool)(v L r:Nat):Kont:=λrr st=>aj (yz st ins up v L r) λw=>iB (uX (upTo (vW ins) 0) ins up v L r w.1 w.2 [] [] []) st rr (vW ins) [] (sb ins (isOk w.1))
noncomputable def nones(n:Nat):List (Option (Int×Int)):=mp (λ_=>none) (upTo n 0)
noncomputable def gv(ins up:Bool)(v L r:Nat):Bool:=run true (Ir ins up v L r) 3000 (.call hJ (.glob 1054) [vA up v L r,.ref 2,.ref 1,.ref 0]) (c6 (rC ins 0 0) (nones 10) 26) (BI ins up v L r)
noncomputable def jv(e:Nat):AV:=.inst 374 [iq,t4,244986229,ik,215578724] [.str (.lit [108,97,110,103,117,97,103,101]),.aY (1000000+(2+2* e)),.aY (1000000+(3+2* e)),.none,.none]
noncomputable def ly(r:Nat)(e:AI):AV:=bf (ag r 0) (cD e) (bf (ag r 1) (iA [cv (.lit [110,111,116,101]),cD e]) (cv (.lit [118+r])))
noncomputable def uv(r:Nat):AV:=ly r (.var 0)
noncomputable def sk(up:Bool)(v L r:Nat):AV:=iA [cv (.lit (bf up [60,60,45] [60,45])),bf (ag L 0) (cv (.lit [120+v])) (jv 0),uv r]
noncomputable def pE:List Nm:=[rx,cs "function",cs "env",cs "caller",cs "args",cs "on_exit",cs "dispatch"]
noncomputable def ac2:AO:=.dict 400000 true (zp pE (mp (λj=>.val (.aY j)) (upTo 7 0)))
noncomputable def ac1(ins:Bool):AO:=.list none (bf ins [.ref 16] [])
noncomputable def rA(ins:Bool)(a b:AI)(q k:Nat):List AO:=app (rQ ins kT sT (qV a b) (ac1 ins) (.list (some q) []) k) (bf ins [.inst 777 17,ac2] [])
noncomputable def Av:List (Option (Int×Int)):=app (nones 10) [some (0,10000),some (2,10000)]
noncomputable def iS(ins:Bool):Nat:=bf ins 18 12
noncomputable def Lh(a:AV):Option AI:=ob (j8 a) λq=>ob (nth q.2.2 1) λl=>ob (lU l) λl=>ob (nth l 0) intOf
noncomputable def kC(st:St)(w:AI)(lo:Int):Option Int:=ob (rangeOf st w) λp=>bf (!(bA p.1 lo)&&bA p.2 14000) (some p.2) none
noncomputable def Ba(ins:Bool)(r p e:Nat)(wt wf a b:AI):Th:=⟨upTo (mE ins) 0,[wt,wf,.var (6+e),a,b,.var (p+1)],[.var [] (5+p) []],bf ins [.ref 16] [],cps 4 0,[iD r p,(some (2+p),[])],[.at 0,.at 1,.at (8+e)]⟩
noncomputable def Wz(set ins:Bool)(e:Nat)(wt wf:AI):List AV:=.ref 1::jv e::cD wt::bf set [cD wf,envOf ins] [envOf ins]
noncomputable def argsOk(l args:List AV):Bool:=aj (dropLast args) λq=>iL l q.1&&aj (j8 q.2) λq=>ag q.1 374
noncomputable def Km(set ins up:Bool)(v L r:Nat)(c:Cx)(args:List AV)(st:St)(k:Kont)(p:Nat)(a b wt wf:AI):Option Bool:=bf ((iR 40 180 c&&yb st ins up v L r p set wt wf)&&((aj (kC st a 0) λ_=>aj (kC st b 2) λ_=>bf ins (bh 16 st.n) true)&&(argsOk (Wz set ins (cX L p) wt wf) args&&fQ (Ba ins r p (cX L p) wt wf a b) st (yN ins kT sT))))
 (some (Ht (Ba ins r p (cX L p) wt wf a b) st (pR ins true) (pR ins false) p k)) none
noncomputable def yS(set ins up:Bool)(v L r:Nat)(c:Cx)(args:List AV)(st:St)(k:Kont):Option Bool:=ob (listAt st 11) λq=>ob (FK r q) λp=>ob (wordAt st 0 mM) λa=>ob (wordAt st 0 m7) λb=>ob (ob (nth args 2) Lh) λwt=>Km set ins up v L r c args st k p a b wt (bf set (oe wt (λw=>w) (ob (nth args 3) Lh)) wt)
noncomputable def va(v L:Nat):Cs:=⟨false,.tup [.ref 0,.str (.lit [120+v])],[.list none (mp jv (upTo L 0))],1,[],0⟩
noncomputable def AY:Th:=⟨[],[],[],[],[],[],.at 2:: .at 2::mp .at (upTo 6 2)⟩
noncomputable def EF(v L:Nat)(c:Cx)(args:List AV)(st:St)(k:Kont):Option Bool:=bf ((iR 40 180 c&&fQ AY st [])&&(aM 1 L&&iL [jv 0] args)) (some (fH (AY.on st (va v L)) st (va v L) [] k)) none
noncomputable def HF(ins up:Bool)(v L r:Nat):iO:=o8 λa c args st k=>bf (ag a 617) (EF v L c args st k) (bf (ag a 688) (yS false ins up v L r c args st k) (bf (ag a 703) (yS true ins up v L r c args st k) none))
noncomputable def LB:List (Option (Int×Int)):=[some (0,800),some (0,800)]
noncomputable def Ik(ins:Bool):List AO:=rA ins (.add (.var 10) (.var 12)) (.add (.var 11) (.var 13)) 7 9
noncomputable def pz(ins ok:Bool):Cs:=bf ok ⟨false,cD (.var 9),Ik ins,0,LB,0⟩ ⟨true,.ref (iS ins),app (Ik ins) [.exc 198 (iS ins+1),Hx (.var [] 10 [])],2,LB,0⟩
noncomputable def v8:List AV:=mp .aY (upTo 7 0)
noncomputable def BH(ins up:Bool)(v L r:Nat):Kont:=λrr st=>aj (yz st ins up v L r) λw=>aj (wordAt st 0 mM) λa=>aj (wordAt st 0 m7) λb=>aj (restOf st 800 10 a) λp=>aj (restOf st 800 11 b) λq=>iB (uX (app (upTo (iS ins) 0) (excOf rr st)) ins up v L r w.1 w.2 [.var 10,.var 11,p,q] v8 [.at 0,.at 1]) st rr (iS ins) (excOf rr st) (pz ins (isOk w.1))
noncomputable def gn(ins up:Bool)(v L r:Nat):Bool:=run true (HF ins up v L r) 4000 (.call hJ (.glob 847) [.ref 1,sk up v L r,envOf ins]) (c6 (rA ins (.var 10) (.var 11) 0 0) Av 26) (BH ins up v L r)
noncomputable def KZ(e:Nat):AV:=.inst 352 [iq,iu,ik] [.str (.lit [115,121,109,98,111,108]),.aY (1000000+(14+e)),.none]
noncomputable def tE(e:Nat)(inner:AV)(b:Bool):AV:=.inst 374 [iq,t4,244986229,ik,215578724] [.str (.lit [108,97,110,103,117,97,103,101]),.bw (KZ e::inner::bf b [.aY (1000000+(17+e))] []),.aY (1000000+(3+2* e)),.none,.none]
noncomputable def vL(v L:Nat)(b:Nat->Bool):Nat->Nat->AV:=cC (λ_=>cv (.lit [120+v])) (λ_ f e=>bf (bh e L) (tE e (f (e+1)) (b e)) (cv (.lit [120+v])))
noncomputable def pQ(v L:Nat)(b:Nat->Bool)(e:Nat):AV:=vL v L b (3 - e) e
noncomputable def bits(b0 b1 b2:Bool)(e:Nat):Bool:=bf (ag e 0) b0 (bf (ag e 1) b1 b2)
noncomputable def LE(v L:Nat)(b:Nat->Bool):List AO:=[.list none (mp (pQ v L b) (upTo L 0))]
noncomputable def rT(r:bG):List Nat:=oe [] (λq=>oe [] (λl=>oe [] (λi=>[i]) (ob (nth l 0) refOf)) (iM q.2)) (fK r)
noncomputable def acr(l:List Nat):Th:=⟨l,[],[],[],[],[],mp .at (upTo 20 0)⟩
noncomputable def L9(v L:Nat)(b:Nat->Bool):Kont:=λr st=>iB (acr (rT r)) st r 0 (rT r) (oR (va v L) (.tup [.ref 0,.str (.lit [120+v])]) (LE v L b))
noncomputable def Hu(v L:Nat)(b0 b1 b2:Bool):Bool:=run true kp 400 (.call mb (.glob 617) [pQ v L (bits b0 b1 b2) 0]) (c6 [] [] 20) (L9 v L (bits b0 b1 b2))
noncomputable def qd(n:Nat):X->X:=cC (λ_=>.nil) (λ_ f x=>oe .nil (λp=>.cons p.1 (f p.2)) (hd x)) n
noncomputable def qc(n:Nat):X->X:=cC (λx=>x) (λ_ f x=>oe .nil (λp=>f p.2) (hd x)) n
noncomputable def ki:X:=oe .bad (λx=>x.body) (b6.get 1073)
noncomputable def me(c:List (Nm×cL))(l:Nat):Fr:=⟨⟨1073,none,l,.glob 1073,c,l⟩,⟨1,8,[⟨1073,none,l,.glob 1073,c,l⟩],false⟩⟩
noncomputable def Ec:Nm:=cs "script"
noncomputable def Eb:Nm:=cs "interp"
noncomputable def Ff:Nm:=cs "order_of"
noncomputable def Ia:Nm:=cs "top"
noncomputable def Ea:Nm:=cs "inside"
noncomputable def Du:Nm:=cs "program"
noncomputable def slot(j o:Nat):AV:=.aY (1000000+(24+24* j+o))
noncomputable def sr(j:Nat):AV:=.tup [slot j 0,slot j 1,slot j 2,slot j 3]
noncomputable def ac3(ins:Bool):List (Nm×EV):=[(Eb,.val (.ref 1)),(Ff,.val (.ref 12)),(Ia,.val (.ref 13)),(Ea,.val (.bool ins)),(Du,.val (.ref 14)),(cs "script",.unk),(cs "name",.unk),(cs "fn",.unk),(cs "getter",.unk),(cs "setter",.unk)]
noncomputable def Kn(ins:Bool):AO:=.dict 80000 true (ac3 ins)
noncomputable def zX(ins:Bool)(m:Nat):List AO:=app (rQ false (.val (.aY 1000004)) (.val (.aY 1000005)) (qV (.lit 0) (.lit 2)) vr vr 0) [vx,vE 0,.list none (mp sr (upTo m 0)),Kn ins]
noncomputable def St.room(st:St)(k:Nat):St:=match st with | ⟨objs,n,ni,nv,bnd,sub,aU,x⟩=>⟨objs,n+k,ni,nv,bnd,sub,aU,x⟩
noncomputable def BX(ins:Bool)(m:Nat):St:=(c6 (zX ins m) (nones 40) 102).room 3
noncomputable def frB:Fr:=me [] 15
noncomputable def kB:Kont:=rc bB bB bB cP cP cP (λv _=>aj (boolOf v) λb=>b) bB
noncomputable def uW(o:Nat):AV:=.aY (1000000+(20+o))
noncomputable def iwJ(j:Nat):List AI:=mp .var (upTo 10 (10* j))
noncomputable def swJ(j:Nat):List SW:=app (AD 2) (mp (λk=>.var [] k []) (upTo 9 (2+9* j)))
noncomputable def Mi(j:Nat):List OW:=app (bf (ag j 0) [.cp 0,.cp 1,.no,.no] (cps 4 (4* j))) (app (cps 5 (20+5* j)) (cps 4 (4* j+4)))
noncomputable def Mj(j:Nat):List (Option Nat×List NW):=(bf (ag j 0) none (some j),[])::app (mp (λk=>(some k,[])) (upTo 6 (5+6* j))) [(some (j+1),[])]
noncomputable def Mq(ev:Bool)(j:Nat):List TW:=app (bf ev [.at 4,.at 5] [.at (6+24* j),.at (6+24* j)]) (mp .at (upTo 24 (6+24* j)))
noncomputable def nY(ob:List Nat)(more:List AI)(vw:List AV)(ev:Bool)(j:Nat):Th:=⟨ob,app (iwJ j) more,swJ j,vw,Mi j,Mj j,Mq ev j⟩
noncomputable def ways(st:St)(j:Nat)(ok err:Bool):Bool:=oe (ok&&err) (λo=>oe err (λ_=>ok) o) (eA st.aU (40+j))
noncomputable def zm(Z:Th)(st:St)(a b:Cs)(j:Nat)(k:Kont):Bool:=ways st j (fH (Z.on st a) st a [(40+j,some (10* j+9))] k) (fH (Z.on st b) st b [(40+j,none)] k)
noncomputable def Ae(a:AV):Option Nat:=ob (gx a) λk=>bf (aM 1000024 k&&aM ((k - 1000024) / 24) 3) (some ((k - 1000024) / 24)) none
noncomputable def uI(o:Nat):Cs:=⟨false,uW o,[],0,[],0⟩
noncomputable def pb(a:List Nat)(o:Nat)(j:Nat)(c:Cx)(args:List AV)(st:St)(k:Kont):Option Bool:=bf ((iR 20 90 c&&aM j 3)&&(fQ (nY [] [] [] false j) st []&&iL (mp (slot j) a) args)) (some (fH ((nY [] [] [] false j).on st (uI o)) st (uI o) [] k)) none
noncomputable def acq(c:Cx)(args:List AV)(st:St)(k:Kont):Option Bool:=ob (ob (nth args 0) Ae) λj=>pb [1,2] 4 j c args st k
noncomputable def XQ(c:Cx)(args:List AV)(st:St)(k:Kont):Option Bool:=ob (ob (nth args 0) Ae) λj=>pb [3] 5 j c args st k
noncomputable def WB(j v o n:Nat):List AV:=[sr j,.ref v,.ref o,.ref n]
noncomputable def GL(ins:Bool)(j v o n:Nat)(rows:List Nat)(c:Cx)(args:List AV)(st:St)(k:Kont):Option Bool:=bf ((iR 20 90 c&&aM j 3)&&(iL (WB j v o n) args&&fQ (nY (n::o::v::rows) [] [] false j) st (rC ins 0 0))) (some (zm (nY (n::o::v::rows) [] [] false j) st (sb ins true) (sb ins false) j k)) none
noncomputable def refsOf(l:List AV):Option (List Nat):=bX refOf l
noncomputable def aao(ins:Bool)(c:Cx)(args:List AV)(st:St)(k:Kont):Option Bool:=ob (ob (ob (nth args 0) iM) λl=>ob (nth l 0) Ae) λj=>ob (ob (nth args 1) refOf) λv=>ob (ob (nth args 2) refOf) λo=>ob (ob (nth args 3) refOf) λn=>ob (listAt st v) λq=>ob (refsOf q.2) λrows=>GL ins j v o n rows c args st k
noncomputable def ad8(a b e:AV):AV:=iA [.inst 352 [iq,iu,ik] [.str (.lit [115,121,109,98,111,108]),a,.none],b,e]
noncomputable def vz(j:Nat):AV:=ad8 (slot j 0) (slot j 4) (slot j 5)
noncomputable def abq(e:AV):Option Nat:=aW none (λj _ r=>bf (dO (vz j) e) (some j) r) [0,1,2,3]
noncomputable def Hs(i:Nat)(n:Nm)(st:St):Option St:=ob (ob (st.get i) dU) λq=>ob (ob (lk n q.2.2) kh) λ_=>bf (((bh i st.n&&aM st.nv 900000)&&ji st.x)&&(yK (.dict q.1 q.2.1 q.2.2)&&aM (len (c7 n (.val (.aY st.nv)) q.2.2)+q.1) 1000000)) (some ((st.set i (.dict q.1 q.2.1 (c7 n (.val (.aY st.nv)) q.2.2))).newV)) none
noncomputable def n5(st:St)(i:Nat)(n:Nm):Option AV:=ob (ob (dictAt st i) (lk n)) kh
noncomputable def WK(i:Nat)(n:Nm)(st:St):Option St:=ob (n5 st i n) λa=>oe (some st) (λ_=>Hs i n st) (j8 a)
noncomputable def zk(i:Nat)(l:List Nm):St->Option St:=aW some (λn _ f st=>ob (WK i n st) f) l
noncomputable def pH(a:AV):Bool:=dq a||(oe false (λ_=>true) (refOf a)||aj (gx a) λk=>bh k 1000000)
noncomputable def Bf(i:Nat)(st:St):Option (List AV):=ob (bX (n5 st i) pE) λl=>bf (bh i st.n&&bF l pH) (some l) none
noncomputable def fX(st:St)(i:Nat)(n:Nm):Option Nat:=ob (n5 st i n) refOf
noncomputable def sD(st:St)(i:Nat):Option Nat:=ob (ob (st.get i) nh) λq=>some q.2
noncomputable def KV(st:St)(e:Nat):Option (List Nat):=ob (listAt st 10) λq=>ob (ob (nth q.2 0) refOf) λf=>ob (sD st e) λd=>ob (fX st d 27612723687) λlf=>ob (fX st d 31366658157) λll=>ob (sD st f) λfd=>some [d,e,lf,ll,f,fd]
noncomputable def Iy(ins:Bool)(st:St)(e:Nat):Option (List Nat):=bf ins (ob (KV st e) λl=>some (app (upTo 12 0) l)) (some (upTo 12 0))
noncomputable def FZ(ins:Bool)(j e:Nat)(sel:List Nat)(vw:List AV)(wa wb:AI)(c:Cx)(args:List AV)(st:St)(k:Kont):Option Bool:=bf ((iR 20 90 c&&aM j 3)&&((aj (kC st wa 0) (λh=>bA h 10000)&&aj (kC st wb 2) (λh=>bA h 10000))&&((aj (nth sel (bf ins 13 7)) (ag e)&&aM (len sel) 18)&&(iL [.ref 1,vz j,.ref e] args&&fQ (nY sel [wa,wb] vw true j) st (rA ins (.var 10) (.var 11) 0 0)))))
 (some (zm (nY sel [wa,wb] vw true j) st (pz ins true) (pz ins false) j k)) none
noncomputable def abp(ins:Bool)(j e:Nat)(sel:List Nat)(vw:List AV)(c:Cx)(args:List AV)(st:St)(k:Kont):Option Bool:=ob (wordAt st 0 mM) λwa=>ob (wordAt st 0 m7) λwb=>FZ ins j e sel vw wa wb c args st k
noncomputable def evalOr(ins:Bool)(c:Cx)(args:List AV)(st:St)(k:Kont):Option Bool:=ob (ob (nth args 2) refOf) λe=>ob (ob (nth args 1) abq) λj=>ob (Iy ins st e) λsel=>ob (bf ins (ob (nth sel 17) λi=>zk i pE st) (some st)) λst1=>ob (bf ins (ob (nth sel 17) λi=>Bf i st1) (some [])) λvw=>abp ins j e sel vw c args st1 k
noncomputable def I0(ins:Bool):iO:=o8 λa c args st k=>bf (ag a 1026) (acq c args st k) (bf (ag a 1019) (XQ c args st k) (bf (ag a 1054) (aao ins c args st k) (bf (ag a 847) (evalOr ins c args st k) none)))
noncomputable def AT(ins:Bool)(m:Nat):Bool:=run true (I0 ins) 4000 (.sts frB (qc 16 ki)) (BX ins m) kB
noncomputable def Ay(ix:Nat->Nat)(e:Nat):AV:=.tup [.str (.var [] (2+e) []),ei (ix e) (.var (6+e))]
noncomputable def B1(v L:Nat)(ix:Nat->Nat):Nat->Nat->AV:=cC (λ_=>cv (.lit [120+v])) (λ_ f e=>bf (bh e L) (iA (cv (.var [] (2+e) [])::f (e+1)::eD (ix e) (.var (6+e)))) (cv (.lit [120+v])))
noncomputable def B2:Th:=⟨[],Al 10,AD 11,[],[],[],mp .at (upTo 26 0)⟩
noncomputable def vk(o:Nat)(x:AV):Kont:=λr st=>iB B2 st r 0 [] (oR (uI o) x [])
noncomputable def ixs(a b c:Nat)(e:Nat):Nat:=bf (ag e 0) a (bf (ag e 1) b c)
noncomputable def ID(v L a b c:Nat):Bool:=run true kp 1000 (.call hJ (.glob 1026) [.str (.lit [120+v]),.bw (mp (Ay (ixs a b c)) (upTo L 0))]) (c6 [] (nones 10) 26) (vk 4 (B1 v L (ixs a b c) 3 0))
noncomputable def H2(r:Nat):Bool:=run true kp 400 (.call hJ (.glob 1019) [uw r]) (c6 [] (nones 10) 26) (vk 5 (uv r))
section
inductive Note where
 |int (i:Int)
 |row (s:List Nat) (l:List Int)
noncomputable def Note.av:Note->AV
 | .int i=>.int (.lit i)
 | .row s l=>.bw (.str (.lit s)::l.map λi=>.int (.lit i))
noncomputable def gM(O j:Nat):Nat:=1000000* (O+1)+j
noncomputable def rY(C:List Nat)(T:AV):Prop:=∃c,c∈C/\T= .str (.lit [c])
noncomputable def Hg(T:AV):Prop:=∃d,kS d/\T=eE d
noncomputable def tyP(O:Nat)(T:AV):Prop:=bf (ag O 1) (Hg T) (bf (ag O 2) (rY [103,104,107,117] T) (bf (ag O 3) (rY [120,121] T) False))
open Classical in
noncomputable def fS(O:Nat)(T:AV):Bool:=bf (ag O 0) true (decide (tyP O T))
open Classical in
theorem uf{O:Nat}{T:AV}(h:tyP O T):fS O T=true:=by
 unfold fS;cases ag O 0 with
 |true=>rfl
 |false=>exact decide_eq_true h
open Classical in
theorem xZ{O:Nat}{T:AV}(h:fS O T=true)(h0:ag O 0=false):tyP O T:=by unfold fS at h;rw [h0] at h;exact of_decide_eq_true h
structure G where
 aA:List Addr
 iI:List Int
 vV:List Value
 sS:List (List Nat)
 oO:List (Option Int)
 pP:List (List Note)
 tA:List AV
 fz:Addr->Option Obj
 wd:World
 nf:List Addr
structure G.Le(a b:G):Prop where
 aA:a.aA<+:b.aA
 iI:a.iI<+:b.iI
 vV:a.vV<+:b.vV
 sS:a.sS=b.sS
 oO:a.oO=b.oO
 pP:a.pP=b.pP
 tA:a.tA<+:b.tA
 fz:∀x o,a.fz x=some o->b.fz x=some o
 wd:b.wd=a.wd
 nf:∀x∈a.nf,x∈b.nf
theorem G.Le.refl(a:G):a.Le a:=⟨bT _,bT _,bT _,rfl,rfl,rfl,bT _,λ_ _ e=>e,rfl,λ_ h=>h⟩
theorem G.Le.trans{a b c:G}(x:a.Le b)(y:b.Le c):a.Le c:=⟨x.1.trans y.1,x.2.trans y.2,x.3.trans y.3,x.4.trans y.4,x.5.trans y.5,x.6.trans y.6,x.7.trans y.7,λd o e=>y.8 d o (x.8 d o e),y.9.trans x.9,λd h=>y.10 d (x.10 d h)⟩
theorem aN{Y:Type}{a b:List Y}(p:a<+:b){i:Nat}{x:Y}(e:a[i]?=some x):b[i]?=some x:=by refine aQ p λt aq=>?_;have aa:=aq;clear p aq;subst aa;refine ae (qe (mn.mp e).1) ?_;exact e
section
variable{Y β:Type}
theorem gk{o o':Option Y}{f f':Y->Option β}{b:β}(h:∀a,o=some a->o'=some a)(h':∀a b,f a=some b->f' a=some b)(q:ob o f=some b):ob o' f'=some b:=by refine ah q λa h1 h2=>?_;exact bQ (h a h1) (h' a b h2)
end
noncomputable def AI.val(g:Nat->Option Int)(e:AI):Option Int:=AI.rec (motive:=λ_=>Option Int) some g (λ_ _ a b=>ob a λx=>ob b λy=>some (x+y)) (λ_ _ a b=>ob a λx=>ob b λy=>some (x* y)) (λ_ m a=>ob a λx=>some (wP x m)) (λ_ m a=>ob a λx=>some (qE x m)) e
theorem AI.oG{g g':Nat->Option Int}(l:∀k i,g k=some i->g' k=some i)(e:AI):∀i,e.val g=some i->e.val g'=some i:=AI.rec (motive:=λe=>∀i,AI.val g e=some i->AI.val g' e=some i) (λ_ _ h=>h) l (λ_ _ f h _=>gk f λ_ _=>gk h λ_ _ q=>q) (λ_ _ f h _=>gk f λ_ _=>gk h λ_ _ q=>q) (λ_ _ f _=>gk f λ_ _ q=>q) (λ_ _ f _=>gk f λ_ _ q=>q) e
noncomputable def AI.ev(J:G)(e:AI):Option Int:=e.val λk=>J.iI[k]?
theorem AI.fw{J J':G}(l:J.Le J'){e:AI}{i:Int}(h:e.ev J=some i):e.ev J'=some i:=AI.oG (λ_ _=>aN l.iI) e i h
noncomputable def SW.ev(J:G)(w:SW):Option (List Nat):=SW.rec (motive:=λ_=>Option (List Nat)) some (λp k s=>ob J.sS[k]? λx=>some (p++(x++s))) w
theorem SW.fw{J J':G}(l:J.Le J'){e:SW}{i:List Nat}(h:e.ev J=some i):e.ev J'=some i:=by unfold SW.ev at h ⊢;refine bH l.sS ?_;exact h
noncomputable def jV:Str:="_law_builtin.<locals>.told"
noncomputable def Ai(c cc:Addr)(doc pm ctv:Value):Obj:=fnMade "told" jV (j6 bY) (dR bY) (bK bY) [("name",c)] doc pm cc ctv
noncomputable def ya:Nat->String
 |0=>"list"
 |1=>"range"
 |_=>"str"
noncomputable def rk:Nat->String
 |0=>"len"
 |1=>"ord"
 |_=>"isinstance"
mutual
inductive VR(J:G):AV->Value->Prop
 |none:VR J .none .none
 |bool (b:Bool):VR J (.bool b) (.bool b)
 |bM (b:Bool):VR J .bM (.bool b)
 |int {e:AI} {i:Int} (t:Tok) (h:e.ev J=some i):VR J (.int e) (.int i t)
 |str {w:SW} {x:Str} (t:Tok) (h:w.ev J=some x.cps.toList):VR J (.str w) (.str x t)
 |glob (a:Nat):VR J (.glob a) (.ref a)
 |ref {i:Nat} {a:Addr} (h:J.aA[i]?=some a):VR J (.ref i) (.ref a)
 |typ (n:Nat):VR J (.typ n) (.type (ya n))
 |bi (n:Nat):VR J (.bi n) (.builtin (rk n))
 |aY {k:Nat} {v:Value} (h:J.vV[k]?=some v) (hh:handedIn v=true) (hk:k< 1000000):VR J (.aY k) v
 |tv {O j:Nat} {a:AV} {v:Value} (h:J.tA[j]?=some a) (hj:j< 1000000) (t:fS O a=true) (r:VR J a v):VR J (.aY (gM O j)) v
 |inst {C:Nat} {ns:List Nm} {vs:List AV} {a b:Addr} {o od:Obj} {en:Array DictEntry} {n:Nat} (h1:J.fz a=some o) (h2:o.cls= .ref C) (h3:o.dict=some b) (h4:notCls o=true) (h5:J.fz b=some od)
   (h6:od.data= .dict en n) (h8:StrKeys en) (h9:UniqKeys en) (hz:en.size<=1000001) (h:df J en ns vs):VR J (.inst C ns vs) (.ref a)
 |d9 {ns:List Nm} {vs:List AV} {a:Addr} {o:Obj} {en:Array DictEntry} {n:Nat} (h1:J.fz a=some o) (h2:o.cls= .type "dict") (h6:o.data= .dict en n) (h8:StrKeys en) (h9:UniqKeys en)
   (h:df J en ns vs) (hn:∀x:Str,nm x ∉ ns->nsFind en x=ww):VR J (.d9 ns vs) (.ref a)
 |bw {xs:List AV} {a:Addr} {vs:Array Value} {n:Nat} (h1:J.fz a=some ⟨.type "list",ww,.seq vs n, #[]⟩) (h:ay J xs vs.toList):VR J (.bw xs) (.ref a)
 |tup {xs:List AV} {a:Addr} {o:Obj} {vs:Array Value} {n:Nat} (h1:J.fz a=some o) (h2:o.cls= .type "tuple") (h3:o.data= .seq vs n) (h:ay J xs vs.toList):VR J (.tup xs) (.ref a)
 |told {w:SW} {f c cc:Addr} {oc oo:Obj} {doc pm ctv:Value} {us:Array Value} {t:Tok} {v:Value} (h1:J.fz f=some (Ai c cc doc pm ctv)) (h2:J.fz c=some oc) (h3:oc.data= .cell (some v)) (h4:J.fz cc=some oo) (h5:oo.data= .fields us) (h6:us[1]?=some (.str jV t)) (h:VR J (.str w) v):VR J (.told w) (.ref f)
inductive ay(J:G):List AV->List Value->Prop
 |nil:ay J [] []
 |cons {a v as vs} (h:VR J a v) (r:ay J as vs):ay J (a::as) (v::vs)
inductive df(J:G):Array DictEntry->List Nm->List AV->Prop
 |nil {en:Array DictEntry}:df J en [] []
 |cons {en:Array DictEntry} {n:Nm} {ns:List Nm} {a:AV} {as:List AV} {x:Str} {v:Value} (hx:nm x=n) (hv:nsFind en x=some v) (hf:(n=fp\/n=fy)->(∃b,v= .bool b)->a= .bM) (h:VR J a v) (r:df J en ns as):df J en (n::ns) (a::as)
end
theorem H6{J J':G}(l:J.Le J'):(∀{a:AV} {v:Value},VR J a v->VR J' a v)/\(∀{as:List AV} {vs:List Value},ay J as vs->ay J' as vs)/\∀{ns:List Nm} {as:List AV} {en:Array DictEntry},df J en ns as->df J' en ns as:=by
 refine ⟨λ {a v} h=>?_,λ {as vs} h=>?_,λ {ns as en} h=>?_⟩
 rotate_left 2
 ·refine df.rec (motive_1:=λa v _=>VR J' a v) (motive_2:=λas vs _=>ay J' as vs) (motive_3:=λen ns as _=>df J' en ns as) .none .bool .bM (λt h=>.int t (AI.fw l h)) (λt h=>.str t (SW.fw l h)) .glob (λh=>.ref (aN l.aA h)) .typ .bi (λh hh hk=>.aY (aN l.vV h) hh hk) (λh hj t _ r=>.tv (aN l.tA h) hj t r)
   (λh1 h2 h3 h4 h5 h6 h8 h9 hz _ h=>.inst (l.fz _ _ h1) h2 h3 h4 (l.fz _ _ h5) h6 h8 h9 hz h) (λh1 h2 h6 h8 h9 _ hn h=>.d9 (l.fz _ _ h1) h2 h6 h8 h9 h hn) (λh1 _ h=>.bw (l.fz _ _ h1) h) (λh1 h2 h3 _ h=>.tup (l.fz _ _ h1) h2 h3 h) (λh1 h2 h3 h4 h5 h6 _ h=>.told (l.fz _ _ h1) (l.fz _ _ h2) h3 (l.fz _ _ h4) h5 h6 h) .nil (λ_ _ h r=>.cons h r) .nil (λhx hv hf _ _ h r=>.cons hx hv hf h r) h
 ·refine VR.rec (motive_1:=λa v _=>VR J' a v) (motive_2:=λas vs _=>ay J' as vs) (motive_3:=λen ns as _=>df J' en ns as) .none .bool .bM (λt h=>.int t (AI.fw l h)) (λt h=>.str t (SW.fw l h)) .glob (λh=>.ref (aN l.aA h)) .typ .bi (λh hh hk=>.aY (aN l.vV h) hh hk) (λh hj t _ r=>.tv (aN l.tA h) hj t r)
   (λh1 h2 h3 h4 h5 h6 h8 h9 hz _ h=>.inst (l.fz _ _ h1) h2 h3 h4 (l.fz _ _ h5) h6 h8 h9 hz h) (λh1 h2 h6 h8 h9 _ hn h=>.d9 (l.fz _ _ h1) h2 h6 h8 h9 h hn) (λh1 _ h=>.bw (l.fz _ _ h1) h) (λh1 h2 h3 _ h=>.tup (l.fz _ _ h1) h2 h3 h) (λh1 h2 h3 h4 h5 h6 _ h=>.told (l.fz _ _ h1) (l.fz _ _ h2) h3 (l.fz _ _ h4) h5 h6 h) .nil (λ_ _ h r=>.cons h r) .nil (λhx hv hf _ _ h r=>.cons hx hv hf h r) h
 ·refine ay.rec (motive_1:=λa v _=>VR J' a v) (motive_2:=λas vs _=>ay J' as vs) (motive_3:=λen ns as _=>df J' en ns as) .none .bool .bM (λt h=>.int t (AI.fw l h)) (λt h=>.str t (SW.fw l h)) .glob (λh=>.ref (aN l.aA h)) .typ .bi (λh hh hk=>.aY (aN l.vV h) hh hk) (λh hj t _ r=>.tv (aN l.tA h) hj t r)
   (λh1 h2 h3 h4 h5 h6 h8 h9 hz _ h=>.inst (l.fz _ _ h1) h2 h3 h4 (l.fz _ _ h5) h6 h8 h9 hz h) (λh1 h2 h6 h8 h9 _ hn h=>.d9 (l.fz _ _ h1) h2 h6 h8 h9 h hn) (λh1 _ h=>.bw (l.fz _ _ h1) h) (λh1 h2 h3 _ h=>.tup (l.fz _ _ h1) h2 h3 h) (λh1 h2 h3 h4 h5 h6 _ h=>.told (l.fz _ _ h1) (l.fz _ _ h2) h3 (l.fz _ _ h4) h5 h6 h) .nil (λ_ _ h r=>.cons h r) .nil (λhx hv hf _ _ h r=>.cons hx hv hf h r) h
theorem VR.mono{J J':G}(l:J.Le J'){a:AV}{v:Value}(h:VR J a v):VR J' a v:=(H6 l).1 h
theorem ay.mono{J J':G}(l:J.Le J'){as:List AV}{vs:List Value}(h:ay J as vs):ay J' as vs:=(H6 l).2.1 h
inductive uD(J:G)(C:Nat)(ns:List Nm)(vs:List AV):Value->Prop
 |mk {a b:Addr} {o od:Obj} {en:Array DictEntry} {n:Nat} (h1:J.fz a=some o) (h2:o.cls= .ref C) (h3:o.dict=some b) (h4:notCls o=true) (h5:J.fz b=some od) (h6:od.data= .dict en n) (h8:StrKeys en) (h9:UniqKeys en) (hz:en.size<=1000001) (h:df J en ns vs):uD J C ns vs (.ref a)
inductive vD(J:G)(ns:List Nm)(vs:List AV):Value->Prop
 |mk {a:Addr} {o:Obj} {en:Array DictEntry} {n:Nat} (h1:J.fz a=some o) (h2:o.cls= .type "dict") (h6:o.data= .dict en n) (h8:StrKeys en) (h9:UniqKeys en) (h:df J en ns vs) (hn:∀x:Str,nm x ∉ ns->nsFind en x=ww):vD J ns vs (.ref a)
inductive vF(J:G)(xs:List AV):Value->Prop
 |mk {a:Addr} {vs:Array Value} {n:Nat} (h1:J.fz a=some ⟨.type "list",ww,.seq vs n, #[]⟩) (h:ay J xs vs.toList):vF J xs (.ref a)
inductive vI(J:G)(xs:List AV):Value->Prop
 |mk {a:Addr} {o:Obj} {vs:Array Value} {n:Nat} (h1:J.fz a=some o) (h2:o.cls= .type "tuple") (h3:o.data= .seq vs n) (h:ay J xs vs.toList):vI J xs (.ref a)
inductive vH(J:G)(w:SW):Value->Prop
 |mk {f c cc:Addr} {oc oo:Obj} {doc pm ctv:Value} {us:Array Value} {t:Tok} {v:Value} (h1:J.fz f=some (Ai c cc doc pm ctv)) (h2:J.fz c=some oc) (h3:oc.data= .cell (some v)) (h4:J.fz cc=some oo) (h5:oo.data= .fields us) (h6:us[1]?=some (.str jV t)) (h:VR J (.str w) v):vH J w (.ref f)
noncomputable def Lx(J:G)(a:AV)(v:Value):Prop:=AV.casesOn (motive_1:=λ_=>Prop) a (v= .none) (λb=>v= .bool b) (∃b,v= .bool b) (λe=>∃i t,v= .int i t/\e.ev J=some i) (λw=>∃x t,v= .str x t/\w.ev J=some x.cps.toList)
 (λa=>v= .ref a) (λi=>∃a,v= .ref a/\J.aA[i]?=some a) (λn=>v= .type (ya n)) (λn=>v= .builtin (rk n)) (λk=>(J.vV[k]?=some v/\handedIn v=true/\k< 1000000)\/ ∃O j a,k=gM O j/\J.tA[j]?=some a/\j< 1000000/\fS O a=true/\VR J a v)
 (λC ns vs=>uD J C ns vs v) (λns vs=>vD J ns vs v) (λxs=>vF J xs v) (λxs=>vI J xs v) (λw=>vH J w v)
theorem VR.out{J:G}{a:AV}{v:Value}(h:VR J a v):Lx J a v:=by
 cases h with
 |none=>rfl
 |bool b=>rfl
 |bM b=>exact ⟨b,rfl⟩
 |int t h=>exact ⟨_,t,rfl,h⟩
 |str t h=>exact ⟨_,t,rfl,h⟩
 |glob a=>rfl
 |ref h=>exact ⟨_,rfl,h⟩
 |typ n=>rfl
 |bi n=>rfl
 |aY h hh hk=>exact .inl ⟨h,hh,hk⟩
 |tv h hj t r=>exact .inr ⟨_,_,_,rfl,h,hj,t,r⟩
 |inst h1 h2 h3 h4 h5 h6 h8 h9 hz h=>exact ⟨h1,h2,h3,h4,h5,h6,h8,h9,hz,h⟩
 |d9 h1 h2 h6 h8 h9 h hn=>exact ⟨h1,h2,h6,h8,h9,h,hn⟩
 |bw h1 h=>exact ⟨h1,h⟩
 |tup h1 h2 h3 h=>exact ⟨h1,h2,h3,h⟩
 |told h1 h2 h3 h4 h5 h6 h=>exact ⟨h1,h2,h3,h4,h5,h6,h⟩
section
variable{J:G}{v:Value}{m:Value->Prop}
theorem VR.int_inv{e:AI}(h:VR J (.int e) v):∃i t,v= .int i t/\e.ev J=some i:=h.out
theorem VR.mP{i:Nat}(h:VR J (.ref i) v):∃a,v= .ref a/\J.aA[i]?=some a:=h.out
theorem VR.str_inv{w:SW}(h:VR J (.str w) v):∃x t,v= .str x t/\w.ev J=some x.cps.toList:=h.out
theorem VR.pp{C:Nat}{ns:List Nm}{vs:List AV}(h:VR J (.inst C ns vs) v):uD J C ns vs v:=h.out
theorem VR.LL{ns:List Nm}{vs:List AV}(h:VR J (.d9 ns vs) v):vD J ns vs v:=h.out
theorem VR.sH{xs:List AV}(h:VR J (.bw xs) v):vF J xs v:=h.out
theorem VR.B5{xs:List AV}(h:VR J (.tup xs) v):vI J xs v:=h.out
theorem VR.BZ{w:SW}(h:VR J (.told w) v):vH J w v:=h.out
theorem VR.acN{e:AI}(h:VR J (.int e) v)(k:∀i t,e.ev J=some i->m (.int i t)):m v:=by obtain ⟨i,t,rfl,q⟩:=h.out;exact k i t q
theorem VR.acP{i:Nat}(h:VR J (.ref i) v)(k:∀a,J.aA[i]?=some a->m (.ref a)):m v:=by obtain ⟨a,rfl,q⟩:=h.out;exact k a q
theorem VR.eStr{w:SW}(h:VR J (.str w) v)(k:∀x t,w.ev J=some x.cps.toList->m (.str x t)):m v:=by obtain ⟨i,t,rfl,q⟩:=h.out;exact k i t q
theorem ay.c{a:AV}{as:List AV}{vs:List Value}(h:ay J (a::as) vs):∃v r,vs=v::r/\VR J a v/\ay J as r:=by
 cases h with
 |cons h r=>exact ⟨_,_,rfl,h,r⟩
theorem ay.n{vs:List Value}(h:ay J [] vs):vs= []:=by
 cases h with
 |nil=>rfl
theorem ay.e{a:AV}{as:List AV}{vs:List Value}{m:List Value->Prop}(h:ay J (a::as) vs)(k:∀v r,VR J a v->ay J as r->m (v::r)):m vs:=by obtain ⟨v,r,rfl,h1,h2⟩:=h.c;exact k v r h1 h2
theorem ay.e0{vs:List Value}{m:List Value->Prop}(h:ay J [] vs)(k:m []):m vs:=h.n▸k
theorem ay.l1{a:AV}{vs:List Value}(h:ay J [a] vs):∃x,vs= [x]/\VR J a x:=by obtain ⟨x,r,rfl,h1,h⟩:=h.c;have aa:=h.n;clear h;subst aa;exact ⟨x,rfl,h1⟩
theorem ay.l2{a b:AV}{vs:List Value}(h:ay J [a,b] vs):∃x y,vs= [x,y]/\VR J a x/\VR J b y:=by obtain ⟨x,r,rfl,h1,h⟩:=h.c;obtain ⟨y,rfl,h2⟩:=h.l1;exact ⟨x,y,rfl,h1,h2⟩
theorem ay.l3{a b c:AV}{vs:List Value}(h:ay J [a,b,c] vs):∃x y z,vs= [x,y,z]/\VR J a x/\VR J b y/\VR J c z:=by obtain ⟨x,r,rfl,h1,h⟩:=h.c;obtain ⟨y,z,rfl,h2,h3⟩:=h.l2;exact ⟨x,y,z,rfl,h1,h2,h3⟩
theorem df.c{en:Array DictEntry}{n:Nm}{ns:List Nm}{vs:List AV}(h:df J en (n::ns) vs):∃a as x v,vs=a::as/\nm x=n/\nsFind en x=some v/\((n=fp\/n=fy)->(∃b,v= .bool b)->a= .bM)/\VR J a v/\df J en ns as:=by
 cases h with
 |cons hx hv hf h r=>exact ⟨_,_,_,_,rfl,hx,hv,hf,h,r⟩
end
theorem ay.length{J:G}{as:List AV}{vs:List Value}(h:ay J as vs):vs.length=as.length:=by
 induction as generalizing vs with
 |nil=>exact congrArg _ h.n
 |cons a as ih=>refine bp h.c λv r ai _ h2=>?_;have aa:=ai;clear h ai;subst aa;exact congrArg (· +1) (ih h2)
theorem ay.append{J:G}{bs:List AV}{us:List Value}(h':ay J bs us){as:List AV}{vs:List Value}(h:ay J as vs):ay J (as++bs) (vs++us):=by
 induction as generalizing vs with
 |nil=>exact h.n▸h'
 |cons a as ih=>exact h.e (m:=λvs=>ay J (a::as++bs) (vs++us)) λv r h1 h2=>.cons h1 (ih h2)
theorem ay.get{J:G}{as:List AV}{vs:List Value}(h:ay J as vs){i:Nat}{a:AV}(e:as[i]?=some a):∃v,vs[i]?=some v/\VR J a v:=by
 induction as generalizing vs i with
 |nil=>exact aD e
 |cons b as ih=>
  refine bp h.c λv r ai h1 h2=>?_;have aa:=ai;clear h ai;subst aa;cases i with
  |zero=>exact ⟨v,rfl,af e▸h1⟩
  |succ i=>exact ih h2 e
section
variable{v:AV}
theorem fq{i:Nat}(h:refOf v=some i):v= .ref i:=by cases v<;>first |exact aD h |exact congrArg _ (af h)
theorem dl{e:AI}(h:intOf v=some e):v= .int e:=by cases v<;>first |exact aD h |exact congrArg _ (af h)
theorem ft{l:SW}(h:strOf v=some l):v= .str l:=by cases v<;>first |exact aD h |exact congrArg _ (af h)
theorem ij{a:SW}{z:List Nat}(h:litS a=some z):a= .lit z:=by cases a<;>first |exact aD h |exact congrArg _ (af h)
theorem gg{a:AI}{i:Int}(h:cZ a=some i):a= .lit i:=by cases a<;>first |exact aD h |exact congrArg _ (af h)
theorem mG{i:Int}{n:Nat}(h:natOf i=some n):i=n:=by cases i<;>first |exact aD h |exact congrArg _ (af h)
theorem ip(h:dq v=true):v= .none:=by cases v<;>first |rfl |exact aE h
theorem wC{a:AO}{es:List (Nm×EV)}(h:FH a=some es):∃cap loc,a= .dict cap loc es:=by cases a<;>first |exact aD h |exact ⟨_,_,congrArg _ (af h)⟩
theorem Da{a:AO}{v:Option AV}(h:mU a=some v):a= .cell v:=by cases a<;>first |exact aD h |exact congrArg _ (af h)
theorem wQ{a:AO}{p:Nat×Nat}(h:nh a=some p):a= .inst p.1 p.2:=by cases a<;>first |exact aD h |exact af h▸rfl
theorem wD{a:AO}{p:Nat×Nat}(h:fA a=some p):a= .exc p.1 p.2:=by cases a<;>first |exact aD h |exact af h▸rfl
theorem mz{a:AO}{p:Option Nat×List AV}(h:asList a=some p):a= .list p.1 p.2:=by cases a<;>first |exact aD h |exact af h▸rfl
theorem jR{a:EV}{x:AV}(h:kh a=some x):a= .val x:=by cases a<;>first |exact aD h |exact congrArg _ (af h)
end
section
variable{Y β:Type}
theorem cW(a b:List Y):app a b=a++b:=tR (motive:=λa=>app a b=a++b) rfl (λx _ ih=>congrArg (jS x) ih) a
theorem len_eq(a:List Y):len a=a.length:=tR (motive:=λa=>len a=a.length) rfl (λ_ _ ih=>congrArg (· +1) ih) a
theorem dD(f:Y->β)(a:List Y):mp f a=a.map f:=tR (motive:=λa=>mp f a=a.map f) rfl (λx _ ih=>congrArg (jS (f x)) ih) a
theorem beq_refl(a:Nat):ag a a=true:=Nat.beq_refl a
theorem cf{b:Bool}{x y:β}(h:b=true):bf b x y=x:=by refine ae h ?_;rfl
theorem cu{b:Bool}{x y:β}(h:b=false):bf b x y=y:=by refine ae h ?_;rfl
theorem kN{b:Bool}{x y z:β}(c:b=true)(h:bf b x y=z):x=z:=(cf c).symm.trans h
theorem ma{b:Bool}{x y z:β}(c:b=false)(h:bf b x y=z):y=z:=(cu c).symm.trans h
theorem dS(a:List Y):∀n:Nat,nth a n=a[n]?:=tR (motive:=λa=>∀n,nth a n=a[n]?) (λ_=>rfl) (λ_ _ ih n=>ou n rfl ih) a
theorem bI{o:Option Y}{f:Y->Bool}(h:aj o f=true):∃a,o=some a/\f a=true:=by
 cases o with
 |none=>exact aE h
 |some a=>exact ⟨a,rfl,h⟩
theorem mV{b x:Bool}(h:bf b x false=true):b=true/\x=true:=by
 cases b with
 |false=>exact aE h
 |true=>exact ⟨rfl,h⟩
theorem kG{m:β->Prop}{o:Option Y}{z:β}{f:Y->β}(h0:o=none->m z)(h1:∀a,o=some a->m (f a)):m (oe z f o):=by
 cases o with
 |none=>exact h0 rfl
 |some a=>exact h1 a rfl
theorem cR{J:Type}{o:Option Y}{f:Y->Option J}{z:Option J}{b:J}(h:alt o f z=some b):(∃a,o=some a/\f a=some b)\/z=some b:=by
 cases o with
 |none=>exact .inr h
 |some a=>exact .inl ⟨a,rfl,h⟩
theorem dj{b:Bool}{x y:Option Y}{a:Y}(h:bf b x y=some a):(b=true/\x=some a)\/y=some a:=by
 cases b with
 |true=>exact .inl ⟨rfl,h⟩
 |false=>exact .inr h
theorem gB{m:β->Prop}{b:Bool}{x y:β}(h1:b=true->m x)(h0:b=false->m y):m (bf b x y):=by
 cases b with
 |true=>exact h1 rfl
 |false=>exact h0 rfl
theorem dm{f:Y->Bool}{l:List Y}(h:bF l f=true):∀a∈l,f a=true:=by
 induction l with
 |nil=>exact λa h=>nomatch h
 |cons x r ih=>refine au (mV (show bf (f x) (bF r f) false=true from h)) λq h=>?_;exact cT.mpr ⟨q,ih h⟩
theorem jZ(n m:Nm)(a:Y)(r:List (Nm×Y)):lk n ((m,a)::r)=bf (ag n m) (some a) (lk n r):=rfl
end
theorem wT(a:Nat)(l:List Nat):enc (a::l)=bf (aM a 126) (a+1+128* enc l) (128* (2 ^ a* (2* enc l+1))):=rfl
theorem Ef{x y:Nat}(h:2* x+1=2* y):False:=absurd ((Nl 2 x 1).symm.trans ((congrArg (· % 2) h).trans (MV 2 y))) (by decide)
theorem xL(n z:Nat):2 ^ (n+1)* z=2* (2 ^ n* z):=by rw [NJ,NI (2 ^ n) 2,Nat.mul_assoc]
theorem Pk{a:Nat}:∀{b x y:Nat},2 ^ a* (2* x+1)=2 ^ b* (2* y+1)->a=b/\x=y:=by
 induction a with
 |zero=>
  intro b x y h;have h:=(CE _).symm.trans h;cases b with
  |zero=>exact ⟨rfl,th (by decide:0< 2) (mC.inj (h.trans (CE _)))⟩
  |succ b=>exact (Ef (h.trans (xL b _))).elim
 |succ a ih=>
  intro b x y h;have h:=(xL a _).symm.trans h;cases b with
  |zero=>exact (Ef ((CE _).symm.trans h.symm)).elim
  |succ b=>exact (ih (th (by decide) (h.trans (xL b _)))).imp (congrArg _) id
theorem yH{a:Nat}(e:Nat)(h:a< 128):(a+128* e) % 128=a:=(Nat.add_mul_mod_self_left a 128 e).trans (Nd h)
theorem zP{a e v:Nat}(ha:a+1< 128)(h:a+1+128* e=128* v):False:=qi a ((yH e ha).symm.trans ((congrArg (· % 128) h).trans (MV 128 v)))
theorem XN{a b e f:Nat}(ha:a< 128)(hb:b< 128)(h:a+128* e=b+128* f):a=b/\e=f:=
 have m:a=b:=(yH e ha).symm.trans ((congrArg (· % 128) h).trans (yH f hb))
 ⟨m,th (by decide:0< 128) (MN (h.trans (congrArg (· +128* f) m.symm)))⟩
theorem qN{a:Nat}(c:aM a 126=true):a+1< 128:=tC (fg (bt c))
theorem FV{a:Nat}{l:List Nat}(h:enc (a::l)=0):False:=by
 have h:=(wT a l).symm.trans h;cases c:aM a 126 with
 |true=>exact zP (v:=0) (qN c) ((cf c).symm.trans h)
 |false=>exact Cz (CD (by decide) (CD (Nat.two_pow_pos a) (qo _))) ((cu c).symm.trans h)
theorem FU{a b:Nat}{l m:List Nat}(h:enc (a::l)=enc (b::m)):a=b/\enc l=enc m:=by
 have h:=(wT a l).symm.trans (h.trans (wT b m));cases c:aM a 126 with
 |true=>
  have h:=(cf c).symm.trans h;cases d:aM b 126 with
  |true=>exact (XN (qN c) (qN d) (h.trans (cf d))).imp mC.inj id
  |false=>exact (zP (qN c) (h.trans (cu d))).elim
 |false=>
  have h:=(cu c).symm.trans h;cases d:aM b 126 with
  |true=>exact (zP (qN d) ((cf d).symm.trans h.symm)).elim
  |false=>exact Pk (th (by decide) (h.trans (cu d)))
theorem mK{a:List Nat}:∀{b:List Nat},enc a=enc b->a=b:=by
 induction a with
 |nil=>
  intro b h;cases b with
  |nil=>rfl
  |cons y q=>exact (FV h.symm).elim
 |cons x r ih=>
  intro b h;cases b with
  |nil=>exact (FV h).elim
  |cons y q=>exact (FU h).1▸ih (FU h).2▸rfl
theorem dM{x y:Str}(h:nm x=nm y):x=y:=by have:=mK h;cases x;cases y;simp only [Str.mk.injEq];exact wn.mp this
end
noncomputable def ug(d d':Data):Prop:=∃en en' n n',d= .dict en n/\d'= .dict en' n'/\StrKeys en'/\UniqKeys en'/\
 ∀x:Str,nsFind en' x=nsFind en x\/((nm x=fp\/nm x=fy)/\(∃b,nsFind en x=some (.bool b))/\∃b,nsFind en' x=some (.bool b))
noncomputable def acv(d d':Data):Prop:=d'=d\/ug d d'
noncomputable def fU(o o':Obj):Prop:=o'=o\/(o'.cls=o.cls/\o'.dict=o.dict/\ug o.data o'.data)
theorem ug.isD{d d':Data}(h:ug d d'):∃en n,d= .dict en n:=by refine Uj h λen _ n _ e _=>?_;exact ⟨en,n,e⟩
theorem fU.cls{o o':Obj}(h:fU o o'):o'.cls=o.cls:=by
 rcases h with rfl |h
 ·rfl
 ·exact h.1
theorem fU.dict{o o':Obj}(h:fU o o'):o'.dict=o.dict:=by
 rcases h with rfl |h
 ·rfl
 ·exact h.2.1
theorem fU.data{o o':Obj}(h:fU o o'):acv o.data o'.data:=by
 rcases h with rfl |h
 ·exact .inl rfl
 ·exact .inr h.2.2
theorem fU.refl(o:Obj):fU o o:=.inl rfl
theorem fU.plain{o o':Obj}(h:fU o o')(hd:∀en n,o.data≠ .dict en n):o'=o:=h.elim id λh=>by refine jz h.2.2.isD λen n e=>?_;exact absurd e (hd en n)
noncomputable def DR(J:G):Option EV->Option Value->Prop
 |none,r=>r=none
 |some (.val a),r=>∃v,r=some v/\VR J a v
 |some .unk,_=>True
 |some (.ov k),r=>∃o,J.oO[k]?=some o/\(match o with |none=>r=none |some i=>∃v,r=some v/\VR J (cD (.lit i)) v)
 |some (.oi k),r=>∃o,J.oO[k]?=some o/\(match o with |none=>r=none |some i=>∃t,r=some (.int i t))
theorem DR.mono{J J':G}(l:J.Le J'){e:Option EV}{r:Option Value}(h:DR J e r):DR J' e r:=by
 cases e with
 |none=>exact h
 |some e=>
  cases e with
  |val a=>exact h.imp λv q=>⟨q.1,q.2.mono l⟩
  |unk=>trivial
  |ov k=>
   refine h.imp λo q=>⟨l.oO▸q.1,?_⟩;cases o with
   |none=>exact q.2
   |some i=>exact q.2.imp λv q=>⟨q.1,q.2.mono l⟩
  |oi k=>exact h.imp λo q=>⟨l.oO▸q.1,q.2⟩
noncomputable def fc(src:AV)(v:Value):String:=match src,v with
 | .tup _,_=>"tuple_iterator"
 | .str _,.str x _=>strIterType x
 |_,_=>"list_iterator"
noncomputable def eW(J:G)(src:AV)(pos:Nat)(o:Obj):Prop:=match src with
 | .int (.lit n)=>∃t t' t'',o={cls:=.type "range",dict:=none,data:=.fields #[.int 0 t,.int n t',.int 1 t''],slots:= #[]}
 |src=>∃v,VR J src v/\o.data= .fields #[v,.int pos 0]/\o.cls= .type (fc src v)
inductive Hf(J:G)(o:Obj)(C d:Nat):Prop
 |mk (b:Addr) (h1:o.cls= .ref C) (h2:notCls o=true) (h3:o.dict=some b) (h4:J.aA[d]?=some b):Hf J o C d
inductive Ha(J:G)(o:Obj)(cap:Nat)(loc:Bool)(es:List (Nm×EV)):Prop
 |mk (en:Array DictEntry) (n:Nat) (h0:es.length+cap<=1000000) (h1:o.data= .dict en n) (h2:loc=false->o.ExactDict/\KeysOf (strKind pw J.wd) en) (h3:StrKeys en) (h4:UniqKeys en) (h:∀x:Str,DR J (lk (nm x) es) (nsFind en x)):Ha J o cap loc es
inductive Ar(J:G)(k:Nat)(xs:List AV)(vs:Array Value):Prop
 |mk (N:List Note) (p q:List Value) (h1:J.pP[k]?=some N) (h2:N.length<=8000000) (h3:vs.toList=p++q) (h4:ay J (N.map Note.av) p) (h5:ay J xs q):Ar J k xs vs
inductive u0(J:G)(o:Obj)(C d:Nat):Prop
 |mk (vs:Array Value) (h1:isExc (eu C)=true) (h2:o.cls= .ref (eu C)) (h3:o.data= .fields vs) (h4:isExc C=true->vs[1]?=some .none) (h5:lG C=true->∃T,vs[1]?=some (.ref T)) (h6:(d=0/\o.dict=none)\/(d≠0/\∃b,o.dict=some b/\J.aA[d]?=some b)):u0 J o C d
noncomputable def u6(J:G)(xs:List AV)(vs:Array Value)(pre:Option Nat):Prop:=f0 (motive:=λ_=>Prop) pre (ay J xs vs.toList) λk=>Ar J k xs vs
noncomputable def Wu(J:G)(o:Obj)(v:Option AV):Prop:=f0 (motive:=λ_=>Prop) v (o.data= .cell none) λa=>∃w,o.data= .cell (some w)/\VR J a w
noncomputable def OR(J:G)(o:Obj)(a:AO):Prop:=AO.casesOn (motive:=λ_=>Prop) a (λC d=>Hf J o C d) (λcap loc es=>Ha J o cap loc es) (λpre xs=>∃vs n,o={cls:=.type "list",dict:=none,data:=.seq vs n,slots:= #[]}/\u6 J xs vs pre)
 (λsrc pos=>eW J src pos o) (λcur stop=>∃left,o={cls:=.type "range_iterator",dict:=none,data:=.fields #[rawInt cur,rawInt left,rawInt 1],slots:= #[]}/\(left=stop - cur\/(stop<=cur/\left<=0))) (λC d=>u0 J o C d) (λv=>Wu J o v)
theorem eW.mono{J J':G}(l:J.Le J'){src:AV}{pos:Nat}{o:Obj}(h:eW J src pos o):eW J' src pos o:=by
 have key:(∃v,VR J src v/\o.data= .fields #[v,.int pos 0]/\o.cls= .type (fc src v))->∃v,VR J' src v/\o.data= .fields #[v,.int pos 0]/\o.cls= .type (fc src v):=λh=>h.imp λv q=>⟨q.1.mono l,q.2⟩;cases src with
 |int e=>cases e<;>first |exact h |exact key h
 |_=>exact key h
theorem OR.mono{J J':G}(l:J.Le J'){a:AO}{o:Obj}(h:OR J o a):OR J' o a:=by
 cases a with
 |inst C d=>obtain ⟨b,h1,h2,h3,h4⟩:=h;exact ⟨b,h1,h2,h3,aN l.aA h4⟩
 |dict cap loc es=>obtain ⟨en,n,h0,h1,h2,h3,h4,h⟩:=h;exact ⟨en,n,h0,h1,l.wd▸h2,h3,h4,λx=>(h x).mono l⟩
 |list pre xs=>
  refine h.imp λvs h=>h.imp λn h=>⟨h.1,?_⟩;cases pre with
  |none=>exact ay.mono l h.2
  |some k=>obtain ⟨N,p,q,h3,h4,h5,h6,h⟩:=h.2;exact ⟨N,p,q,l.pP▸h3,h4,h5,h6.mono l,h.mono l⟩
 |du src pos=>exact eW.mono l h
 |rng cur stop=>exact h
 |exc C d=>obtain ⟨vs,h1,h2,h3,h4,h5,h6⟩:=h;exact ⟨vs,h1,h2,h3,h4,h5,h6.imp_right λr=>⟨r.1,r.2.imp λb r=>⟨r.1,aN l.aA r.2⟩⟩⟩
 |cell v=>
  cases v with
  |none=>exact h
  |some a=>exact h.imp λw q=>⟨q.1,q.2.mono l⟩
theorem Py{J:G}{o:Obj}{cap:Nat}(h:o.data= .dict #[] 0)(hc:cap<=1000000):OR J o (.dict cap true []):=⟨#[],0,aI (ck (bJ cap)) hc,h,λq=>cH q,λe he=>absurd he (MK e),.nil,λx=>rfl⟩
structure World1 where
 w:World
 hL:Heap
 L:Left w hL
 big:1074<=hL.objs.size
noncomputable def FF(hL:Heap)(l:List Env)(J:G)(h:Heap):Prop:=∀env∈l,env.scope.kind≠ .module/\∃L o,env.frame=some L/\hL.objs.size<=L/\h.get? L=some o/\(∀vs,o.data≠ .fields vs)/\L ∉ J.aA/\J.fz L=none
structure Pr where
 W:World1
 h₀:Heap
 f₀:Addr->Option Obj
 outer:List Env
 os:OsState
 a₀:List Addr
 gh:G->Prop
 gm:∀{a b:G},a.Le b->gh a->gh b
noncomputable def eg(ao:AO):Prop:=∃cap es,ao= .dict cap true es/\cap<=100000
noncomputable def nC(J:G)(vs:Array Value):Prop:=vs= #[]\/ ∃cc oo us t,vs= #[rawInt 847,rawInt 4,.ref cc]/\J.fz cc=some oo/\oo.data= .fields us/\us[1]?=some (.str jV t)
theorem nC.mono{J J':G}(l:J.Le J'){vs:Array Value}(h:nC J vs):nC J' vs:=h.imp_right λ ⟨cc,oo,us,t,h1,h2,h3⟩=>⟨cc,oo,us,t,h1,l.fz _ _ h2,h3⟩
inductive At(P:Pr)(J:G)(h:Heap)(v:Value):Prop
 |mk (T:Addr) (oT:Obj) (ts:Array Value) (fl:Value) (h1:v= .ref T) (h2:P.W.hL.objs.size<=T) (h2':P.h₀.objs.size<=T) (h3:T< h.objs.size) (h4:T ∉ J.aA) (h5:J.fz T=none) (h6:h.get? T=some oT) (h7:oT.data= .fields ts) (h8:ts[3]?=some fl):At P J h v
inductive kx(P:Pr)(J:G)(h:Heap)(a:Addr):Prop
 |mk (o:Obj) (vs:Array Value) (h1:J.fz a=none) (h2:h.get? a=some o) (h3:∃C,o.cls= .ref C) (h4:o.data= .fields vs) (h5:vs[1]?=some .none\/ ∃v,vs[1]?=some v/\At P J h v):kx P J h a
noncomputable def acw(P:Pr)(x:Option Nat)(h:Heap)(b:Addr)(o:Obj):Prop:=((x=none\/ ∀env∈P.outer,env.frame≠some b)->h.get? b=some o)/\∃sl,h.get? b=some {o with slots:=sl}
noncomputable def Ao(P:Pr)(h:Heap)(a:Addr)(o:Obj):Prop:=P.W.hL.objs.size<=a/\a< h.objs.size/\∃o',h.get? a=some o'/\fU o o'
noncomputable def acy(J:G)(h:Heap)(i:Nat)(ao:AO):Prop:=∃a o,J.aA[i]?=some a/\h.get? a=some o/\OR J o ao
noncomputable def acx(J:G)(st:St)(h:Heap)(a:Addr):Prop:=(∃o,h.get? a=some o/\∀vs,o.data≠ .fields vs)/\J.fz a=none/\a∈J.aA/\∀i ao,i< st.n->st.get i=some ao->J.aA[i]?=some a->eg ao
noncomputable def fF(J:G)(p:Nat×Option Nat):Prop:=f0 (motive:=λ_=>Prop) p.2 (J.oO[p.1]?=some none) λj=>∃i,J.oO[p.1]?=some (some i)/\J.iI[j]?=some i
theorem fF.mono{J J':G}(l:J.Le J'){p:Nat×Option Nat}(h:fF J p):fF J' p:=by
 obtain ⟨k,o⟩:=p;cases o with
 |none=>exact Eq.trans (congrArg (λl:List (Option Int)=>l[k]?) l.oO).symm h
 |some j=>exact h.imp λi q=>⟨Eq.trans (congrArg (λl:List (Option Int)=>l[k]?) l.oO).symm q.1,aN l.iI q.2⟩
theorem kx.like{P:Pr}{J J':G}{h:Heap}{a:Addr}(e1:J'.aA=J.aA)(e2:J'.fz=J.fz)(E:kx P J h a):kx P J' h a:=by
 cases E with
 |mk o vs h1 h2 h3 h4 h5=>
  refine .mk o vs (e2▸h1) h2 h3 h4 (h5.imp_right λq=>q.imp λv q=>⟨q.1,?_⟩);cases q.2 with
  |mk T oT ts fl g1 g2 By g3 g4 g5 g6 g7 g8=>exact .mk T oT ts fl g1 g2 By g3 (e1▸g4) (e2▸g5) g6 g7 g8
structure Rel(P:Pr)(J:G)(st:St)(s:Shared):Prop where
 wf:st.objs.WF 11
 eX:st.bnd.WF 11
 room:st.n<=2010
 bR:J.aA.length=st.n
 cY:J.iI.length=st.ni
 lenV:J.vV.length=st.nv
 eU:J.tA.length=st.nv
 old:∀b o,P.W.hL.get? b=some o->b≠1056->s.heap.get? b=some o
 x3:∃vs,s.heap.get? 1056=some ⟨.none,none,.fields vs, #[]⟩/\nC J vs
 range:∀a∈J.aA,P.W.hL.objs.size<=a/\a< s.heap.objs.size
 nodup:J.aA.Nodup
 objs:∀i ao,i< st.n->st.get i=some ao->acy J s.heap i ao
 apart:∀i ao a,i< st.n->st.get i=some ao->J.aA[i]?=some a->J.fz a=none
 fz:∀a o,J.fz a=some o->Ao P s.heap a o
 eZ:∀a o,P.f₀ a=some o->J.fz a=some o
 dh:∀a o,J.fz a=some o->P.f₀ a=some o\/a∈J.aA\/P.h₀.objs.size<=a
 frame:∀b o,P.h₀.get? b=some o->b ∉ J.aA->P.f₀ b=none->b≠1056->acw P st.x s.heap b o
 size:P.h₀.objs.size<=s.heap.objs.size
 big:P.W.hL.objs.size<=s.heap.objs.size
 ff:FF P.W.hL P.outer J s.heap
 exc:∀i,st.x=some i->∃a,J.aA[i]?=some a/\kx P J s.heap a
 fly:∀i C d,st.x=some i->i< st.n->st.get i=some (.exc C d)->isExc C=false
 wd:J.wd=P.W.w
 ej:∀z∈J.sS,z.length<=10000
 nf:∀a∈J.nf,acx J st s.heap a
 gh:P.gh J
 an:∀a∈J.aA,a∈P.a₀\/P.h₀.objs.size<=a
 gens:s.gens= #[]
 os_:s.os=P.os
 bnd:∀(k:Nat) (lo hi:Int),k< st.ni->st.bnd.get k=some (lo,hi)->∃i,J.iI[k]?=some i/\lo<=i/\i<=hi
 sub:∀p∈st.sub,J.iI[p.1]?=some p.2
 aU:∀p∈st.aU,fF J p
section
variable{P:Pr}{J:G}{st:St}{s:Shared}
theorem Rel.toks(R:Rel P J st s)(t:Nat):Rel P J st {s with toks:=t}:={R with}
theorem Rel.lt(R:Rel P J st s){i:Nat}{a:Addr}(e:J.aA[i]?=some a):i< st.n:=by refine bH R.bR ?_;exact (mn.mp e).1
theorem Rel.at_(R:Rel P J st s){i:Nat}{ao:AO}{v:Value}(e:st.get i=some ao)(h:VR J (.ref i) v):∃a o,v= .ref a/\J.aA[i]?=some a/\s.heap.get? a=some o/\OR J o ao/\J.fz a=none:=by refine am h.mP λa h1 ha=>?_;refine bp (R.objs i ao (R.lt ha) e) λb o hb ho r=>?_;have aa:=af (ha.symm.trans hb);clear hb;subst aa;exact ⟨a,o,h1,ha,ho,r,R.apart i ao a (R.lt ha) e ha⟩
theorem Rel.at'(R:Rel P J st s){i:Nat}{a:Addr}{ao:AO}(ha:J.aA[i]?=some a)(e:st.get i=some ao):∃o,s.heap.get? a=some o/\OR J o ao:=by refine bp (R.objs i ao (R.lt ha) e) λb o hb ho r=>?_;exact af (ha.symm.trans hb)▸⟨o,ho,r⟩
theorem Rel.inj(R:Rel P J st s){i j:Nat}{a:Addr}(hi:J.aA[i]?=some a)(hj:J.aA[j]?=some a):i=j:=(Ck (mn.mp hi).1 R.nodup).mp (hi.trans hj.symm)
theorem U1(P:Params):(K P).all (λp=>bh p.1 1074&& !(ag p.1 1056))=true:=by kernel_rfl
theorem Rel.k(R:Rel P J st s):(K P.W.w.params).In s.heap:=λa o e=>by have q:=P.W.L.k a o e;have z:=b7.mp (be.mp (U1 P.W.w.params) _ (lookup_mem e));refine R.old a o q ?_;rintro rfl;simp at z
theorem Rel.uT(R:Rel P J st s){a:Addr}(h:P.W.hL.isNs a=true)(ha:a≠1056):s.heap.get? a=P.W.hL.get? a:=by
 cases e:P.W.hL.get? a with
 |none=>unfold PY at h;rw [e] at h;cases h
 |some o=>exact R.old a o e ha
theorem Rel.main(R:Rel P J st s):s.heap.isNs mainGlobals=true:=(eL (R.uT P.W.L.main (by decide))).trans P.W.L.main
theorem Rel.blt(R:Rel P J st s):s.heap.isNs builtinsNs=true:=(eL (R.uT P.W.L.blt (by decide))).trans P.W.L.blt
theorem Rel.boot(R:Rel P J st s):∀x:Str,x≠"__name__"->s.heap.nsMap builtinsNs x=bootBuiltins x:=λx hx=>by refine ae (mH (a:=builtinsNs) (h:=s.heap) (h':=P.W.hL) (R.uT P.W.L.blt (by decide))) ?_;exact P.W.L.boot x hx
theorem QZ(P:Params):nsIn (K P) cStatics "sys.recursionlimit"=some none:=by kernel_rfl
set_option tactic.hygienic true in
theorem CI{K:Frag}{h:Heap}{a:Addr}{n:Str}(X:K.In h)(e:nsIn K a n=some none):h.nsMap a n=none:=by
 unfold nsIn at e
 split at e
 ·rename_i c d es n' sl q
  have hg:=X _ _ q
  split at e
  ·cases e
  ·rename_i he
   unfold Pn;refine ae hg ?_;show nsFind es n=none;unfold nsFind findBy;refine bH (mq) (ae he ?_);rfl
 ·cases e
theorem Rel.stat(R:Rel P J st s):s.heap.isNs cStatics=true:=(eL (R.uT P.W.L.st (by decide))).trans P.W.L.st
theorem Rel.nolimit(R:Rel P J st s):s.heap.NoLimit:=⟨_,.of_isNs R.stat,CI R.k (QZ _)⟩
theorem St.get_set(st:St)(hw:st.objs.WF 11){i j:Nat}(o:AO)(hi:i< 2048)(hj:j< 2048):(st.set i o).get j=if j=i then some o else st.get j:=by obtain ⟨objs,n,ni,nv,bnd,sub,aU,x⟩:=st;exact TM.mL (some o) 11 objs i j hw hi hj
theorem St.qH(st:St)(hw:st.objs.WF 11){j:Nat}(o:AO)(hi:st.n< 2048)(hj:j< 2048):(st.push o).get j=if j=st.n then some o else st.get j:=by obtain ⟨objs,n,ni,nv,bnd,sub,aU,x⟩:=st;exact TM.mL (some o) 11 objs n j hw hi hj
theorem St.je(st:St)(hw:st.objs.WF 11){i j:Nat}(hi:i< 2048)(hj:j< 2048):(st.drop i).get j=if j=i then none else st.get j:=by obtain ⟨objs,n,ni,nv,bnd,sub,aU,x⟩:=st;exact TM.mL none 11 objs i j hw hi hj
theorem fD{o:AO}{st':St}(h:ca st o=some st'):st.n<=2000/\st'=st.push o:=(fu h).imp bt λh=>(af h).symm
structure St.Like(a b:St):Prop where
 ni:a.ni=b.ni
 nv:a.nv=b.nv
 bnd:a.bnd=b.bnd
 sub:a.sub=b.sub
 aU:a.aU=b.aU
 x:a.x=b.x
theorem St.Like.refl(st:St):st.Like st:=⟨rfl,rfl,rfl,rfl,rfl,rfl⟩
theorem St.El(st:St)(i:Nat)(o:AO):(st.set i o).Like st:=⟨rfl,rfl,rfl,rfl,rfl,rfl⟩
theorem St.QG(st:St)(o:AO):(st.push o).Like st:=⟨rfl,rfl,rfl,rfl,rfl,rfl⟩
theorem St.Qc(st:St)(i:Nat):(st.drop i).Like st:=⟨rfl,rfl,rfl,rfl,rfl,rfl⟩
theorem Rel.F8(R:Rel P J st s):s.heap.objs.size ∉ J.aA:=λq=>wr _ (R.range _ q).2
theorem Rel.step{J':G}{st':St}{h':Heap}(R:Rel P J st s)(le:J.Le J')(T:Addr->Prop)(k:∀b o,s.heap.get? b=some o->¬ T b->h'.get? b=some o)(sz:s.heap.objs.size<=h'.objs.size)(hT:∀b,T b->P.W.hL.objs.size<=b/\(b∈J.aA\/ ∃o,J.fz b=some o))
  (L:st'.Like st) (W:st'.objs.WF 11) (rm:st'.n<=2010) (g:J'.iI=J.iI/\J'.vV=J.vV/\J'.tA=J.tA/\J'.nf=J.nf) (ln:J'.aA.length=st'.n) (nd:J'.aA.Nodup) (nA:∀b∈J'.aA,b∈J.aA\/(s.heap.objs.size<=b/\b< h'.objs.size))
  (nz:∀b o,J'.fz b=some o->(J.fz b=some o/\¬ T b)\/((J.fz b=some o\/b∈J.aA\/s.heap.objs.size<=b)/\Ao P h' b o))
  (ob:∀i ao,i< st'.n->st'.get i=some ao->∃a o,J'.aA[i]?=some a/\h'.get? a=some o/\OR J' o ao/\J'.fz a=none/\(a∈J.nf->eg ao))
  (hx:∀i a,st.x=some i->J.aA[i]?=some a->¬ T a/\J'.fz a=none) (fl:∀i C d,st.x=some i->i< st'.n->st'.get i=some (.exc C d)->isExc C=false) (nf:∀a∈J.nf,J'.fz a=none/\(T a->∃o,h'.get? a=some o/\∀vs,o.data≠ .fields vs)):Rel P J' st' {s with heap:=h'}:=by
 have Ku:∀{b},b< P.W.hL.objs.size->¬ T b:=λh q=>cV.mpr (hT _ q).1 h;have far:∀{b},b< s.heap.objs.size->b ∉ J.aA->J.fz b=none->b ∉ J'.aA/\J'.fz b=none/\¬ T b:=λ {b} h1 h2 h3=>by
  refine ⟨λq=>(nA b q).elim h2 λq=>cV.mpr q.1 h1,?_,λq=>(hT b q).2.elim h2 λ ⟨o,q⟩=>aD (h3.symm.trans q)⟩;cases q:J'.fz b with
  |none=>rfl
  |some o=>exact (nz b o q).elim (λq=>aD (h3.symm.trans q.1)) λq=>q.1.elim (λq=>aD (h3.symm.trans q)) λq=>q.elim (λq=>(h2 q).elim) λq=>(cV.mpr q h1).elim
 refine {wf:=W,eX:=L.bnd▸R.eX,room:=rm,bR:=ln,cY:=(congrArg _ g.1).trans (R.cY.trans L.ni.symm),lenV:=(congrArg _ g.2.1).trans (R.lenV.trans L.nv.symm),eU:=(congrArg _ g.2.2.1).trans (R.eU.trans L.nv.symm),old:=λb o h hn=>k b o (R.old b o h hn) (Ku (cU h)),x3:=?_,range:=λb hb=>?_,nodup:=nd,objs:=λi ao hi e=>?_,apart:=λi ao a hi e ha=>?_,fz:=λb o e=>?_,eZ:=λb o e=>le.fz b o (R.eZ b o e),dh:=λb o e=>?_,frame:=λb o e hb hf hn=>?_,size:=aI R.size sz,big:=aI R.big sz,ff:=λenv he=>?_,exc:=λi e=>?_,fly:=λi C d e=>fl i C d (L.x▸e),wd:=le.wd.trans R.wd,ej:=le.sS▸R.ej,nf:=λa ha=>?_,gh:=P.gm le R.gh,an:=λb hb=>(nA b hb).elim (R.an b) λq=>.inr (aI R.size q.1),gens:=R.gens,os_:=R.os_,bnd:=g.1▸L.bnd▸L.ni▸R.bnd,sub:=g.1▸L.sub▸R.sub,aU:=λp hp=>(R.aU p (L.aU▸hp)).mono le}
 ·refine am R.x3 λvs e ht=>?_
  exact ⟨vs,k _ _ e (Ku (bz (by decide) P.W.big)),ht.mono le⟩
 ·exact (nA b hb).elim (λq=>⟨(R.range b q).1,bz (R.range b q).2 sz⟩) λq=>⟨aI R.big q.1,q.2⟩
 ·refine qR (ob i ao hi e) λa o h1 h2 h3 _=>?_
  exact ⟨a,o,h1,h2,h3⟩
 ·refine mF (ob i ao hi e) λa' o h1 _ _ h4 _=>?_
  exact af (ha.symm.trans h1)▸h4
 ·refine (nz b o e).elim (λq=>?_) λq=>q.2
  refine fB (R.fz b o q.1) λh1 h2 o' h3 h4=>?_;exact ⟨h1,bz h2 sz,o',k b o' h3 q.2,h4⟩
 ·have up:J.fz b=some o->P.f₀ b=some o\/b∈J'.aA\/P.h₀.objs.size<=b:=λq=>(R.dh b o q).imp_right λq=>q.imp_left (le.aA.subset ·)
  exact (nz b o e).elim (λq=>up q.1) λq=>q.1.elim up λq=>.inr (q.imp (le.aA.subset ·) (aI R.size))
 ·have n1:b ∉ J.aA:=λq=>hb (le.aA.subset q)
  have n2:¬ T b:=λq=>(hT b q).2.elim n1 λ ⟨o',q⟩=>(R.dh b o' q).elim (λq=>aD (hf.symm.trans q)) λq=>q.elim n1 λq=>cV.mpr q (cU e);refine nE (R.frame b o e n1 hf hn) λq1 sl q2=>?_;exact ⟨λhx=>k _ _ (q1 (L.x▸hx)) n2,sl,k _ _ q2 n2⟩
 ·refine gb (R.ff env he) λh1 l o h2 h3 h4 h5 h6 h7=>?_
  refine fP (far (cU h4) h6 h7) λn1 n2 n3=>?_;exact ⟨h1,l,o,h2,h3,k _ _ h4 n3,h5,n1,n2⟩
 ·refine am (R.exc i (L.x▸e)) λa ha E=>?_
  refine au (hx i a (L.x▸e) ha) λn1 n2=>?_;cases E with
  |mk o vs h1 h2 h3 h4 h5=>
   refine ⟨a,aN le.aA ha,.mk o vs n2 (k _ _ h2 n1) h3 h4 (h5.imp_right λq=>q.imp λv q=>⟨q.1,?_⟩)⟩;cases q.2 with
   |mk U oT ts fl g1 g2 By g3 g4 g5 g6 g7 g8=>refine fP (far g3 g4 g5) λm1 m2 m3=>?_;exact .mk U oT ts fl g1 g2 By (bz g3 sz) m1 m2 (k _ _ g6 m3) g7 g8
 ·rw [g.2.2.2] at ha
  obtain ⟨⟨o,h1,h2⟩, -,h4, -⟩:=R.nf a ha;refine ⟨(Classical.em (T a)).elim (nf a ha).2 λq=>⟨o,k _ _ h1 q,h2⟩,(nf a ha).1,le.aA.subset h4,λi ao hi e hb=>?_⟩;refine mF (ob i ao hi e) λa' o' q1 _ _ _ q5=>?_;exact q5 (af (hb.symm.trans q1)▸ha)
theorem Rel.data{J':G}{st':St}(R:Rel P J st s)(le:J.Le J')(e1:J'.aA=J.aA)(e2:J'.fz=J.fz)(e3:J'.nf=J.nf)(o1:st'.objs=st.objs)(o2:st'.n=st.n)(o3:st'.x=st.x)(eX:st'.bnd.WF 11)(lI:J'.iI.length=st'.ni)(lV:J'.vV.length=st'.nv)(lT:J'.tA.length=st'.nv)
  (bnd:∀(k:Nat) (lo hi:Int),k< st'.ni->st'.bnd.get k=some (lo,hi)->∃i,J'.iI[k]?=some i/\lo<=i/\i<=hi) (sub:∀p∈st'.sub,J'.iI[p.1]?=some p.2) (aU:∀p∈st'.aU,fF J' p):Rel P J' st' s:=by
 have gt:∀{i ao},st'.get i=some ao->st.get i=some ao:=λh=>(congrArg (λt:TM AO=>t.get _) o1).symm.trans h;refine {wf:=o1▸R.wf,eX:=eX,room:=o2▸R.room,bR:=e1▸o2▸R.bR,cY:=lI,lenV:=lV,eU:=lT,old:=R.old,x3:=R.x3.imp λvs h=>⟨h.1,h.2.mono le⟩,range:=e1▸R.range,nodup:=e1▸R.nodup,objs:=λi ao hi e=>(R.objs i ao (o2▸hi) (gt e)).imp λa h=>h.imp λo h=>⟨aN le.aA h.1,h.2.1,h.2.2.mono le⟩,apart:=λi ao a hi e h=>e2▸R.apart i ao a (o2▸hi) (gt e) (e1▸h),fz:=e2▸R.fz,eZ:=e2▸R.eZ,dh:=e2▸e1▸R.dh,frame:=o3▸e1▸R.frame,size:=R.size,big:=R.big,ff:=λenv he=>?_,exc:=λi e=>(R.exc i (o3▸e)).imp λa h=>⟨aN le.aA h.1,h.2.like e1 e2⟩,fly:=λi C d e hi h=>R.fly i C d (o3▸e) (o2▸hi) (gt h),wd:=le.wd.trans R.wd,ej:=le.sS▸R.ej,nf:=λa ha=>?_,gh:=P.gm le R.gh,an:=e1▸R.an,gens:=R.gens,os_:=R.os_,bnd:=bnd,sub:=sub,aU:=aU}
 ·exact e1▸e2▸R.ff env he
 ·refine jw (R.nf a (e3▸ha)) λh1 h2 h3 h4=>?_
  exact ⟨h1,e2▸h2,e1▸h3,λi ao hi e hb=>h4 i ao (o2▸hi) (gt e) (e1▸hb)⟩
theorem Rel.keep(R:Rel P J st s){J':G}{h':Heap}(le:J.Le J'){i:Nat}{ao:AO}(hi:i< st.n)(e:st.get i=some ao)(k:∀a o,J.aA[i]?=some a->s.heap.get? a=some o->J.fz a=none->h'.get? a=some o/\J'.fz a=none):∃a o,J'.aA[i]?=some a/\h'.get? a=some o/\OR J' o ao/\J'.fz a=none/\(a∈J.nf->eg ao):=by refine bp (R.objs i ao hi e) λa o h1 h2 h3=>?_;refine au (k a o h1 h2 (R.apart i ao a hi e h1)) λq1 q2=>?_;exact ⟨a,o,aN le.aA h1,q1,h3.mono le,q2,λq=>(R.nf a q).2.2.2 i ao hi e h1⟩
theorem Rel.kF(R:Rel P J st s){i:Nat}(h:i< st.n):i< 2048:=bz h (aI R.room (by decide))
theorem Rel.upd(R:Rel P J st s){i:Nat}{a:Addr}{h':Heap}{o':Obj}{b9:AO}(hi:J.aA[i]?=some a)(hz:J.fz a=none)(hxi:st.x≠some i)(hs:eJ a s.heap h')(ho:h'.get? a=some o')(r:OR J o' b9)(hk:eg b9\/ ∃ao,st.get i=some ao/\¬ eg ao):Rel P J (st.set i b9) {s with heap:=h'}:=by
 have fld:a∈J.nf->eg b9:=λq=>hk.elim id λ ⟨ao,h1,h2⟩=>(h2 ((R.nf a q).2.2.2 i ao (R.lt hi) h1 hi)).elim;have gs:∀{j},j< st.n->(st.set i b9).get j=if j=i then some b9 else st.get j:=λhj=>St.get_set st R.wf b9 (R.kF (R.lt hi)) (R.kF hj);refine R.step (.refl J) (· =a) (λb o h n=>(hs.2 b n).trans h) (ck hs.1.symm) (λb q=>q▸⟨(R.range a (bx hi)).1,.inl (bx hi)⟩) (st.El i b9) (TM.iy _ _ _ _ R.wf) R.room ⟨rfl,rfl,rfl,rfl⟩ R.bR R.nodup (λb h=>.inl h) (λb o e=>.inl ⟨e,λq=>aD (hz.symm.trans (q▸e))⟩) (λj ao hj e=>?_)
  (λj b e hb=>⟨λq=>hxi (R.inj hi (q▸hb)▸e),?_⟩) (λj C d e hj h=>?_) λb hb=>⟨(R.nf b hb).2.1,λq=>⟨o',q▸ho,?_⟩⟩
 ·rw [gs hj] at e
  by_cases q:j=i
  ·rw [if_pos q] at e
   exact ⟨a,o',q▸hi,ho,af e▸r,hz,λq=>af e▸fld q⟩
  ·rw [if_neg q] at e
   exact R.keep (.refl J) hj e λb o h1 h2 h3=>⟨(hs.2 b λz=>q (R.inj (z▸h1) hi)).trans h2,h3⟩
 ·refine am (R.exc j e) λc h1 E=>?_
  cases E with
  |mk o vs h2=>exact af (h1.symm.trans hb)▸h2
 ·have hj':j< st.n:=hj
  rw [gs hj'] at h
  by_cases q:j=i
  ·exact absurd (q▸e) hxi
  ·rw [if_neg q] at h
   exact R.fly j C d e hj' h
 ·refine ba (fld (q▸hb)) λcap es hd _=>?_
  rw [hd] at r;obtain ⟨en,n, -,z, -⟩:=r;exact λvs h=>nomatch z.symm.trans h
noncomputable def G.push(J:G)(a:Addr):G:={J with aA:=J.aA++ [a]}
theorem G.d8(J:G)(a:Addr):J.Le (J.push a):=⟨⟨[a],rfl⟩,bT _,bT _,rfl,rfl,rfl,bT _,λ_ _ e=>e,rfl,λ_ h=>h⟩
theorem CA{h:Heap}{b:Addr}(o:Obj)(hlt:b< h.objs.size):(h.push o).get? b=h.get? b:=by unfold wB;exact ae (show (h.push o).objs[b]?=h.objs[b]? from (MJ).trans (if_neg (gR hlt))) rfl
theorem Rel.xx(R:Rel P J st s):J.fz s.heap.objs.size=none:=by
 cases q:J.fz s.heap.objs.size with
 |none=>rfl
 |some o=>exact absurd (R.fz _ _ q).2.1 (wr _)
theorem Rel.excAt(R:Rel P J st s){i:Nat}{a:Addr}(e:st.x=some i)(ha:J.aA[i]?=some a):kx P J s.heap a:=by refine am (R.exc i e) λb h1 h2=>?_;exact af (h1.symm.trans ha)▸h2
theorem kx.fz{h:Heap}{a:Addr}(E:kx P J h a):J.fz a=none:=by
 cases E with
 |mk o vs h1=>exact h1
theorem Rel.new(R:Rel P J st s){o:Obj}{ao:AO}(hf:o.isFreed=false)(r:OR (J.push s.heap.objs.size) o ao)(hn:st.n<=2000):Rel P (J.push s.heap.objs.size) (st.push ao) {s with heap:=s.heap.push o}/\(J.push s.heap.objs.size).aA[st.n]?=some s.heap.objs.size:=by
 have le:=J.d8 s.heap.objs.size;have uK:(J.push s.heap.objs.size).aA[st.n]?=some s.heap.objs.size:=R.bR▸Mr;have lt:∀{j},j< st.n+1->j< 2048:=λh=>bz h (i7 (aI hn (by decide)));have gs:∀{j},j< st.n+1->(st.push ao).get j=if j=st.n then some ao else st.get j:=λhj=>St.qH st R.wf ao (lt (og _)) (lt hj)
 refine ⟨R.step le (λ_=>False) (λb o' h _=>gN _ h) (by rw [gQ];exact oz _) (λ_ h=>h.elim) (st.QG ao) (TM.iy _ _ _ _ R.wf) (aI (i7 hn) (by decide)) ⟨rfl,rfl,rfl,rfl⟩ (by show (J.aA++ [_]).length=st.n+1;rw [cJ,R.bR];rfl) ?_ (λb hb=>?_) (λb o' e=>.inl ⟨e,id⟩) (λj b9 hj e=>?_)
  (λj b e hb=>⟨id,(R.excAt e hb).fz⟩) (λj C d e hj h=>?_) λb hb=>⟨(R.nf b hb).2.1,False.elim⟩,uK⟩
 ·exact aeo.mpr ⟨R.nodup,List.pairwise_singleton _ _,λx hx y hy e=>R.F8 (fe.mp hy▸e▸hx)⟩
 ·refine (dZ.mp hb).imp_right λq=>?_
  rw [fe.mp q,gQ];exact ⟨cG _,og _⟩
 ·rw [gs hj] at e
  by_cases q:j=st.n
  ·rw [if_pos q] at e
   exact ⟨_,o,q▸uK,k7 _ hf,af e▸r,R.xx,λz=>(R.F8 (R.nf _ z).2.2.1).elim⟩
  ·rw [if_neg q] at e
   exact R.keep le (Cj (aen hj) q) e λb o h1 h2 h3=>⟨gN _ h2,h3⟩
 ·rw [gs hj] at h
  refine am (R.exc j e) λb h1 _=>?_;rw [if_neg (gR (R.lt h1))] at h;exact R.fly j C d e (R.lt h1) h
noncomputable def G.cF(J:G)(a:Addr)(o:Obj):G:={J with fz:=λx=>if x=a then some o else J.fz x}
theorem G.oU{J:G}{a:Addr}(o:Obj)(h:J.fz a=none):J.Le (J.cF a o):=⟨bT _,bT _,bT _,rfl,rfl,rfl,bT _,λx ob e=>(if_neg λq=>aD (h.symm.trans (q▸e))).trans e,rfl,λ_ h=>h⟩
theorem G.xw{J:G}{a b:Addr}{o o':Obj}(h:(J.cF a o).fz b=some o'):(b=a/\o'=o)\/J.fz b=some o':=by
 by_cases q:b=a
 ·exact .inl ⟨q,(af ((if_pos q).symm.trans h)).symm⟩
 ·exact .inr ((if_neg q).symm.trans h)
theorem Rel.zR(R:Rel P J st s){o:Obj}(hf:o.isFreed=false):Rel P (J.cF s.heap.objs.size o) st {s with heap:=s.heap.push o}/\J.Le (J.cF s.heap.objs.size o)/\(J.cF s.heap.objs.size o).fz s.heap.objs.size=some o:=by
 have le:=G.oU o R.xx;have hfn:∀{b},b< s.heap.objs.size->(J.cF s.heap.objs.size o).fz b=J.fz b:=λh=>if_neg (gR h)
 refine ⟨R.step le (λ_=>False) (λb o' h _=>gN _ h) (by rw [gQ];exact oz _) (λ_ h=>h.elim) (.refl st) R.wf R.room ⟨rfl,rfl,rfl,rfl⟩ R.bR R.nodup (λb h=>.inl h) (λb o' e=>?_) (λj ao hj e=>R.keep le hj e λb o' h1 h2 h3=>⟨gN _ h2,(hfn (cU h2)).trans h3⟩)
  (λj b e hb=>⟨id,(hfn (R.range b (bx hb)).2).trans (R.excAt e hb).fz⟩) (λj C d e hj h=>R.fly j C d e hj h) λb hb=>⟨(hfn (R.range b (R.nf b hb).2.2.1).2).trans (R.nf b hb).2.1,False.elim⟩,le,if_pos rfl⟩
 rcases G.xw e with ⟨rfl,rfl⟩ |e
 ·exact .inr ⟨.inr (.inr (cG _)),R.big,by rw [gQ];exact og _,o',k7 _ hf,.refl _⟩
 ·exact .inl ⟨e,id⟩
theorem Rel.flag(R:Rel P J st s){a:Addr}{h':Heap}{o o':Obj}(hz:J.fz a=some o)(hs:eJ a s.heap h')(ho:h'.get? a=some o')(AC:fU o o'):Rel P J st {s with heap:=h'}:=by
 refine fP (R.fz a o hz) λra rb _=>?_;have ne:∀{b},J.fz b=none->b≠a:=λh q=>aD (h.symm.trans (q▸hz));refine R.step (.refl J) (· =a) (λb o h n=>(hs.2 b n).trans h) (ck hs.1.symm) (λb q=>q▸⟨ra,.inr ⟨o,hz⟩⟩) (.refl st) R.wf R.room ⟨rfl,rfl,rfl,rfl⟩ R.bR R.nodup (λb h=>.inl h) (λb o e=>?_) (λj ao hj e=>R.keep (.refl J) hj e λb o h1 h2 h3=>⟨(hs.2 b (ne h3)).trans h2,h3⟩)
  (λj b e hb=>⟨ne (R.excAt e hb).fz,(R.excAt e hb).fz⟩) (λj C d e hj h=>R.fly j C d e hj h) λb hb=>⟨(R.nf b hb).2.1,λq=>(ne (R.nf b hb).2.1 q).elim⟩
 by_cases q:b=a
 ·subst q
  exact .inr ⟨.inl e,ra,by refine ae hs.1 ?_;exact rb,o',ho,af (hz.symm.trans e)▸AC⟩
 ·exact .inl ⟨e,q⟩
theorem Rel.jp(R:Rel P J st s){i:Nat}{a:Addr}{o:Obj}(hi:J.aA[i]?=some a)(ho:s.heap.get? a=some o)(h:(∀vs,o.data≠ .fields vs)\/ ∃T,o.cls= .type T):st.x≠some i:=λe=>by
 cases R.excAt e hi with
 |mk o' vs q1 q3 q4 q5=>have aa:=af (ho.symm.trans q3);clear q3;subst aa;exact h.elim (λh=>h vs q5) λ ⟨T,h⟩=>q4.elim λC q4=>nomatch h.symm.trans q4
end
noncomputable def vX:List (Str×Nat):=[
 (("_wall":Str),21),
 (("CoveError":Str),31),
 (("Refusal":Str),51),
 (("RError":Str),70),
 (("LimitReached":Str),89),
 (("ReturnSignal":Str),108),
 (("LoopSignal":Str),127),
 (("Matching":Str),186),
 (("doubled_text":Str),197),
 (("argument_text":Str),204),
 (("unused_text":Str),209),
 (("match_names":Str),215),
 (("lookup_here":Str),222),
 (("lookup":Str),229),
 (("holder":Str),236),
 (("locked_text":Str),243),
 (("define":Str),250),
 (("up_holder":Str),257),
 (("assign_up":Str),264),
 (("Null":Str),281),
 (("Missing":Str),302),
 (("Vector":Str),331),
 (("Symbol":Str),352),
 (("Call":Str),374),
 (("Closure":Str),396),
 (("Builtin":Str),417),
 (("Environment":Str),439),
 (("Promise":Str),460),
 (("Dots":Str),481),
 (("null":Str),492),
 (("missing":Str),499),
 (("whole":Str),506),
 (("text":Str),513),
 (("symbol":Str),520),
 (("call_of":Str),527),
 (("is_atomic":Str),534),
 (("is_function":Str),541),
 (("share":Str),548),
 (("done_promise":Str),555),
 (("bound_argument":Str),562),
 (("dots_argument":Str),569),
 (("default_binding":Str),576),
 (("bind_formals":Str),582),
 (("dots_of":Str),589),
 (("is_dots_place":Str),596),
 (("dots_place":Str),603),
 (("is_empty_name":Str),610),
 (("target_chain":Str),617),
 (("fetch_target":Str),624),
 (("store_target":Str),631),
 (("end_loose":Str),638),
 (("tmp_call":Str),645),
 (("special_value":Str),652),
 (("closure_value":Str),659),
 (("has_class":Str),666),
 (("builtin_value":Str),673),
 (("told_call":Str),680),
 (("apply_getter":Str),688),
 (("shown_value":Str),695),
 (("apply_setter":Str),703),
 (("special_setter":Str),710),
 (("assign_complex":Str),718),
 (("need":Str),725),
 (("s_brace":Str),732),
 (("target_name":Str),739),
 (("assign":Str),746),
 (("s_assign":Str),753),
 (("s_assign_up":Str),760),
 (("Frame":Str),777),
 (("Evaluator":Str),987),
 (("_law_draw":Str),998),
 (("_law_index":Str),1005),
 (("_law_statement":Str),1012),
 (("_law_made":Str),1019),
 (("_law_target":Str),1026),
 (("_law_mixed":Str),1033),
 (("_law_word":Str),1040),
 (("_law_called":Str),1047),
 (("_law_read":Str),1054),
 (("_law_builtin":Str),1061),
 (("_law_note":Str),1068),
 (("law":Str),1073)]
theorem abU(l:List (Str×Nat)):∀{x:Str} {a:Nat},lk (nm x) (l.map λp=>(nm p.1,p.2))=some a->(x,a)∈l:=by
 induction l with
 |nil=>intro x a h;cases h
 |cons p r ih=>
  intro x a h;rw [om,jZ] at h;cases c:ag (nm x) (nm p.1) with
  |true=>rw [cf c] at h;cases h;refine ae (dM (aH c)) ?_;exact .head _
  |false=>rw [cu c] at h;exact .tail _ (ih h)
theorem X0:BR=vX.map λp=>(nm p.1,p.2):=by kernel_rfl
theorem X2(P:Params):(vX.all λp=>nsIn (K P) mainGlobals p.1==some (some (.ref p.2)))=true:=by kernel_rfl
noncomputable def vK:List (Str×AV×Value):=[("len",.bi 0,.builtin "len"),("list",.typ 0,.type "list"),("range",.typ 1,.type "range"),("isinstance",.bi 2,.builtin "isinstance"),("ord",.bi 1,.builtin "ord"),("str",.typ 2,.type "str")]
theorem WI:Db=vK.map λp=>(nm p.1,p.2.1):=by kernel_rfl
theorem WJ(P:Params):(vK.all λp=>nsIn (K P) mainGlobals p.1==some none&&bootBuiltins p.1==some p.2.2&& !(p.1==("__name__":Str))&& !(p.1==("__debug__":Str)))=true:=by kernel_rfl
theorem abb(J:G):∀p∈vK,VR J p.2.1 p.2.2:=cT.mpr ⟨.bi 0,cT.mpr ⟨.typ 0,cT.mpr ⟨.typ 1,cT.mpr ⟨.bi 2,cT.mpr ⟨.bi 1,eH.mpr (.typ 2)⟩⟩⟩⟩⟩
theorem X1:(vX.all λp=> !(p.1==("__debug__":Str)))=true:=by kernel_rfl
theorem abc(l:List (Str×AV×Value)):∀{x:Str} {a:AV},lk (nm x) (l.map λp=>(nm p.1,p.2.1))=some a->∃v,(x,a,v)∈l:=by
 induction l with
 |nil=>intro x a h;cases h
 |cons p r ih=>
  intro x a h;rw [om,jZ] at h;cases c:ag (nm x) (nm p.1) with
  |true=>rw [cf c] at h;cases h;refine ae (dM (aH c)) ?_;exact ⟨p.2.2,.head _⟩
  |false=>rw [cu c] at h;obtain ⟨v,hv⟩:=ih h;exact ⟨v,.tail _ hv⟩
noncomputable def ak(e:gA):Scope:=e.sub.getD (bK (aX e.fi))
noncomputable def ez(J:G)(cells:List (Str×Addr))(x:Str):Option cL->Prop
 |none=>True
 |some (.at i)=>∃a,cells.lookup x=some a/\J.aA[i]?=some a
 |some (.con _ v)=>∃a o w,cells.lookup x=some a/\J.fz a=some o/\o.data= .cell (some w)/\VR J v w
structure cA(J:G)(e:gA)(env:Env):Prop where
 scope:∀x c,(ak e).names.lookup x=some c->env.kindOf x=some c\/(c= .free/\env.kindOf x=some .cell)
 kind:env.scope.kind= .function
 loc:J.aA[e.loc]?=some env.locals
 glob:env.globals=mainGlobals
 blt:env.builtins=builtinsNs
 frm:∃a,J.aA[e.frm]?=some a/\env.frame=some a/\a∈J.nf
 cells:∀x:Str,ez J env.cells x (lk (nm x) e.cells)
 code:e.sub=none->e.fi=1061->env.code= .ref 1060/\env.qual="_law_builtin.<locals>."
theorem ez.mono{J J':G}(l:J.Le J'){cells:List (Str×Addr)}{x:Str}{c:Option cL}(h:ez J cells x c):ez J' cells x c:=by
 cases c with
 |none=>trivial
 |some c=>
  cases c with
  | «at» i=>exact h.imp λa h=>⟨h.1,aN l.aA h.2⟩
  |con k v=>refine qG h λa o w h1 h2 h3 h4=>?_;exact ⟨a,o,w,h1,l.fz _ _ h2,h3,h4.mono l⟩
theorem cA.here{J:G}{e:gA}{env:Env}(F:cA J e env){x:Str}{c:NameKind}(hk:(ak e).names.lookup x=some c)(hc:c≠ .free):env.kindOf x=some c:=by
 rcases F.scope x c hk with h | ⟨h, -⟩
 ·exact h
 ·exact absurd h hc
theorem cA.gI{J:G}{e:gA}{env:Env}(F:cA J e env){x:Str}(hk:(ak e).names.lookup x=some .cell\/(ak e).names.lookup x=some .free):env.kindOf x=some .cell\/env.kindOf x=some .free:=by
 rcases hk with hk |hk
 ·exact .inl (F.here hk (by decide))
 ·rcases F.scope x _ hk with h | ⟨-,h⟩
  ·exact .inr h
  ·exact .inl h
theorem cA.mono{J J':G}(l:J.Le J'){e:gA}{env:Env}(h:cA J e env):cA J' e env:=⟨h.scope,h.kind,aN l.aA h.loc,h.glob,h.blt,by obtain ⟨a,h1,h2,h3⟩:=h.frm;exact ⟨a,aN l.aA h1,h2,l.nf _ h3⟩,λx=>(h.cells x).mono l,h.code⟩
inductive ct{Y β:Type}(R:Y->β->Prop):List Y->List β->Prop
 |nil:ct R [] []
 |cons {a b l r} (h:R a b) (t:ct R l r):ct R (a::l) (b::r)
theorem ct.mono{Y β:Type}{R S:Y->β->Prop}(f:∀a b,R a b->S a b){l:List Y}{r:List β}(h:ct R l r):ct S l r:=ct.rec (motive:=λl r _=>ct S l r) .nil (λh _ t=>.cons (f _ _ h) t) h
structure dB(P:Pr)(J:G)(c:Cx)(A:Around):Prop where
 depth:A.depth<=c.d+301
 units:A.units<=c.u
 hd:c.hd=false->A.handled=none
 frames:∃envs,A.frames=some (envs++P.outer)/\ct (cA J) c.ups envs
theorem dB.mono{P:Pr}{J J':G}(l:J.Le J'){c:Cx}{A:Around}(h:dB P J c A):dB P J' c A:=⟨h.depth,h.units,h.hd,by obtain ⟨e,h1,h2⟩:=h.frames;exact ⟨e,h1,h2.mono λ_ _ q=>q.mono l⟩⟩
structure bj(P:Pr)(J:G)(fr:Fr)(A:Around)(env:Env):Prop where
 c:dB P J fr.c A
 e:cA J fr.e env
 top:fr.e.sub=none->∃r,A.frames=some (env::r)
theorem bj.mono{P:Pr}{J J':G}(l:J.Le J'){fr:Fr}{A:Around}{env:Env}(h:bj P J fr A env):bj P J' fr A env:=⟨h.c.mono l,h.e.mono l,h.top⟩
noncomputable def hG(r:bG)(st:St):Prop:=match r with
 | .exc v=>∃i,v= .ref i/\st.x=some i
 |_=>True
noncomputable def Post(P:Pr)(k:Kont)(J:G)(X:G->bG->Shared->Prop):Prop:=∀r st' J' s',k r st'=true->hG r st'->J.Le J'->Rel P J' st' s'->X J' r s'
theorem Post.le{P:Pr}{k:Kont}{J J':G}{X:G->bG->Shared->Prop}(h:Post P k J X)(l:J.Le J'):Post P k J' X:=λr st' J'' s' q x l'=>h r st' J'' s' q x (l.trans l')
noncomputable def iP(Q E:Value->Shared->Prop)(J:G)(r:bG)(s:Shared):Prop:=match r with
 | .val a=>∀v,VR J a v->Q v s
 | .exc a=>∀v,VR J a v->E v s
 |_=>True
noncomputable def Ls(Q:List Value->Shared->Prop)(E:Value->Shared->Prop)(J:G)(r:bG)(s:Shared):Prop:=match r with
 | .vals a=>∀v,ay J a v->Q v s
 | .exc a=>∀v,VR J a v->E v s
 |_=>True
noncomputable def vG(Q:Bool->Shared->Prop)(E:Value->Shared->Prop)(J:G)(r:bG)(s:Shared):Prop:=match r with
 | .tt b=>Q b s
 | .exc a=>∀v,VR J a v->E v s
 |_=>True
noncomputable def gH(Q:Flow->Shared->Prop)(E:Value->Shared->Prop)(J:G)(r:bG)(s:Shared):Prop:=match r with
 | .next=>Q .next s
 | .brk=>Q .brk s
 | .cont=>Q .cont s
 | .ret a=>∀v,VR J a v->Q (.ret v) s
 | .exc a=>∀v,VR J a v->E v s
 |_=>True
abbrev Md(P:Pr):Model:=model pw P.W.w
noncomputable def y0(P:Pr)(fr:Fr)(x:X)(st:St)(k:Kont):Prop:=∀n e,aw n (ak fr.e) e=x->∀J s A Q E env,Rel P J st s->bj P J fr A env->Post P k J (iP Q E)->wpAny (Md P) A (eval e env) Q E s
noncomputable def y6(P:Pr)(fr:Fr)(x:X)(st:St)(k:Kont):Prop:=∀n e,aw n (ak fr.e) e=x->∀J s A Q E env,Rel P J st s->bj P J fr A env->Post P k J (vG Q E)->wpAny (Md P) A (isTrue e env (eval e env)) Q E s
noncomputable def FE(P:Pr)(fr:Fr)(op:ey)(x:X)(st:St)(k:Kont):Prop:=∀n es,aK (aw n (ak fr.e)) es=x->∀J s A Q E env,Rel P J st s->bj P J fr A env->Post P k J (vG Q E)->wpAny (Md P) A (allTrue op es env) Q E s
noncomputable def yZ(P:Pr)(fr:Fr)(x:X)(st:St)(k:Kont):Prop:=∀n es,aK (aw n (ak fr.e)) es=x->noStar es=true->∀J s A Q E env pos,Rel P J st s->bj P J fr A env->Post P k J (Ls Q E)->wpAny (Md P) A (spliced (backTo pos (starEach es env))) Q E s
noncomputable def lB(P:Pr)(c:Cx)(f:AV)(args:List AV)(st:St)(k:Kont):Prop:=∀J s A Q E fv vs,Rel P J st s->dB P J c A->VR J f fv->ay J args vs->Post P k J (iP Q E)->wpAny (Md P) A (c9 fv vs) Q E s
noncomputable def sx(R:Result->Shared->Prop)(J:G)(r:bG)(s:Shared):Prop:=match r with
 | .val a=>∀v,VR J a v->R (.ok (.ret v)) s
 | .exc a=>∀v,VR J a v->R (.error v) s
 |_=>True
noncomputable def bZ(P:Pr)(c:Cx)(a:Nat)(args:List AV)(st:St)(k:Kont):Prop:=∀J s A R vs,Rel P J st s->dB P J c A->ay J args vs->Post P k J (sx R)->codeAny (Md P) A (.call (.ref a) ⟨vs,[]⟩) R s
theorem bZ.call{P:Pr}{c:Cx}{a:Nat}{args:List AV}{st:St}{k:Kont}(h:bZ P c a args st k):lB P c (.glob a) args st k:=λJ s A Q E fv vs Rl F hf hvs post=>by
 obtain rfl:fv= .ref a:=hf.out;refine wpAny_call (h J s A _ vs Rl F hvs λr st' J' s' q x l R'=>?_);have:=post r st' J' s' q x l R';cases r with
 |val a=>exact this
 |exc a=>exact this
 |_=>trivial
theorem zL{k:Kont}{f:AV->St->Bool}{r:bG}{st:St}(h:kv k f r st=true):(∃v,r= .val v/\f v st=true)\/ ∃v,r= .exc v/\k (.exc v) st=true:=by
 cases r with
 |val v=>exact .inl ⟨v,rfl,h⟩
 |exc v=>exact .inr ⟨v,rfl,h⟩
 |_=>cases h
theorem XA{k:Kont}{f:List AV->St->Bool}{r:bG}{st:St}(h:kvs k f r st=true):(∃v,r= .vals v/\f v st=true)\/ ∃v,r= .exc v/\k (.exc v) st=true:=by
 cases r with
 |vals v=>exact .inl ⟨v,rfl,h⟩
 |exc v=>exact .inr ⟨v,rfl,h⟩
 |_=>cases h
theorem HQ{k:Kont}{f:Bool->St->Bool}{r:bG}{st:St}(h:kt k f r st=true):(∃v,r= .tt v/\f v st=true)\/ ∃v,r= .exc v/\k (.exc v) st=true:=by
 cases r with
 |tt v=>exact .inl ⟨v,rfl,h⟩
 |exc v=>exact .inr ⟨v,rfl,h⟩
 |_=>cases h
section
variable{P:Pr}{self:Self}{fr:Fr}{J:G}{st:St}{s:Shared}{k:Kont}{A:Around}{E:Value->Shared->Prop}{env:Env}
theorem bV{x:X}{f:AV->St->Bool}{Q:Value->Shared->Prop}(H:∀k,self (.ex fr x) st k=true->y0 P fr x st k)(hs:self (.ex fr x) st (kv k f)=true)(R:Rel P J st s)(F:bj P J fr A env){n:Nat}{e:ax}(hx:aw n (ak fr.e) e=x)
  (hexc:∀v st' J' s',k (.exc v) st'=true->hG (.exc v) st'->J.Le J'->Rel P J' st' s'->∀u,VR J' v u->E u s')
  (h:∀a st' J' s',f a st'=true->J.Le J'->Rel P J' st' s'->bj P J' fr A env->∀v,VR J' a v->Q v s'):wpAny (Md P) A (eval e env) Q E s:=by
 refine H _ hs n e hx J s A Q E env R F λr st' J' s' q x l R'=>?_;rcases zL q with ⟨a,rfl,q⟩ | ⟨a,rfl,q⟩
 ·exact λv hv=>h a st' J' s' q l R' (F.mono l) v hv
 ·exact hexc a st' J' s' q x l R'
theorem rX{x:X}{f:Bool->St->Bool}{Q:Bool->Shared->Prop}(H:∀k,self (.test fr x) st k=true->y6 P fr x st k)(hs:self (.test fr x) st (kt k f)=true)(R:Rel P J st s)(F:bj P J fr A env){n:Nat}{e:ax}(hx:aw n (ak fr.e) e=x)
  (hexc:∀v st' J' s',k (.exc v) st'=true->hG (.exc v) st'->J.Le J'->Rel P J' st' s'->∀u,VR J' v u->E u s')
  (h:∀a st' J' s',f a st'=true->J.Le J'->Rel P J' st' s'->bj P J' fr A env->Q a s'):wpAny (Md P) A (isTrue e env (eval e env)) Q E s:=by
 refine H _ hs n e hx J s A Q E env R F λr st' J' s' q x l R'=>?_;rcases HQ q with ⟨a,rfl,q⟩ | ⟨a,rfl,q⟩
 ·exact h a st' J' s' q l R' (F.mono l)
 ·exact hexc a st' J' s' q x l R'
theorem rW{x:X}{f:List AV->St->Bool}{Q:List Value->Shared->Prop}{pos:Pos}(H:∀k,self (.args fr x) st k=true->yZ P fr x st k)(hs:self (.args fr x) st (kvs k f)=true)(R:Rel P J st s)(F:bj P J fr A env){n:Nat}{es:List ax}(hx:aK (aw n (ak fr.e)) es=x)(hns:noStar es=true)
  (hexc:∀v st' J' s',k (.exc v) st'=true->hG (.exc v) st'->J.Le J'->Rel P J' st' s'->∀u,VR J' v u->E u s')
  (h:∀a st' J' s',f a st'=true->J.Le J'->Rel P J' st' s'->bj P J' fr A env->∀v,ay J' a v->Q v s'):wpAny (Md P) A (spliced (backTo pos (starEach es env))) Q E s:=by
 refine H _ hs n es hx hns J s A Q E env pos R F λr st' J' s' q x l R'=>?_;rcases XA q with ⟨a,rfl,q⟩ | ⟨a,rfl,q⟩
 ·exact λv hv=>h a st' J' s' q l R' (F.mono l) v hv
 ·exact hexc a st' J' s' q x l R'
inductive Hb(P:Pr)(J:G)(st:St)(s:Shared)(i:Nat)(a:Addr)(es:List (Nm×EV)):Prop
 |mk (cap:Nat) (loc:Bool) (h1:st.get i=some (.dict cap loc es)) (o:Obj) (en:Array DictEntry) (n:Nat) (h0:es.length+cap<=1000000) (h2:s.heap.get? a=some o) (h3:o.data= .dict en n) (h4:loc=false->o.ExactDict/\KeysOf (strKind pw J.wd) en) (h5:StrKeys en) (h6:UniqKeys en) (h7:∀x:Str,DR J (lk (nm x) es) (nsFind en x)) (h8:J.fz a=none):Hb P J st s i a es
theorem qr(R:Rel P J st s){i:Nat}{a:Addr}{es:List (Nm×EV)}(h:dictAt st i=some es)(ha:J.aA[i]?=some a):Hb P J st s i a es:=by refine ah h λao h1 h2=>?_;refine jz (wC h2) λcap loc ai=>?_;subst ai;refine bp (R.objs i _ (R.lt ha) h1) λa' o ha' ho r=>?_;obtain ⟨en,n,q0,q1,q2,q3,q4,q5⟩:=r;have aa:=af (ha.symm.trans ha');clear ha';subst aa;exact ⟨cap,loc,h1,o,en,n,q0,ho,q1,q2,q3,q4,q5,R.apart i _ a (R.lt ha) h1 ha⟩
theorem yG(sc:Scope)(x:Str):nS (nm x) sc.names=sc.names.lookup x:=by
 unfold nS aW
 induction sc.names with
 |nil=>rfl
 |cons p r ih=>
  obtain ⟨y,q⟩:=p;show bf (ag (nm x) (nm y)) (some q) _=_;refine ae gP (ae ih ?_);cases c:ag (nm x) (nm y) with
  |true=>refine ae (cf rfl) (ae (dM (aH c)) ?_);simp
  |false=>
   refine ae (cu rfl) ?_;have:(x==y)=false:=by
    cases d:x==y with
    |false=>rfl
    |true=>rw [eq_of_beq d] at c;exact absurd rfl (dC c)
   exact ae this rfl
theorem XO{n:Nm}{x:Str}{pos:Pos}{v:AV}{Q:Value->Shared->Prop}(R:Rel P J st s)(F:bj P J fr A env)(hx:nm x=n)(hk:(ak fr.e).names.lookup x=some .local)(hd:(x==("__debug__":Str))=false)(h:rN fr n st=some v)(hQ:∀w,VR J v w->Q w s):wpAny (Md P) A (eval (.Name x pos) env) Q E s:=by refine ah h λes h1 h2=>?_;refine ah h2 λe h3 h4=>?_;obtain rfl:=jR h4;obtain ⟨-,loc, -,o,en,m, -,ho,hdt, -,hkeys, -,hfind, -⟩:=qr R h1 F.e.loc;have q:=hfind x;rw [hx,h3] at q;refine am q λw hw hv=>?_;have hk':env.kindOf x=some .local:=F.e.here hk (by decide);exact wpAny_Name (wpAny_loadName_local F.e.kind hk' ⟨o,en,m,ho,hdt,hkeys,λ_=>rfl⟩ hw (hQ w hv)) hd
theorem Qa{c:cL}{v:AV}{x:Str}{cells:List (Str×Addr)}(R:Rel P J st s)(h:FM st c=some v)(hc:ez J cells x (some c)):∃a o w,cells.lookup x=some a/\s.heap.get? a=some o/\o.data= .cell (some w)/\VR J v w:=by
 cases c with
 | «at» i=>refine am hc λa h1 h2=>?_;refine ah (show ob (ob (st.get i) mU) id=some v from h) λw q1 q2=>?_;obtain rfl:w=some v:=q2;refine ah q1 λao q3 q4=>?_;rw [Da q4] at q3;refine DM (R.objs i _ (R.lt h2) q3) λa' o h3 h4 w h6 h7=>?_;have aa:=af (h2.symm.trans h3);clear h3;subst aa;exact ⟨a,o,w,h1,h4,h6,h7⟩
 |con k u=>have aa:=af h;clear h;subst aa;refine qG hc λa o w h1 h2 h3 h4=>?_;refine fB (R.fz a o h2) λ_ _ o' h5 h6=>?_;exact ⟨a,o',w,h1,h5,h6.data.elim (λq=>q.trans h3) (λq=>by obtain ⟨en,n,q⟩:=q.isD;exact cQ Data.ctorIdx (h3.symm.trans q) rfl),h4⟩
theorem WP{n:Nm}{x:Str}{pos:Pos}{v:AV}{Q:Value->Shared->Prop}(R:Rel P J st s)(F:bj P J fr A env)(hx:nm x=n)(hk:(ak fr.e).names.lookup x=some .cell\/(ak fr.e).names.lookup x=some .free)(hd:(x==("__debug__":Str))=false)(hn:(x==("__classdict__":Str))=false)(h:zo fr n st=some v)(hQ:∀w,VR J v w->Q w s):wpAny (Md P) A (eval (.Name x pos) env) Q E s:=by
 refine ah h λc h1 h2=>?_;have hc:=F.e.cells x;rw [hx,h1] at hc;refine qG (Qa R h2 hc) λa o w h3 h4 h5 h6=>?_;rcases F.e.gI hk with hk' |hk'
 ·exact wpAny_Name (wpAny_loadName_cell F.e.kind hk' h3 ⟨o,h4,h5⟩ (hQ w h6)) hd
 ·exact wpAny_Name (wpAny_loadName_free F.e.kind hk' h3 ⟨o,h4,h5⟩ (hQ w h6) hn) hd
theorem Xs{x:Str}{pos:Pos}{v:AV}{Q:Value->Shared->Prop}(R:Rel P J st s)(F:bj P J fr A env)(hk:(ak fr.e).names.lookup x=some .globalImplicit)(h:oY (nm x)=some v)(hQ:∀w,VR J v w->Q w s):wpAny (Md P) A (eval (.Name x pos) env) Q E s:=by
 have hk':env.kindOf x=some .globalImplicit:=F.e.here hk (by decide);have hm:s.heap.Ns env.globals (s.heap.nsMap mainGlobals):=by refine ae F.e.glob ?_;exact .of_isNs R.main
 have hb:s.heap.Ns env.builtins (s.heap.nsMap builtinsNs):=by refine ae F.e.blt ?_;exact .of_isNs R.blt
 unfold oY at h;cases c:lk (nm x) BR with
 |some a=>rw [c] at h;cases h;rw [X0] at c;have hmem:=abU vX c;have q:=eq_of_beq (be.mp (X2 P.W.w.params) _ hmem);have d:=be.mp X1 _ hmem;exact Name_function_global F.e.kind hk' (loadGlobal_global (env:=env) hm (mg_of R.k (.of_isNs R.main) q) (hQ _ (.glob a))) (by simpa using d)
 |none=>rw [c] at h;rw [WI] at h;refine aQ (abc vK h) λu hmem=>?_;have q:=be.mp (WJ P.W.w.params) _ hmem;simp only [i0,beq_iff_eq,MU,beq_eq_false_iff_ne,ne_eq] at q;obtain ⟨⟨⟨q1,q2⟩,q3⟩,q4⟩:=q;have hmiss:s.heap.nsMap mainGlobals x=none:=CI R.k q1;have hv:=abb J _ hmem;exact Name_function_global F.e.kind hk' (loadGlobal_builtin (env:=env) hm hmiss hb ((R.boot x q3).trans q2) (hQ _ hv)) (by simpa using q4)
end
noncomputable def fN:List Nat:=[186,281,302,331,352,374,396,417,439,460,777,987]
theorem T8:((d6 1024).all λC=> !(cn C)||fN.contains C)=true:=by kernel_rfl
theorem jf{C:Nat}(h:cn C=true):C∈fN:=by
 by_cases hc:C< 1024
 ·have:=be.mp T8 C (ic.mpr hc)
  rw [h] at this;simpa using this
 ·exfalso
  have e:wq qQ C=0:=by have q:qQ< 2 ^ 1024:=bt (show aM (qQ+1) (2 ^ 1024)=true by kernel_rfl);show qQ >>> C=0;rw [Mv];exact Nb (bz q (MH (by decide) (i5 hc)))
  unfold cn at h;rw [e] at h;cases h
noncomputable def zZ(P:Params)(C:Nat)(a:Str):Bool:=plainGet (K P) C a&&hasDictIn (K P) C&&(findIn (K P) (.ref C) a).any (noGet (K P))
noncomputable def Ii(P:Params)(C:Nat)(a:Str):Bool:=(findIn (K P) (.ref C) "__setattr__"==some (some (.builtin "object.__setattr__")))&&plainOver (K P) C&&(takerIn (K P) C a==some none)&&hasDictIn (K P) C
theorem EX(P:Params):(fN.all λC=>attrS.all λa=>zZ P C a)=true:=by kernel_rfl
theorem VJ(P:Params):(fN.all λC=>attrS.all λa=>Ii P C a)=true:=by kernel_rfl
theorem NE(n:Nat):handedIn (.builtin (rk n))=true:=by
 unfold rk
 split
 ·decide+kernel
 ·decide+kernel
 ·decide+kernel
theorem tK{J:G}{w:AV}{u:Value}(r:VR J w u):handedIn u=true:=VR.rec (motive_1:=λ_ u _=>handedIn u=true) (motive_2:=λ_ _ _=>True) (motive_3:=λ_ _ _ _=>True) rfl (λ_=>rfl) (λ_=>rfl) (λ_ _=>rfl) (λ_ _=>rfl) (λ_=>rfl) (λ_=>rfl) (λ_=>rfl) NE (λ_ h _=>h) (λ_ _ _ _ h=>h) (λ_ _ _ _ _ _ _ _ _ _ _=>rfl) (λ_ _ _ _ _ _ _ _=>rfl) (λ_ _ _=>rfl) (λ_ _ _ _ _=>rfl) (λ_ _ _ _ _ _ _ _=>rfl) trivial (λ_ _ _ _=>trivial) trivial (λ_ _ _ _ _ _ _=>trivial) r
theorem Do{o:Obj}{en:Array DictEntry}{n:Nat}{x:Str}{w:Value}(hd:o.data= .dict en n)(e:nsFind en x=some w):lookIn x o=some (some w):=by
 unfold nsFind findBy at e;rw [<-mq] at e;unfold lookIn;refine ae hd ?_;cases q:en.toList.find? (λe=>e.key.isStr x) with
 |none=>rw [q] at e;cases e
 |some en'=>rw [q] at e;simp only [Option.map_some,CF.injEq] at e;subst e;simp only [q]
theorem Pf{o:Obj}{en:Array DictEntry}{n:Nat}{x:Str}(hd:o.data= .dict en n)(hk:StrKeys en)(e:nsFind en x=none):lookIn x o=some none:=by
 unfold nsFind findBy at e;rw [<-mq] at e;unfold lookIn;rw [hd];cases q:en.toList.find? (λe=>e.key.isStr x) with
 |some en'=>rw [q] at e;cases e
 |none=>simp only [q];rw [if_neg];intro h;refine am (tB.mp h) λd hm hr=>?_;refine jz (hk d (by simpa using hm)) λy t hy=>?_;simp [DictEntry.refKey,hy] at hr
theorem So{Y:Type}(n m:Nm)(ms:List Nm)(v:Y)(r:List Y):mh n (m::ms) (v::r)=bf (ag n m) (some v) (mh n ms r):=rfl
theorem df.get{J:G}{en:Array DictEntry}{x:Str}{w:AV}{ns:List Nm}:∀{vs:List AV},df J en ns vs->mh (nm x) ns vs=some w->∃u,nsFind en x=some u/\VR J w u/\((nm x=fp\/nm x=fy)->(∃b,u= .bool b)->w= .bM):=by
 induction ns with
 |nil=>exact λ_ h=>aD h
 |cons m ns ih=>
  intro vs r h;obtain ⟨a,as,y,v,rfl,hx,hv,hf,hr,r⟩:=r.c;rw [So] at h;cases c:ag (nm x) m with
  |true=>rw [cf c] at h;obtain rfl:=af h;obtain rfl:=dM (hx.trans (aH c).symm);exact ⟨v,hv,hr,aH c▸hf⟩
  |false=>exact ih r (ma c h)
section
variable{P:Pr}{J:G}{st:St}{s:Shared}{A:Around}{E:Value->Shared->Prop}
theorem Vj{o o':Obj}(q:fU o o')(h:notCls o=true):notCls o'=true:=by
 unfold notCls at h ⊢;rcases q.data with e | ⟨_,_,_,_,_,e,_⟩
 ·refine ae e ?_;exact h
 ·exact ae e rfl
inductive He(J:G)(s:Shared)(C:Nat)(ns:List Nm)(vs:List AV)(ov:Value):Prop
 |mk (a b:Addr) (o od:Obj) (en:Array DictEntry) (n:Nat) (h0:ov= .ref a) (h1:s.heap.get? a=some o) (h2:o.cls= .ref C) (h3:notCls o=true) (h4:o.dict=some b) (h5:s.heap.get? b=some od) (h6:od.data= .dict en n) (h7:StrKeys en) (h8:UniqKeys en) (h9:∀(x:Str) (w:AV),mh (nm x) ns vs=some w->∃u,nsFind en x=some u/\VR J w u):He J s C ns vs ov
inductive IR(J:G)(s:Shared)(C d:Nat)(es:List (Nm×EV))(ov:Value):Prop
 |mk (a b:Addr) (o od:Obj) (en:Array DictEntry) (n:Nat) (h0:ov= .ref a) (h1:s.heap.get? a=some o) (h2:o.cls= .ref C) (h3:notCls o=true) (h4:o.dict=some b) (h4':J.aA[d]?=some b) (h5:s.heap.get? b=some od) (h6:od.data= .dict en n) (h7:StrKeys en) (h8:UniqKeys en) (h9:∀x:Str,DR J (lk (nm x) es) (nsFind en x)):IR J s C d es ov
theorem tW(R:Rel P J st s){C:Nat}{ns:List Nm}{vs:List AV}{ov:Value}(hv:VR J (.inst C ns vs) ov):He J s C ns vs ov:=by
 cases hv.pp with
 | @mk a b o od en n h1 h2 h3 h4 h5 h6 h8 h9 hz h=>
  refine fB (R.fz _ _ h1) λ_ _ o' q1 q2=>?_;refine fB (R.fz _ _ h5) λ_ _ od' r1 r2=>?_;have hn:notCls o'=true:=Vj q2 h4;rcases r2.data with e | ⟨fn,Bx,m,m',e1,e2,k1,k2,k3⟩
  ·exact ⟨a,b,o',od',en,n,rfl,q1,q2.cls.trans h2,hn,q2.dict.trans h3,r1,e.trans h6,h8,h9,λx w hw=>(h.get hw).imp λu z=>⟨z.1,z.2.1⟩⟩
  ·refine ⟨a,b,o',od',Bx,m',rfl,q1,q2.cls.trans h2,hn,q2.dict.trans h3,r1,e2,k1,k2,λx w hw=>?_⟩
   refine bP (h.get hw) λu z1 z2 z3=>?_;obtain rfl:en=fn:=(Data.dict.inj (h6.symm.trans e1)).1;exact (k3 x).elim (λe=>⟨u,e.trans z1,z2⟩) λp=>by obtain ⟨p1,⟨b1,p2⟩,b2,p3⟩:=p;refine ae (z3 p1 ⟨b1,af (z1.symm.trans p2)⟩) ?_;exact ⟨.bool b2,p3,.bM b2⟩
theorem jn{h:Heap}{x b:Addr}{o od:Obj}{C:Addr}(h1:h.get? x=some o)(h2:o.cls= .ref C)(h3:notCls o=true)(h4:o.dict=some b)(h5:h.get? b=some od):InstAt h x o C (some od):=⟨h1,h2,h3,by refine ae h4 ?_;exact h5⟩
theorem ut(R:Rel P J st s){i C d:Nat}{ov:Value}{es:List (Nm×EV)}(ho:st.get i=some (.inst C d))(hd:dictAt st d=some es)(hv:VR J (.ref i) ov):IR J s C d es ov:=by
 obtain ⟨a,o,e,ha,hob,⟨b,q1,q2,q3,q4⟩, -⟩:=R.at_ ho hv;cases qr R hd q4 with
 |mk _ _ _ od en n _ r1 r2 _ r3 r4 r5=>exact ⟨a,b,o,od,en,n,e,hob,q1,q2,q3,q4,r1,r2,r3,r4,r5⟩
noncomputable def yc:Prop:=∀{P:Pr} {J:G} {st:St} {s:Shared} {A:Around} {E Q:Value->Shared->Prop} {i C d:Nat} {a:Str} {w:AV} {ov:Value} {b:Bool},Rel P J st s->st.get i=some (.exc C d)->iT (nm a)=true->d≠0->l8 d (nm a) st=some w->VR J (.ref i) ov->(∀u,VR J w u->Q u {s with toks:=s.toks+1})->wpAny (Md P) A (getAttr ov a b) Q E s
theorem P5{o:AO}{a:Nm}{w:AV}(h:Hk o a st=some w):(∃C d,o= .inst C d/\cn C=true/\l8 d a st=some w)\/ ∃C d,o= .exc C d/\iT a=true/\d≠0/\l8 d a st=some w:=by
 cases o with
 |inst C d=>exact .inl ⟨C,d,rfl,fu h⟩
 |exc C d=>refine bb (show bf (iT a) (bf (ag d 0) none (l8 d a st)) none=some w from h) λc h=>?_;exact .inr ⟨C,d,rfl,c,(xk h).imp_left dC⟩
 |_=>exact aD h
theorem Po{v w:AV}{a:Nm}(h:rj v a st=some w):(∃i,v= .ref i/\∃C d,st.get i=some (.inst C d)/\cn C=true/\l8 d a st=some w)\/(∃i,v= .ref i/\∃C d,st.get i=some (.exc C d)/\iT a=true/\d≠0/\l8 d a st=some w)\/ ∃C ns vs,v= .inst C ns vs/\cn C=true/\mh a ns vs=some w:=by
 cases v with
 |ref i=>refine ah h λo h1 h2=>?_;exact (P5 h2).elim (λ ⟨C,d,e,q⟩=>.inl ⟨i,rfl,C,d,e▸h1,q⟩) λ ⟨C,d,e,q⟩=>.inr (.inl ⟨i,rfl,C,d,e▸h1,q⟩)
 |inst C ns vs=>exact .inr (.inr ⟨C,ns,vs,rfl,fu h⟩)
 |_=>exact aD h
theorem xj(X:yc){v w:AV}{a:Str}{Q:Value->Shared->Prop}{b:Bool}{ov:Value}(R:Rel P J st s)(h:rj v (nm a) st=some w)(ha:a∈attrS)(hv:VR J v ov)(hQ:∀u,VR J w u->Q u {s with toks:=s.toks+1}):wpAny (Md P) A (getAttr ov a b) Q E s:=by
 have key:∀{C x:Nat} {o od:Obj} {en:Array DictEntry} {n:Nat} {u:Value},cn C=true->InstAt s.heap x o C (some od)->od.data= .dict en n->nsFind en a=some u->VR J w u->wpAny (Md P) A (getAttr (.ref x) a b) Q E s:=by intro C x o od en n u hC I hd hu hr;have q:=be.mp (be.mp (EX P.W.w.params) C (jf hC)) a ha;unfold zZ at q;simp only [i0] at q;obtain ⟨⟨c1,c2⟩,c3⟩:=q;refine am (any_some c3) λat' c4 c5=>?_;exact get_value R.k I (plainGet_of c1).1 (findObj_own c2 c4 c5 (Do hd hu)) (tK hr) (hQ u hr)
 rcases Po h with ⟨i,rfl,C,d,h1,c,h2⟩ | ⟨i,rfl,C,d,h1,c,e,h2⟩ | ⟨C,ns,vs,rfl,c,h⟩
 ·refine ah h2 λes h3 h4=>?_
  refine ah h4 λe h5 h6=>?_;rw [jR h6] at h5;obtain ⟨x,b',o,od,en,n,rfl,q1,q2,q3,q4, -,q5,q6,q7, -,q8⟩:=ut R h1 h3 hv;have q:=q8 a;rw [h5] at q;refine am q λu hu hr=>?_;exact key c (jn q1 q2 q3 q4 q5) q6 hu hr
 ·exact X R h1 c e h2 hv hQ
 ·obtain ⟨x,b',o,od,en,n,rfl,q1,q2,q3,q4,q5,q6, -, -,q8⟩:=tW R hv
  refine am (q8 a w h) λu hu hr=>?_;exact key c (jn q1 q2 q3 q4 q5) q6 hu hr
end
theorem Dz(n m:Nm)(v e:EV)(r:List (Nm×EV)):c7 n v ((m,e)::r)=bf (ag n m) ((n,v)::r) ((m,e)::c7 n v r):=rfl
theorem U8(n x:Nm)(v:EV)(es:List (Nm×EV)):lk x (c7 n v es)=bf (ag x n) (some v) (lk x es):=by
 induction es with
 |nil=>rfl
 |cons p r ih=>
  refine (congrArg (lk x) (Dz n p.1 v p.2 r)).trans ?_;cases c:ag n p.1 with
  |true=>have c:=aH c;show bf (ag x n) (some v) (lk x r)=bf (ag x n) (some v) (bf (ag x p.1) (some p.2) (lk x r));refine bH c ?_;cases ag x n<;>rfl
  |false=>
   show bf (ag x p.1) (some p.2) (lk x (c7 n v r))=bf (ag x n) (some v) (bf (ag x p.1) (some p.2) (lk x r));refine ae ih ?_;cases d:ag x p.1 with
   |false=>rfl
   |true=>
    cases e:ag x n with
    |false=>rfl
    |true=>exact absurd ((aH e).symm.trans (aH d)) (dC c)
theorem oL(n x:Nm)(v:EV)(es:List (Nm×EV)):lk x (c7 n v es)=if x=n then some v else lk x es:=by
 rw [U8];cases c:ag x n with
 |true=>exact (if_pos (aH c)).symm
 |false=>exact (if_neg (dC c)).symm
theorem tX(n:Nm)(v:EV)(es:List (Nm×EV)):(c7 n v es).length<=es.length+1:=by
 induction es with
 |nil=>exact cG _
 |cons p r ih=>
  refine aI (ck (congrArg mx (Dz n p.1 v p.2 r))) ?_;cases ag n p.1 with
  |true=>exact oz _
  |false=>exact i7 ih
theorem SH{Y:Type}[BEq Y][LawfulBEq Y]{l:List Y}:∀{r:List Y},l.Nodup->(∀x∈l,x∈r)->l.length<=r.length:=by
 induction l with
 |nil=>exact λ_ _=>ig _
 |cons x l ih=>intro r h hs;have h':=la.mp h;have hx:=hs x (.head _);have:=ih (r:=r.erase x) h'.2 λy hy=>(List.mem_erase_of_ne (by rintro rfl;exact h'.1 hy)).mpr (hs y (.tail _ hy));rw [List.length_erase_of_mem hx] at this;exact aI (i7 this) (ck (wk (List.length_pos_of_mem hx)))
theorem XM{x:Nm}{es:List (Nm×EV)}(h:(lk x es).isSome=true):x∈es.map (·.1):=by
 induction es with
 |nil=>exact aE h
 |cons p r ih=>
  cases c:ag x p.1 with
  |true=>refine ae (aH c) ?_;exact .head _
  |false=>exact .tail _ (ih (by refine bH h ?_;exact congrArg Option.isSome (cu c).symm))
theorem size_le{en:Array DictEntry}{es:List (Nm×EV)}(hk:StrKeys en)(hu:UniqKeys en)(h:∀x:Str,(nsFind en x).isSome=true->(lk (nm x) es).isSome=true):en.size<=es.length:=by
 let key:DictEntry->Nm:=λe=>match e.key with | .str x _=>nm x |_=>0
 have hk':∀e∈en.toList,∃x t,e.key= .str x t:=λe he=>hk e (by simpa using he);have h1:(en.toList.map key).Nodup:=by
  unfold UniqKeys at hu
  revert hk'
  generalize en.toList=l at hu
  intro hk'
  induction l with
  |nil=>exact Nv
  |cons e r ih=>
   have hu':=List.pairwise_cons.mp hu;rw [om,la];refine ⟨λhm=>?_,ih hu'.2 λd hd=>hk' d (.tail _ hd)⟩;refine am (oq.mp hm) λd hd hq=>?_;refine jz (hk' e (.head _)) λx t hx=>?_;refine jz (hk' d (.tail _ hd)) λy u hy=>?_;have e1:nm y=nm x:=by have:key d=key e:=hq;simp only [key,hx,hy] at this;exact this
   have e2:=dM e1;clear e1;subst e2;refine hu'.1 d hd y ?_ ?_
   ·rw [hx];show (y==y)=true;exact beq_self_eq_true y
   ·rw [hy];show (y==y)=true;exact beq_self_eq_true y
 have h2:∀n∈en.toList.map key,n∈es.map (·.1):=λn hn=>by
  refine am (oq.mp hn) λe he ai=>?_;have aa:=ai;clear hn ai;subst aa;refine jz (hk' e he) λx t hx=>?_;have e1:key e=nm x:=by simp only [key,hx]
  refine ae e1 ?_;refine XM (h x ?_);unfold nsFind findBy;refine bH (mq) ?_;have:(en.toList.find? λe=>e.key.isStr x).isSome=true:=List.find?_isSome.mpr ⟨e,he,by refine ae hx ?_;show (x==x)=true;exact beq_self_eq_true x⟩;cases q:en.toList.find? λe=>e.key.isStr x with
  |none=>rw [q] at this;cases this
  |some d=>rfl
 have:=SH h1 h2;simpa using this
section
variable{P:Pr}{J:G}{st:St}{s:Shared}{A:Around}{E:Value->Shared->Prop}
theorem DR.some_of{J:G}{e:Option EV}{r:Option Value}(h:DR J e r)(hr:r.isSome=true):e.isSome=true:=by
 cases e with
 |none=>have h:r=none:=h;rw [h] at hr;cases hr
 |some _=>rfl
theorem DK{loc:Bool}{cap:Nat}{X:St}{st':St}(h:bf (ag cap 0) none (some X)=some st'):∃c,cap=c+1/\st'=X:=by
 refine eO h λh1 h2=>?_;cases cap with
 |zero=>exact cH h1
 |succ c=>exact ⟨c,rfl,(af h2).symm⟩
theorem VA{o:AO}{st':St}{i:Nat}{n:Nm}{v:EV}(h:putD o st i n v=some st'):∃cap es,o= .dict (cap+1) true es/\st'=st.set i (.dict cap true (c7 n v es)):=by
 cases o with
 |dict cap loc es=>refine au (fu (show bf loc (bf (ag cap 0) none (some (st.set i (.dict (cap - 1) true (c7 n v es))))) none=some st' from h)) λaZ h=>?_;have aa:=aZ;clear h aZ;subst aa;refine am (DK (loc:=true) h) λc aq h=>?_;subst aq;exact ⟨c,es,rfl,h⟩
 |_=>exact aD h
theorem VB{o:AO}{st':St}{i:Nat}{n:Nm}{v:EV}(h:KJ o st i n v=some st'):∃cap es,o= .dict (cap+1) false es/\st'=st.set i (.dict cap false (c7 n v es)):=by
 cases o with
 |dict cap loc es=>refine au (xk (show bf loc none (bf (ag cap 0) none (some (st.set i (.dict (cap - 1) false (c7 n v es)))))=some st' from h)) λaZ h=>?_;have aa:=aZ;clear h aZ;subst aa;refine am (DK (loc:=true) h) λc aq h=>?_;subst aq;exact ⟨c,es,rfl,h⟩
 |_=>exact aD h
theorem qJ{st':St}{i:Nat}{n:Nm}{v:EV}(h:putAt st i n v=some st'):∃cap es,st.get i=some (.dict (cap+1) true es)/\st'=st.set i (.dict cap true (c7 n v es)):=by refine ah h λo h1 h2=>?_;refine ba (VA h2) λc es ai h=>?_;have aa:=ai;clear h2 ai;subst aa;exact ⟨c,es,h1,h⟩
theorem C4{st':St}{i:Nat}{n:Nm}{v:EV}(h:re st i n v=some st'):∃cap es,st.get i=some (.dict (cap+1) false es)/\st'=st.set i (.dict cap false (c7 n v es)):=by refine ah h λo h1 h2=>?_;refine ba (VB h2) λc es ai h=>?_;have aa:=ai;clear h2 ai;subst aa;exact ⟨c,es,h1,h⟩
theorem ur{i:Nat}{a:Addr}{x:Str}{w:AV}{v:Value}{Q:Unit->Shared->Prop}{st':St}(R:Rel P J st s)(ha:J.aA[i]?=some a)(h:putAt st i (nm x) (.val w)=some st')(hv:VR J w v)
  (hQ:∀s' od en n,s'.heap.get? a=some od->od.data= .dict en n->en.size<=1000001->Rel P J st' s'->Q () s'):wpAny (Md P) A (nsSet a x v) Q E s:=by
 refine ba (qJ h) λcap es h1 bC=>?_;subst bC;obtain ⟨o,ho,⟨en,n,hcap,hd,hcl,hk,hu,hf⟩⟩:=R.at' ha h1;refine wpAny_nsSet1EFk ⟨o,en,n,ho,hd,hk,hu,λ_=>rfl⟩ λh' hn' hs hc'=>?_;refine wF hn' λo' en' n' ho' hd' hk' hu' hf'=>?_;have LV:∀y:Str,DR J (lk (nm y) (c7 (nm x) (.val w) es)) (nsFind en' y):=λy=>by
  rw [oL,hf' y];show DR J _ (if y=x then some v else nsFind en y)
  by_cases e:y=x
  ·rw [if_pos e,if_pos (congrArg nm e)];exact ⟨v,rfl,hv⟩
  ·refine ae (if_neg e) (ae (if_neg λq=>e (dM q)) ?_);exact hf y
 have l1:=tX (nm x) (.val w) es;have l2:(c7 (nm x) (.val w) es).length+cap<=1000000:=aI (jM l1 cap) (by rw [dx];exact hcap);have r:OR J o' (.dict cap true (c7 (nm x) (.val w) es)):=⟨en',n',l2,hd',λhl=>cH hl,hk',hu',LV⟩;refine hQ _ o' en' n' ho' hd' (aI (size_le hk' hu' λy hy=>(LV y).some_of hy) (aI (fh _ cap) (k9 l2))) ((R.upd ha (R.apart i _ a (R.lt ha) h1 ha) (R.jp ha ho (.inl λvs q=>cQ Data.ctorIdx (hd.symm.trans q) rfl)) hs ho' r ?_).toks (s.toks+1));exact (Nat.lt_or_ge cap 100000).imp (λc=>⟨_,_,rfl,ot c⟩) λc=>⟨_,h1,λ ⟨c',e,q,h⟩=>by cases q;exact CN.mpr (fg c) h⟩
theorem CC{C x:Nat}{b:Addr}{o od:Obj}{en:Array DictEntry}{n:Nat}{a:Str}{v:Value}{Q:Unit->Shared->Prop}{st':St}(R:Rel P J st s)(hC:cn C=true)(ha:a∈attrS)
  (I:InstAt s.heap x o C (some od)) (hdict:o.dict=some b) (hd:od.data= .dict en n)
  (adf:∀(s₁:Shared) (Q:Unit->Shared->Prop),(∃t,s₁={s with toks:=t})->(∀s' od en n,s'.heap.get? b=some od->od.data= .dict en n->en.size<=1000001->Rel P J st' s'->Q () s')->wpAny (Md P) A.in1 (nsSet b a v) Q (λ_ _=>False) s₁)
  (hQ:∀s',Rel P J st' s'->Q () s'):wpAny (Md P) A (setAttr (.ref x) a v) Q E s:=by
 have q:=be.mp (be.mp (VJ P.W.w.params) C (jf hC)) a ha;unfold Ii at q;simp only [i0,beq_iff_eq] at q;obtain ⟨⟨⟨c1,c2⟩,c3⟩,c4⟩:=q;refine set_plain R.k I c1 ?_;have X:(K P.W.w.params).In ({s with toks:=s.toks+1}:Shared).heap:=R.k;have I':InstAt ({s with toks:=s.toks+1}:Shared).heap x o C (some od):=I;refine osa_open X I' c2 c3 λb'=>?_;refine am (any_some c4) λcd hc hd'=>?_;obtain ⟨hx,hcl,hn, -⟩:=I;obtain ⟨oc,odi,oda,osl⟩:=o;dsimp only at hcl hdict;subst hcl hdict;refine az (aT (az (az (wpAny_loadPart hx (az ((looks_clsIn X hc).here ?_))))));refine ae hd' ?_;refine aT (a:=some b) (az (aT (az ?_)));refine da (adf _ _ ⟨s.toks+1,rfl⟩ λs' od' en' n' e1 e2 e3 R'=>?_) (λ_ _ z=>z) λ_ _ z=>z.elim
 ·refine az (wpAny_lookBehind e1 (by refine ae e2 ?_;exact pastItsLine_dict (aI e3 (by decide))) ?_)
  exact aT (hQ _ R')
end
section
variable{P:Pr}{J:G}{st:St}{s:Shared}{A:Around}{E:Value->Shared->Prop}
theorem wJ{J:G}{w:AV}{v:Value}(h:isBool w=true)(hv:VR J w v):∃b,v= .bool b:=by cases hv<;>first |exact ⟨_,rfl⟩ |cases h
theorem S5{en hM:Array DictEntry}(hk:StrKeys en)(hu:UniqKeys en)(hk0:StrKeys hM)(h:∀x:Str,(nsFind en x).isSome=true->(nsFind hM x).isSome=true):en.size<=hM.size:=by
 let f:DictEntry->Nm×EV:=λe=>(match e.key with | .str x _=>nm x |_=>0,.unk);have key:∀(l:List DictEntry) (x:Str),(∀e∈l,∃y t,e.key= .str y t)->(l.find? λe=>e.key.isStr x).isSome=true->(lk (nm x) (l.map f)).isSome=true:=by
  intro l x hl hx
  induction l with
  |nil=>cases hx
  |cons e r ih=>
   rw [om];refine jz (hl e (.head _)) λy t hy=>?_;have e1:f e=(nm y,.unk):=by simp only [f,hy]
   rw [e1,jZ];cases c:ag (nm x) (nm y) with
   |true=>rfl
   |false=>
    rw [cu rfl];refine ih (λd hd=>hl d (.tail _ hd)) ?_;rw [oh] at hx;have:e.key.isStr x=false:=by
     rw [hy];show (y==x)=false;cases d:y==x with
     |false=>rfl
     |true=>rw [eq_of_beq d] at c;exact absurd rfl (dC c)
    rw [this] at hx;exact hx
 have:=size_le (es:=hM.toList.map f) hk hu λx hx=>by
  have q:=h x hx;unfold nsFind findBy at q;rw [<-mq] at q;refine key _ x (λe he=>hk0 e (by simpa using he)) ?_;cases z:hM.toList.find? λe=>e.key.isStr x with
  |none=>rw [z] at q;cases q
  |some d=>rfl
 simpa using this
theorem IZ{a b c:Bool}(h:(a&&b&&c)=true):a=true/\b=true/\c=true:=by cases a<;>cases b<;>cases c<;>first |exact ⟨rfl,rfl,rfl⟩ |cases h
theorem Vm{C:Nat}{ns:List Nm}{vs:List AV}{ov:Value}{x:Str}{v:Value}{bv:Bool}{Q:Unit->Shared->Prop}(R:Rel P J st s)(hv:VR J (.inst C ns vs) ov)(hl:mh (nm x) ns vs=some .bM)(hfl:nm x=fp\/nm x=fy)(hb:v= .bool bv)
  {a b:Addr} {o:Obj} (e1:ov= .ref a) (e2:s.heap.get? a=some o) (e3:o.dict=some b) (hQ:∀s' od en n,s'.heap.get? b=some od->od.data= .dict en n->en.size<=1000001->Rel P J st s'->Q () s'):
  wpAny (Md P) A (nsSet b x v) Q E s:=by
 cases hv with
 | @inst _ _ _ a' b' o0 od0 hM n0 h1 h2 h3 h4 h5 h6 h8 h9 hz h=>
  cases e1;refine fB (R.fz _ _ h1) λ_ _ o' q1 q2=>?_;rw [e2] at q1;cases q1;have eb:b'=b:=by have:=q2.dict.trans h3;rw [e3] at this;cases this;rfl
  clear e3;subst eb;refine fB (R.fz _ _ h5) λ_ _ od' r1 r2=>?_;refine bP (h.get hl) λu z1 z2 z3=>?_;have HI:∃b0,nsFind hM x=some (.bool b0):=by cases z2 with |bM b0=>exact ⟨b0,z1⟩
  have cur:∃en n,od'.data= .dict en n/\StrKeys en/\UniqKeys en/\∀y,nsFind en y=nsFind hM y\/((nm y=fp\/nm y=fy)/\(∃b,nsFind hM y=some (.bool b))/\∃b,nsFind en y=some (.bool b)):=by
   rcases r2.data with e | ⟨fn,Bx,m,m',e1,e2,k1,k2,k3⟩
   ·exact ⟨hM,n0,e.trans h6,h8,h9,λy=>.inl rfl⟩
   ·rw [h6] at e1;cases e1
    exact ⟨Bx,m',e2,k1,k2,k3⟩
  refine qR cur λen n c1 c2 c3 c4=>?_;have hns:s.heap.Ns1 b' (λy=>nsFind en y):=⟨od',en,n,r1,c1,c2,c3,λ_=>rfl⟩;refine wpAny_nsSet1EFk hns λh' hn' hs hc'=>?_;refine wF hn' λo2 en' n' ho' hd' hk' hu' hf'=>?_;refine bP (hc' od' r1) λod2 w1 w2 w3=>?_;rw [ho'] at w1;cases w1;have AC:fU od0 o2:=by
   refine .inr ⟨w2.trans r2.cls,w3.trans r2.dict,hM,en',n0,n',h6,hd',hk',hu',λy=>?_⟩;refine ae (hf' y) ?_;show (if y=x then some v else nsFind en y)=_\/_/\_/\∃b,(if y=x then some v else nsFind en y)=_
   by_cases e:y=x
   ·subst e
    refine ae (if_pos rfl) ?_;exact .inr ⟨hfl,HI,⟨bv,by exact ae hb rfl⟩⟩
   ·refine ae (if_neg e) ?_;exact c4 y
  have R':=(R.flag h5 hs ho' AC).toks (s.toks+1);refine hQ _ o2 en' n' ho' hd' ?_ R';have e1:∀y:Str,(nsFind en' y).isSome=true->(nsFind hM y).isSome=true:=λy hy=>by
   rw [hf' y] at hy;have hy:(if y=x then some v else nsFind en y).isSome=true:=hy
   by_cases e:y=x
   ·subst e;obtain ⟨b0,e0⟩:=HI;refine ae e0 ?_;rfl
   ·rw [if_neg e] at hy
    rcases c4 y with q | ⟨_,⟨b,q⟩,_⟩
    ·refine bH q ?_;exact hy
    ·refine ae q ?_;rfl
  exact aI (S5 hk' hu' h8 e1) hz
theorem mN{i:Nat}(h:gG st i=true):st.x≠some i:=by intro q;unfold gG at h;rw [q] at h;have h:(!(ag i i))=true:=h;rw [beq_refl] at h;cases h
noncomputable def yd:Prop:=∀{P:Pr} {J:G} {st st':St} {s:Shared} {A:Around} {E:Value->Shared->Prop} {Q:Unit->Shared->Prop} {i C d:Nat} {a:Str} {w:AV} {ov v:Value},Rel P J st s->st.get i=some (.exc C d)->iT (nm a)=true->bf (ag d 0) (IJ C i (nm a) w st) (putAt st d (nm a) (.val w))=some st'->VR J (.ref i) ov->VR J w v->(∀J' s',J.Le J'->Rel P J' st' s'->Q () s')->wpAny (Md P) A (setAttr ov a v) Q E s
theorem C7(X:yd){v w:AV}{a:Str}{Q:Unit->Shared->Prop}{ov u:Value}{st':St}(R:Rel P J st s)(h:tQ v (nm a) w st=some st')(ha:a∈attrS)(hv:VR J v ov)(hw:VR J w u)(hQ':∀J' s',J.Le J'->Rel P J' st' s'->Q () s'):wpAny (Md P) A (setAttr ov a u) Q E s:=by
 have hQ:∀s',Rel P J st' s'->Q () s':=λs' R'=>hQ' J s' (.refl _) R';cases v with
 |ref i=>
  refine ah (show IC i (nm a) w st=some st' from h) λo h1 h2=>?_;cases o with
  |inst C d=>
   have h2:stI C d i (nm a) w st=some st':=h2;unfold stI at h2;cases c:cn C with
   |false=>rw [cu c] at h2;cases h2
   |true=>rw [cf c] at h2;obtain ⟨x,o,rfl,hx,hob,⟨b,q1,q2,q3,q4⟩, -⟩:=R.at_ h1 hv;refine ba (qJ h2) λcap es h3 _=>?_;obtain ⟨b',od,hb',hod,en,n, -,hd, -⟩:=R.objs d _ (R.lt q4) h3;rw [q4] at hb';cases hb';exact CC R c ha (jn hob q1 q2 q3 hod) q3 hd (λs₁ Q ⟨t,e⟩ hq=>by subst e;exact ur (R.toks t) q4 h2 hw hq) hQ
  |exc C d=>
   have h2:BY C d i (nm a) w st=some st':=h2;unfold BY at h2;cases c:iT (nm a) with
   |false=>rw [cu c] at h2;cases h2
   |true=>rw [cf c] at h2;exact X R h1 c h2 hv hw hQ'
  |_=>cases h2
 |inst C ns vs=>
  have h:yR C ns vs (nm a) w st=some st':=h;unfold yR at h;cases c:cn C with
  |false=>rw [cu c] at h;cases h
  |true=>
   rw [cf c] at h;refine ah h λx h1 h2=>?_;cases d:(isAny x&&isBool w&&(ag (nm a) fp||ag (nm a) fy)) with
   |false=>rw [cu d] at h2;cases h2
   |true=>
    rw [cf d] at h2;cases h2;refine fP (IZ d) λd1 d2 d3=>?_;have hx:x= .bM:=by cases x<;>first |rfl |cases d1
    clear d d1;subst hx;refine aQ (wJ d2 hw) λb aq=>?_;have aa:=aq;clear hw aq;subst aa;have hfl:nm a=fp\/nm a=fy:=by
     rcases dw.mp d3 with q |q
     ·exact .inl (aH q)
     ·exact .inr (aH q)
    obtain ⟨y,b',o,od,en,n,rfl,q1,q2,q3,q4,q5,q6, -, -, -⟩:=tW R hv;exact CC R c ha (jn q1 q2 q3 q4 q5) q4 q6 (λs₁ Q ⟨t,e⟩ hq=>by subst e;exact Vm (R.toks t) hv h1 hfl rfl rfl q1 q4 hq) hQ
 |_=>cases h
end
theorem gU(a b:Int):bA a b=true↔a< b:=by
 cases a with
 |ofNat a=>
  cases b with
  |ofNat b=>show aM (a+1) b=true↔_;exact ae Pm qk.symm
  |negSucc b=>exact ⟨λh=>aE h,λh=>absurd (tx (oa a) h) (jb.mpr (mw (wg b)))⟩
 |negSucc a=>
  cases b with
  |ofNat b=>exact ⟨λ_=>wi (wg a) (oa b),λ_=>rfl⟩
  |negSucc b=>show aM (b+1) a=true↔_;exact ae Pm ⟨λh=>Int.neg_lt_neg (Int.add_lt_add_right (qk.mpr h) 1),λh=>qk.mp (Int.lt_of_add_lt_add_right (Int.lt_of_neg_lt_neg (show -((a:Int)+1)< -((b:Int)+1) from h)))⟩
theorem io(a b:Int):ieq a b=true↔a=b:=by
 cases a with
 |ofNat a=>
  cases b with
  |ofNat b=>show ag a b=true↔_;exact ⟨λh=>by exact ae (aH h) rfl,λh=>by cases h;exact beq_refl _⟩
  |negSucc b=>show false=true↔_;simp
 |negSucc a=>
  cases b with
  |ofNat b=>show false=true↔_;simp
  |negSucc b=>show ag a b=true↔_;exact ⟨λh=>by exact ae (aH h) rfl,λh=>by cases h;exact beq_refl _⟩
theorem lF{a b:Int}(h:bA a b=true):a< b:=(gU a b).mp h
theorem xI{a b:Int}(h:bA a b=false):b<=a:=jb.mp λq=>cH (((gU a b).mpr q).symm.trans h)
section
variable{P:Pr}{J:G}{st:St}{s:Shared}{A:Around}{E:Value->Shared->Prop}
theorem En{l:List (Nat×Int)}{k:Nat}{i:Int}(h:pv l k=some i):(k,i)∈l:=by
 induction l with
 |nil=>exact aD h
 |cons p r ih=>
  have h:bf (ag p.1 k) (some p.2) (pv r k)=some i:=h;cases c:ag p.1 k with
  |true=>refine bH (aH c) (bH (af (kN c h)) ?_);exact .head _
  |false=>exact .tail _ (ih (ma c h))
theorem G5(R:Rel P J st s){k:Nat}{i:Int}(h:J.iI[k]?=some i):k< st.ni:=by refine bH R.cY ?_;exact (mn.mp h).1
theorem jc(R:Rel P J st s)(e:AI):∀{i:Int} {p:Int×Int},rangeOf st e=some p->e.ev J=some i->p.1<=i/\i<=p.2:=by
 refine AI.rec (motive:=λe=>∀{i:Int} {p:Int×Int},rangeOf st e=some p->e.ev J=some i->p.1<=i/\i<=p.2) (λj i p h hi=>af h▸af hi▸⟨NX _,NX _⟩) (λk i p h hi=>?_) (λa b ha hb i p h hi=>?_) (λa b ha hb i p h hi=>?_) (λa m ha i p h hi=>?_) (λa m ha i p h hi=>?_) e
 ·have h:oe (st.bnd.get k) (λi=>some (i,i)) (pv st.sub k)=some p:=h
  cases c:pv st.sub k with
  |some j=>rw [c] at h;have e:i=j:=af (hi.symm.trans (R.sub _ (En c)));exact af h▸⟨wu e.symm,wu e⟩
  |none=>rw [c] at h;refine am (R.bnd k p.1 p.2 (G5 R hi) h) λj h1 h2=>?_;exact af (hi.symm.trans h1)▸h2
 ·refine ah h λq h1 h=>?_
  refine ah h λr h2 h=>?_;refine ah hi λx g1 hi=>?_;refine ah hi λy g2 hi=>?_;have qa:=ha h1 g1;have qb:=hb h2 g2;exact af h▸af hi▸⟨Nr qa.1 qb.1,Nr qa.2 qb.2⟩
 ·refine ah h λq h1 h=>?_
  refine ah h λr h2 h=>?_;refine ah hi λx g1 hi=>?_;refine ah hi λy g2 hi=>?_;refine eO h λc h=>?_;refine au (jL.mp c) λc1 c2=>?_;have n1:=xI c1;have n2:=xI c2;have qa:=ha h1 g1;have qb:=hb h2 g2;exact af h▸af hi▸⟨Nt qa.1 qb.1 n2 (c8 n1 qa.1),Nt qa.2 qb.2 (c8 n2 qb.1) (c8 (c8 n1 qa.1) qa.2)⟩
 ·refine eO (show bf (ag m 0) none (some (0,(m:Int) - 1))=some p from h) λc h=>?_
  refine ah hi λx g1 hi=>?_;have hm:(0:Int)< m:=Nh.mpr (wj (dC c));exact af h▸af hi▸⟨Int.fmod_nonneg_of_pos x hm,Int.le_sub_one_of_lt (Int.fmod_lt_of_pos x hm)⟩
 ·refine ah h λq h1 h=>?_
  refine eO h λc h=>?_;refine au (jL.mp c) λc1 c2=>?_;refine ah hi λx g1 hi=>?_;have hm:(0:Int)< m:=Nh.mpr (wj (dC c2));have qa:=ha h1 g1;refine af h▸af hi▸?_;show q.1 / (m:Int)<=qE x m/\qE x m<=q.2 / (m:Int);refine ae (Int.fdiv_eq_ediv_of_nonneg x (mw hm)) ?_;exact ⟨MY hm qa.1,MY hm qa.2⟩
theorem Ra{a:AI}{p:AI×AI}(h:Hi a=some p):a= .add p.1 p.2:=by cases a<;>first |exact aD h |exact af h▸rfl
theorem Sz{a:AI}{p:AI×AI}(h:H9 a=some p):a= .mul p.1 p.2:=by cases a<;>first |exact aD h |exact af h▸rfl
theorem Va{a:AI}{p:AI×Nat}(h:Ky a=some p):a= .md p.1 p.2:=by cases a<;>first |exact aD h |exact af h▸rfl
theorem Ug{a:AI}{p:AI×Nat}(h:Kb a=some p):a= .dv p.1 p.2:=by cases a<;>first |exact aD h |exact af h▸rfl
theorem Wq{a:AI}{k:Nat}(h:Li a=some k):a= .var k:=by cases a<;>first |exact aD h |exact congrArg _ (af h)
theorem AI.jl{a b:AI}(h:a.beq b=true):a=b:=by
 refine AI.rec (motive:=λa=>∀b,a.beq b=true->a=b) (λi b h=>?_) (λk b h=>?_) (λx y f g b h=>?_) (λx y f g b h=>?_) (λx m f b h=>?_) (λx m f b h=>?_) a b h
 ·refine aF h λj h1 h2=>?_
  exact ae (gg h1) (ae ((io _ _).mp h2) rfl)
 ·refine aF h λj h1 h2=>?_
  exact ae (Wq h1) (ae (aH h2) rfl)
 ·refine aF h λp h1 h2=>?_
  exact ae (Ra h1) (ae (f _ (bq h2).1) (ae (g _ (bq h2).2) rfl))
 ·refine aF h λp h1 h2=>?_
  exact ae (Sz h1) (ae (f _ (bq h2).1) (ae (g _ (bq h2).2) rfl))
 ·refine aF h λp h1 h2=>?_
  exact ae (Va h1) (ae (f _ (bq h2).1) (ae (aH (bq h2).2) rfl))
 ·refine aF h λp h1 h2=>?_
  exact ae (Ug h1) (ae (f _ (bq h2).1) (ae (aH (bq h2).2) rfl))
theorem lg(b:Bool):b∈both:=by cases b<;>simp [both]
theorem EJ{p:Prop}[Decidable p]{b:Bool}(h:b=true↔p):decide p∈ [b]:=by
 rw [fe]
 by_cases q:p
 ·rw [decide_eq_true q];exact (h.mpr q).symm
 ·rw [decide_eq_false q]
  cases b with
  |true=>exact absurd (h.mp rfl) q
  |false=>rfl
theorem nr{Y β δ:Type}{m:δ->Prop}{a:Option Y}{b:Option β}{z:δ}{f:Y->β->δ}(h0:m z)(h1:∀x y,a=some x->b=some y->m (f x y)):m (jI z f a b):=kG (λ_=>h0) λx hx=>kG (λ_=>h0) λy hy=>h1 x y hx hy
theorem FY(R:Rel P J st s){a b:AI}{x y:Int}(ha:a.ev J=some x)(hb:b.ev J=some y):decide (x=y)∈Bs st a b:=by
 refine nr (m:=(decide (x=y)∈ ·)) (gB (λc=>?_) λ_=>nr (m:=(decide (x=y)∈ ·)) (lg _) λp q h1 h2=>?_) λi j h1 h2=>?_
 ·rw [AI.jl c] at ha
  refine ae (decide_eq_true (af (ha.symm.trans hb))) ?_;exact .head _
 ·have r1:=jc R a h1 ha
  have r2:=jc R b h2 hb;refine gB (m:=(decide (x=y)∈ ·)) (λd=>?_) λ_=>gB (λe=>?_) λ_=>lg _
  ·rw [decide_eq_false (by
    rintro rfl
    exact (dw.mp d).elim (λz=>qp.mpr (lF z) (c8 r2.1 r1.2)) λz=>qp.mpr (lF z) (c8 r1.1 r2.2))]
   exact .head _
  ·refine aB e λe e3=>?_
   refine aB e λe1 e2=>?_;rw [<-(io _ _).mp e1] at r1;rw [<-(io _ _).mp e2, <-(io _ _).mp e3] at r2;refine ae (decide_eq_true ((Ng r1.2 r1.1).trans (Ng r2.1 r2.2))) ?_;exact .head _
 ·rw [gg h1] at ha
  rw [gg h2] at hb;exact af ha▸af hb▸EJ (io _ _)
theorem uo(R:Rel P J st s){a b:AI}{x y:Int}(ha:a.ev J=some x)(hb:b.ev J=some y):decide (x< y)∈ltI st a b:=by
 refine nr (m:=(decide (x< y)∈ ·)) (nr (m:=(decide (x< y)∈ ·)) (lg _) λp q h1 h2=>?_) λi j h1 h2=>?_
 ·have r1:=jc R a h1 ha
  have r2:=jc R b h2 hb;refine gB (m:=(decide (x< y)∈ ·)) (λd=>?_) λ_=>gB (λ_=>lg _) λe=>?_
  ·refine ae (decide_eq_true (tx r1.2 (wi (lF d) r2.1))) ?_
   exact .head _
  ·refine ae (decide_eq_false (jb.mpr (c8 r2.2 (c8 (xI e) r1.1)))) ?_
   exact .head _
 ·rw [gg h1] at ha
  rw [gg h2] at hb;exact af ha▸af hb▸EJ (gU _ _)
theorem t6{b:Bool}{l:List Bool}(h:b∈l):(!b)∈lX l:=by unfold lX;rw [dD];exact jN h
theorem xF(R:Rel P J st s){a:AI}:∀{i x:Int},kE st a=some i->a.ev J=some x->x=i:=by refine AI.rec (motive:=λa=>∀{i x:Int},kE st a=some i->a.ev J=some x->x=i) (λj i x h ha=>af (ha.symm.trans h)) (λk i x h ha=>af (ha.symm.trans (R.sub _ (En h)))) (λa b f g i x h ha=>?_) (λ_ _ _ _ _ _ h=>aD h) (λ_ _ _ _ _ h=>aD h) (λ_ _ _ _ _ h=>aD h) a;refine ah (show ob (kE st a) (λx=>ob (kE st b) λy=>some (x+y))=some i from h) λy h1 h=>?_;refine ah h λz h2 h=>?_;refine ah ha λy' k1 ha=>?_;refine ah ha λz' k2 ha=>?_;exact bH (af h) (bH (af ha) (ae (f h1 k1) (ae (g h2 k2) rfl)))
theorem TE{e:AI}:∀{k:Nat} {x:Int},px e=some k->e.ev J=some x->∃i,J.iI[k]?=some i:=by
 refine AI.rec (motive:=λe=>∀{k:Nat} {x:Int},px e=some k->e.ev J=some x->∃i,J.iI[k]?=some i) (λ_ _ _ h=>aD h) (λj k x h hx=>af h▸⟨x,hx⟩) (λa b f g k x h hx=>?_) (λ_ _ _ _ _ _ h=>aD h) (λ_ _ _ _ _ h=>aD h) (λ_ _ _ _ _ h=>aD h) e;refine ah hx λy k1 hx=>?_;refine ah hx λz k2 _=>?_;have h:oe (px b) some (px a)=some k:=h;cases c:px a with
 |none=>rw [c] at h;exact g h k2
 |some j=>rw [c] at h;exact af h▸f c k1
theorem Rel.sa(R:Rel P J st s){k:Nat}{i:Int}(h:J.iI[k]?=some i):Rel P J (st.sa k i) s:={R with sub:=cT.mpr ⟨h,R.sub⟩}
theorem QI(n:Nat):∀(lo i:Int),lo<=i->i< lo+n->i∈GJ lo n:=by
 induction n with
 |zero=>exact λlo i h1 h2=>absurd h1 (qp.mpr (by refine bH (NH lo) ?_;exact h2))
 |succ n ih=>
  intro lo i h1 h2
  by_cases e:lo=i
  ·exact e▸ .head _
  ·exact .tail _ (ih (lo+1) i (Int.lt_iff_le_and_ne.mpr ⟨h1,e⟩) (by rw [NB,Int.add_comm 1];exact h2))
theorem tT{Y β:Type}{f:Y->Option β}{l:List Y}:∀{r:List β},bX f l=some r->∀a∈l,∃b,f a=some b/\b∈r:=by
 induction l with
 |nil=>exact λ_ a ha=>nomatch ha
 |cons x l ih=>intro r h;refine ah h λb e1 h=>?_;refine ah h λl' e2 h=>?_;have aa:=af h;clear h;subst aa;exact cT.mpr ⟨⟨b,e1,.head _⟩,λa ha=>(ih e2 a ha).imp λb' h=>⟨h.1,.tail _ h.2⟩⟩
theorem Et(R:Rel P J st s){e:AI}{x:Int}{l:List (Int×St)}(h:uY st e=some l)(hx:e.ev J=some x):∃st',(x,st')∈l/\Rel P J st' s/\st'.n=st.n:=by
 unfold uY at h;cases c:kE st e with
 |some i=>rw [c] at h;exact af h▸xF R c hx▸⟨st,.head _,R,rfl⟩
 |none=>rw [c] at h;refine ah h λk h1 h2=>?_;refine ah h2 λp h3 h4=>?_;refine aQ (TE h1 hx) λi hi=>?_;refine bP (R.bnd k p.1 p.2 (G5 R hi) h3) λj q1 q2 q3=>?_;obtain rfl:=af (hi.symm.trans q1);refine bb h4 λd h4=>?_;refine am (tT h4 i (QI _ _ _ q2 (by omega))) λb g1 g2=>?_;refine ah g1 λv g3 g4=>?_;have R1:=R.sa hi;refine ae (xF R1 g3 hx) ?_;exact ⟨_,af g4▸g2,R1,rfl⟩
end
section
variable{prog:Program}{w:World}{A:Around}{R:Result->Shared->Prop}{s:Shared}{env:Env}
theorem PW{test:ax}{body:List Stmt}
  (h:wpAny (model prog w) A (isTrue test env (eval test env)) (λb s₂=>if b then wpAny (model prog w) A (execs body env) (λf s₃=>match f with
    | .next | .cont=>codeAny (model prog w) A (.whileLoop test body [] env) R s₃
    | .brk=>R (.ok .next) s₃
    | .ret v=>R (.ok (.ret v)) s₃) (notedBy (model prog w) A env λe s'=>R (.error e) s') s₂ else R (.ok .next) s₂) (notedBy (model prog w) A env λe s'=>R (.error e) s') s):
  codeAny (model prog w) A (.whileLoop test body [] env) R s:=by
 refine codeAny_of_tree ?_;show wpAny _ A ((whileTurn test body [] env).onRaise (λx=>do noteFrame x env;theTreesLotGoes x)) _ _ s;refine wpAny_noted ?_;simp only [whileTurn];refine az (da h (λb s₂ h₂=>?_) λ_ _ h'=>h');cases b with
 |false=>simp only [k8,if_false] at h₂ ⊢;exact az (aT (aT h₂))
 |true=>
  simp only [if_true] at h₂ ⊢;refine az (da h₂ (λf s₃ h₃=>?_) λ_ _ h'=>h');cases f with
  |next=>exact aT ⟨rfl,h₃⟩
  |cont=>exact aT ⟨rfl,h₃⟩
  |brk=>exact aT h₃
  |ret v=>exact aT h₃
theorem RL{target:ax}{it:Value}{body:List Stmt}
  (h:wpAny (model prog w) A (pyNext it) (λr s₁=>match r with
    |none=>R (.ok .next) s₁
    |some v=>wpAny (model prog w) A (letOwnedTupleGo target it v) (λ_ s₁'=>wpAny (model prog w) A (assign target env v) (λ_ s₂=>wpAny (model prog w) A (execs body env) (λf s₃=>match f with
     | .next | .cont=>codeAny (model prog w) A (.forLoop target it body [] env) R s₃
     | .brk=>R (.ok .next) s₃
     | .ret v=>R (.ok (.ret v)) s₃) (notedBy (model prog w) A env λe s'=>R (.error e) s') s₂) (notedBy (model prog w) A env λe s'=>R (.error e) s') s₁') (notedBy (model prog w) A env λe s'=>R (.error e) s') s₁) (notedBy (model prog w) A env λe s'=>R (.error e) s') s):
  codeAny (model prog w) A (.forLoop target it body [] env) R s:=by
 refine codeAny_of_tree ?_;show wpAny _ A ((forTurn target it body [] env).onRaise (λx=>do noteFrame x env;theTreesLotGoes x)) _ _ s;refine wpAny_noted ?_;simp only [forTurn];refine az (ga (az (wpAny_onRaise (da h (λr s₁ h₁=>?_) λ_ _ h'=>ga h'))));cases r with
 |none=>exact aT ⟨rfl,codeAny_block (aT h₁)⟩
 |some v=>
  refine az (da h₁ (λ_ s₁' h₁'=>?_) λ_ _ h'=>h');refine az (da h₁' (λ_ s₂ h₂=>az (da h₂ (λf s₃ h₃=>?_) λ_ _ h'=>h')) λ_ _ h'=>h');cases f with
  |next=>exact aT ⟨rfl,h₃⟩
  |cont=>exact aT ⟨rfl,h₃⟩
  |brk=>exact aT h₃
  |ret v=>exact aT h₃
end
noncomputable def Bi(P:Pr)(A:Around)(env:Env)(R:Result->Shared->Prop)(J:G)(r:bG)(s:Shared):Prop:=match r with
 | .next=>R (.ok .next) s
 | .ret a=>∀v,VR J a v->R (.ok (.ret v)) s
 | .exc a=>∀v,VR J a v->notedBy (Md P) A env (λe s'=>R (.error e) s') v s
 |_=>True
noncomputable def ng(P:Pr)(fr:Fr)(x:X)(st:St)(k:Kont):Prop:=fr.e.sub=none->∀n l,aK (bE n (ak fr.e)) l=x->∀J s A Q E env,Rel P J st s->bj P J fr A env->Post P k J (gH Q E)->wpAny (Md P) A (execs l env) Q E s
noncomputable def Hc(P:Pr)(fr:Fr)(op:ey)(x:X)(st:St)(k:Kont):Prop:=∀n es,aK (aw n (ak fr.e)) es=x->∀J s A Q E env pos,Rel P J st s->bj P J fr A env->Post P k J (iP Q E)->wpAny (Md P) A (boolOp pos op (evalEach es env)) Q E s
noncomputable def ye(P:Pr)(fr:Fr)(t:X)(it:Nat)(b:X)(st:St)(k:Kont):Prop:=fr.e.sub=none->∀n e m l,km e=true->aw n (ak fr.e) e=t->aK (bE m (ak fr.e)) l=b->∀J s A R env a,Rel P J st s->bj P J fr A env->J.aA[it]?=some a->Post P k J (Bi P A env R)->codeAny (Md P) A (.forLoop e (.ref a) l [] env) R s
noncomputable def y7(P:Pr)(fr:Fr)(t b:X)(st:St)(k:Kont):Prop:=fr.e.sub=none->∀n e m l,aw n (ak fr.e) e=t->aK (bE m (ak fr.e)) l=b->∀J s A R env,Rel P J st s->bj P J fr A env->Post P k J (Bi P A env R)->codeAny (Md P) A (.whileLoop e l [] env) R s
noncomputable def Out(P:Pr)(J:G)(l:List (AV×St))(Q:Value->Shared->Prop):Prop:=∀p∈l,∀J' s' v,J.Le J'->Rel P J' p.2 s'->VR J' p.1 v->Q v s'
theorem PX{M:Model}{A:Around}{E:Value->Shared->Prop}{s:Shared}{x:Sem Value}{rest:List (Bool×Sem Value)}{Q:List Value->Shared->Prop}(h:wpAny M A x (λv s₁=>wpAny M A (spliced rest) (λvs=>Q (v::vs)) E s₁) E s):wpAny M A (spliced ((false,x)::rest)) Q E s:=by simp only [spliced];refine az (da h (λv s1 h1=>?_) λ_ _ z=>z);exact az (aT (az (fj (da h1 (λvs s2 h2=>aT h2) λ_ _ z=>z))))
noncomputable def fb(m:Nm):String:=bf (ag m jT) "list.append" (bf (ag m jU) "list.extend" (bf (ag m ko) "list.pop" (bf (ag m pq) "dict.get" "str.startswith")))
structure dT:Prop where
 zB:yc
 HH:yd
 cmp:∀{P:Pr} {J:G} {st:St} {s:Shared} {A:Around} {E Q:Value->Shared->Prop} {op:CmpOp} {a b:AV} {u v:Value} {l:List (AV×St)},zq op a b st=some l->A.units<=600->Rel P J st s->VR J a u->VR J b v->Out P J l Q->wpAny (Md P) A (compareOp op u v) Q E s
 bin:∀{P:Pr} {J:G} {st:St} {s:Shared} {A:Around} {E Q:Value->Shared->Prop} {op:Operator} {a b:AV} {u v:Value} {l:List (AV×St)},uG op a b st=some l->Rel P J st s->VR J a u->VR J b v->Out P J l Q->wpAny (Md P) A (binaryOp op u v) Q E s
 item:∀{P:Pr} {J:G} {st:St} {s:Shared} {A:Around} {E Q:Value->Shared->Prop} {a b:AV} {u v:Value} {l:List (AV×St)} {value slice:ax},o5 a b st=some l->Rel P J st s->VR J a u->VR J b v->(∀x y z p,slice≠ .Slice x y z p)->Out P J l Q->wpAny (Md P) A (subscriptTail value slice u v) Q E s
 slice:∀{P:Pr} {J:G} {st:St} {s:Shared} {A:Around} {env:Env} {E Q:Value->Shared->Prop} {a:AV} {u:Value} {l:List (AV×St)} {value:ax} {lo hi sp:Option ax} {x y z:Option Int} {pos:Pos},gC lo=some x->gC hi=some y->gC sp=some z->xQ a x y z st=some l->Rel P J st s->VR J a u->Out P J l Q->
  wpAny (Md P) A (eval (.Slice lo hi sp pos) env) (λi s₂=>wpAny (Md P) A (subscriptTail value (.Slice lo hi sp pos) u i) Q E s₂) E s
 getM:∀{P:Pr} {J:G} {st:St} {s:Shared} {A:Around} {E:Value->Shared->Prop} {Q:Value×List Value->Shared->Prop} {v:AV} {m:Str} {ov:Value} {pl:Sem Bool},vJ v (nm m) st=true->Rel P J st s->VR J v ov->(∀t,Q (.builtin (fb (nm m)),[ov]) {s with toks:=t})->wpAny (Md P) A (getMethod ov m pl) Q E s
 abg:∀{P:Pr} {J:G} {st:St} {s:Shared} {A:Around} {E Q:Value->Shared->Prop} {v:AV} {m:Nm} {ov:Value} {vs:List AV} {us:List Value} {l:List (AV×St)},yI v m vs st=some l->Rel P J st s->VR J v ov->ay J vs us->Out P J l Q->wpAny (Md P) A (c9 (.builtin (fb m)) (ov::us)) Q E s
section
variable{P:Pr}{self:Self}{fr:Fr}{J:G}{st:St}{s:Shared}{k:Kont}{A:Around}{E:Value->Shared->Prop}{env:Env}
inductive IV(P:Pr)(J:G)(a:AV)(u:Value)(s:Shared)(l:List Bool):Prop
 |mk (b:Bool) (h1:b∈l) (h2:VR J (zl a b) u) (h3:∀{A:Around} {E:Value->Shared->Prop} {Q:Bool->Shared->Prop},Q b s->wpAny (Md P) A (truthy u) Q E s):IV P J a u s l
theorem G2{a:AV}{u:Value}{l:List Bool}(h:oP st a=some l)(R:Rel P J st s)(hv:VR J a u):IV P J a u s l:=by
 cases a with
 |none=>exact ae hv.out ⟨false,af h▸ .head _,.none,λq _ _ _=>q⟩
 |bool b=>exact ae hv.out ⟨b,af h▸ .head _,.bool b,λq _ _ _=>q⟩
 |bM=>exact aQ hv.out λb e=>ae e ⟨b,af h▸lg b,.bool b,λq _ _ _=>q⟩
 |int e=>
  refine ba hv.out λi t e hi=>ae e ⟨!decide (i=0),af h▸t6 (FY R hi (show (AI.lit 0).ev J=some 0 from rfl)),.int t hi,λq=>truthy_int ?_⟩;have e1:(!decide (i=0))=(i != 0):=by
   by_cases z:i=0
   ·exact z▸rfl
   ·exact ae (decide_eq_false z) (ae (bne_iff_ne.mpr z) rfl)
  exact e1▸q
 |_=>exact aD h
theorem Eo{a:AV}{u:Value}{l:List Bool}{Q:Bool->Shared->Prop}(h:oP st a=some l)(R:Rel P J st s)(hv:VR J a u)(hQ:∀b∈l,Q b s):wpAny (Md P) A (truthy u) Q E s:=by
 cases G2 h R hv with
 |mk b h1 _ h3=>exact h3 (hQ b h1)
theorem mO{o:Option (List (AV×St))}(h:outs k o=true):∃l,o=some l/\∀p∈l,k (.val p.1) p.2=true:=by refine aF h λl h1 h2=>?_;exact ⟨l,h1,dm h2⟩
theorem mI{l:List (AV×St)}{Q:Value->Shared->Prop}{J₀:G}(h:∀p∈l,k (.val p.1) p.2=true)(post:Post P k J₀ (iP Q E))(l0:J₀.Le J):Out P J l Q:=λp hp J' s' v l1 R' hv=>post _ _ _ _ (h p hp) trivial (l0.trans l1) R' v hv
theorem dA{Q:Value->Shared->Prop}(post:Post P k J (iP Q E)):∀v st' J' s',k (.exc v) st'=true->hG (.exc v) st'->J.Le J'->Rel P J' st' s'->∀u,VR J' v u->E u s':=λv st' J' s' q x l R=>post _ _ _ _ q x l R
theorem rq{J':G}(h:∀v st' J' s',k (.exc v) st'=true->hG (.exc v) st'->J.Le J'->Rel P J' st' s'->∀u,VR J' v u->E u s')(l:J.Le J'):∀v st' J'' s',k (.exc v) st'=true->hG (.exc v) st'->J'.Le J''->Rel P J'' st' s'->∀u,VR J'' v u->E u s':=λv st' J'' s' q x l' R=>h v st' J'' s' q x (l.trans l') R
structure EOk(P:Pr)(sf:Self):Prop where
 ex:∀{fr:Fr} {x:X} {st:St} {k:Kont},sf (.ex fr x) st k=true->y0 P fr x st k
 test:∀{fr:Fr} {x:X} {st:St} {k:Kont},sf (.test fr x) st k=true->y6 P fr x st k
 bools:∀{fr:Fr} {op:ey} {x:X} {st:St} {k:Kont},sf (.bools fr op x) st k=true->Hc P fr op x st k
 tests:∀{fr:Fr} {op:ey} {x:X} {st:St} {k:Kont},sf (.tests fr op x) st k=true->FE P fr op x st k
 args:∀{fr:Fr} {x:X} {st:St} {k:Kont},sf (.args fr x) st k=true->yZ P fr x st k
 call:∀{c:Cx} {f:AV} {vs:List AV} {st:St} {k:Kont},sf (.call c f vs) st k=true->lB P c f vs st k
 code:∀{c:Cx} {a:Nat} {x:FX} {vs:List AV} {st:St} {k:Kont},sf (.call c (.glob a) vs) st k=true->b6.get a=some x->bZ P c a vs st k
noncomputable def GE(P:Pr)(fr:Fr)(e:ax)(st:St)(k:Kont):Prop:=∀J s A Q E env,Rel P J st s->bj P J fr A env->Post P k J (iP Q E)->wpAny (Md P) A (eval e env) Q E s
variable(H:EOk P self)
include H
theorem VS{n:Nat}{l r:ax}{op:CmpOp}{pos:Pos}(hr:Ke op (aw n (ak fr.e) l) (aw n (ak fr.e) r) self fr st k=true)(hm:behindInMarks op r=false):dT->GE P fr (.Compare l [op] [r] pos) st k:=λX J s A Q E env R F post=>by
 refine wpAny_Compare1 ?_ hm;refine bV (λ_=>H.ex) hr R F rfl (dA post) λa st1 J1 s1 h1 l1 R1 F1 u hu=>?_;refine bV (λ_=>H.ex) h1 R1 F1 rfl (rq (dA post) l1) λb st2 J2 s2 h2 l2 R2 F2 v hv=>?_;cases c:aM fr.c.u 600 with
 |false=>rw [cu c] at h2;cases h2
 |true=>
 rw [cf c] at h2;refine am (mO h2) λl h3 h4=>?_;exact X.cmp h3 (aI F.c.units (bt c)) R2 (hu.mono l2) hv (mI h4 post (l1.trans l2))
theorem VQ{n:Nat}{l r:ax}{op:Operator}{pos:Pos}(hr:Kd op (aw n (ak fr.e) l) (aw n (ak fr.e) r) self fr st k=true):dT->GE P fr (.BinOp l op r pos) st k:=λX J s A Q E env R F post=>by rw [arm_eval_BinOp];refine az (bV (λ_=>H.ex) hr R F rfl (dA post) λa st1 J1 s1 h1 l1 R1 F1 u hu=>?_);refine az (fj (bV (λ_=>H.ex) h1 R1 F1 rfl (rq (dA post) l1) λb st2 J2 s2 h2 l2 R2 F2 v hv=>?_));refine az (ga (wpAny_operateT ?_));refine am (mO h2) λl h3 h4=>?_;exact X.bin h3 R2 (hu.mono l2) hv (mI h4 post (l1.trans l2))
theorem S8{n:Nat}{o:ax}{a:Str}{pos:Pos}(hr:HA (aw n (ak fr.e) o) (nm a) self fr st k=true)(ha:a∈attrS)(hb:baseOk o=true):dT->GE P fr (.Attribute o a pos) st k:=λX J s A Q E env R F post=>by
 have key:wpAny (Md P) A (eval o env) (λv s₁=>wpAny (Md P) A (getAttr v a true) Q E s₁) E s:=by refine bV (λ_=>H.ex) hr R F rfl (dA post) λv st1 J1 s1 h1 l1 R1 F1 u hu=>?_;refine aF h1 λw h2 h3=>?_;exact xj X.zB R1 h2 ha hu λz hz=>post _ _ _ _ h3 trivial l1 (R1.toks _) z hz
 cases o with
 |Name=>exact Attribute_any_ key rfl
 |Attribute=>exact Attribute_any_ key rfl
 |Subscript=>exact Attribute_any_ key rfl
 |Call f=>
  cases f with
  |Attribute=>exact Attribute_any_ key rfl
  |_=>cases hb
 |_=>cases hb
theorem VX{n:Nat}{t b o:ax}{pos:Pos}(hr:Kg (aw n (ak fr.e) t) (aw n (ak fr.e) b) (aw n (ak fr.e) o) self fr st k=true):GE P fr (.IfExp t b o pos) st k:=λJ s A Q E env R F post=>by
 rw [arm_eval_IfExp];refine az (rX (λ_=>H.test) hr R F rfl (dA post) λc st1 J1 s1 h1 l1 R1 F1=>?_);cases c with
 |true=>exact H.ex (show self (.ex fr (aw n (ak fr.e) b)) st1 k=true from h1) n b rfl J1 s1 A Q E env R1 F1 (post.le l1)
 |false=>exact H.ex (show self (.ex fr (aw n (ak fr.e) o)) st1 k=true from h1) n o rfl J1 s1 A Q E env R1 F1 (post.le l1)
theorem Te{n:Nat}{es:List ax}{pos:Pos}(hr:eList (aK (aw n (ak fr.e)) es) self fr st k=true)(hs:noStar es=true):GE P fr (.List es pos) st k:=λJ s A Q E env R F post=>by
 rw [arm_eval_List];refine az (ga (az (rW (λ_=>H.args) hr R F rfl hs (dA post) λas st1 J1 s1 h1 l1 R1 F1 vs hvs=>?_)));refine am (bI h1) λst2 h2 h3=>?_;unfold kJ at h2;cases c:short as with
 |false=>rw [cu c] at h2;cases h2
 |true=>
  rw [cf c] at h2;refine au (fD h2) λq1 aq=>?_;have aa:=aq;clear h2 aq;subst aa;have hlen:vs.length<=1000000:=by rw [hvs.length, <-len_eq];exact bt c
  refine wpAny_newList ?_ (aI hlen (by decide));have hle:=J1.d8 s1.heap.objs.size;refine au (R1.new (o:={cls:=.type "list",data:=.seq vs.toArray}) (ao:=.list none as) rfl ⟨vs.toArray,0,rfl,hvs.mono hle⟩ q1) λR2 h4=>?_;exact post _ _ _ _ h3 trivial (l1.trans hle) R2 _ (.ref h4)
theorem V4{n:Nat}{es:List ax}{m:Nat}{pos:Pos}(hr:Ki (aK (aw n (ak fr.e)) es) self fr st k=true)(hs:noStar es=true):GE P fr (.Tuple es m pos) st k:=λJ s A Q E env R F post=>by
 rw [arm_eval_Tuple];refine az (ga (az (rW (λ_=>H.args) hr R F rfl hs (dA post) λas st1 J1 s1 h1 l1 R1 F1 vs hvs=>?_)));cases c:short as with
 |false=>rw [cu c] at h1;cases h1
 |true=>
  rw [cf c] at h1;have hlen:vs.length<=1000000:=by rw [hvs.length, <-len_eq];exact bt c
  refine wpAny_newTuple ?_ (aI hlen (by decide));refine fP (R1.zR (o:={cls:=.type "tuple",data:=.seq vs.toArray}) rfl) λR2 hle h4=>?_;exact post _ _ _ _ h1 trivial (l1.trans hle) R2 _ (.tup h4 rfl rfl (hvs.mono hle))
theorem S7:∀(n:Nat) (es:List ax) {x:X} {st:St} {k:Kont},Ip fr x true self st k=true->aK (aw n (ak fr.e)) es=x->noStar es=true->∀J s A Q E env pos,Rel P J st s->bj P J fr A env->Post P k J (Ls Q E)->wpAny (Md P) A (spliced (backTo pos (starEach es env))) Q E s:=by
 intro n es x st k hr hx hs J s A Q E env pos R F post;cases es with
 |nil=>subst hx;exact aT (post _ _ _ _ hr trivial (.refl _) R _ .nil)
 |cons e r=>
  subst hx;have hs':noStar r=true/\(backTo pos (starEach (e::r) env))=(false,eval e env)::backTo pos (starEach r env):=by clear hr;cases e<;>first |exact ⟨hs,rfl⟩ |cases hs
  refine ae hs'.2 ?_;have hr:self (.ex fr (aw n (ak fr.e) e)) st (kv k λv st1=>self (.args fr (aK (aw n (ak fr.e)) r)) st1 (kvs k λl st2=>k (.vals (v::l)) st2))=true:=hr;have hexc:∀v st' J' s',k (.exc v) st'=true->hG (.exc v) st'->J.Le J'->Rel P J' st' s'->∀u,VR J' v u->E u s':=λv st' J' s' q x l R=>post _ _ _ _ q x l R;refine PX (bV (λ_=>H.ex) hr R F rfl hexc λa st1 J1 s1 h1 l1 R1 F1 u hu=>?_);refine rW (λ_=>H.args) h1 R1 F1 rfl hs'.1 (rq hexc l1) λas st2 J2 s2 h2 l2 R2 F2 vs hvs=>?_;exact post _ _ _ _ h2 trivial (l1.trans l2) R2 _ (.cons (hu.mono l2) hvs)
end
section
variable{P:Pr}{self:Self}{fr:Fr}{J:G}{st:St}{s:Shared}{k:Kont}{A:Around}{E:Value->Shared->Prop}{env:Env}
theorem qX{x:Str}{u:Unit}{l:List Str}(h:lk (nm x) (l.map λa=>(nm a,()))=some u):x∈l:=by
 induction l with
 |nil=>exact aD h
 |cons a r ih=>
  have h:bf (ag (nm x) (nm a)) (some ()) (lk (nm x) (r.map λa=>(nm a,())))=some u:=h;cases c:ag (nm x) (nm a) with
  |true=>exact dM (aH c)▸ .head _
  |false=>rw [c] at h;exact .tail _ (ih h)
section
variable{C:X->Bool}{b:Bool}{x:X}{Y:Type}{o:Option Y}{l:List Y}{f:Y->X}
theorem nj(h0:C .bad=false)(h:C (gd b x)=true):b=true/\C x=true:=by
 cases b with
 |true=>exact ⟨rfl,h⟩
 |false=>exact aE (h0.symm.trans h)
theorem abu(h0:C .bad=false)(h:C (bf b .bad x)=true):b=false/\C x=true:=by
 cases b with
 |false=>exact ⟨rfl,h⟩
 |true=>exact aE (h0.symm.trans h)
theorem gW(h0:C .bad=false)(h:C (go o f)=true):∃a,o=some a/\C (f a)=true:=by
 cases o with
 |none=>exact aE (h0.symm.trans h)
 |some a=>exact ⟨a,rfl,h⟩
theorem xJ(h0:C .bad=false)(h:C (nu l f)=true):∃a,l= [a]/\C (f a)=true:=by
 cases l with
 |nil=>exact aE (h0.symm.trans h)
 |cons a r=>
  cases r with
  |nil=>exact ⟨a,rfl,h⟩
  |cons b r=>exact aE (h0.symm.trans h)
theorem Gq(h0:C .bad=false)(h:C (pG l x)=true):l= []/\C x=true:=by
 cases l with
 |nil=>exact ⟨rfl,h⟩
 |cons b r=>exact aE (h0.symm.trans h)
end
section
variable{b:Bool}{x:X}{Y:Type}{o:Option Y}{l:List Y}{f:Y->X}
theorem j5(h:dI (gd b x) self fr st k=true):b=true/\dI x self fr st k=true:=nj (C:=λx=>dI x self fr st k) rfl h
theorem mY(h:dI (go o f) self fr st k=true):∃a,o=some a/\dI (f a) self fr st k=true:=gW (C:=λx=>dI x self fr st k) rfl h
theorem xt(h:dI (nu l f) self fr st k=true):∃a,l= [a]/\dI (f a) self fr st k=true:=xJ (C:=λx=>dI x self fr st k) rfl h
end
theorem evX{n:Nat}{sc:Scope}{e:ax}(h:dI (aw (n+1) sc e) self fr st k=true):dI (kZ (aw n) sc e) self fr st k=true:=(j5 (b:= !(gD (kZ (aw n) sc e))||nH e) h).2
inductive uE(C:X->Bool)(sc:Scope)(x:Str):Prop
 |loc (h:sc.names.lookup x=some .local) (hr:C (.loc (nm x))=true):uE C sc x
 |gI (h:sc.names.lookup x=some .cell\/sc.names.lookup x=some .free) (hr:C (.gI (nm x))=true):uE C sc x
 |jG (v:AV) (h:sc.names.lookup x=some .globalImplicit) (g:oY (nm x)=some v) (hr:C (.jG v)=true):uE C sc x
theorem t5{C:X->Bool}{sc:Scope}{x:Str}(h0:C .bad=false)(h:C (xName sc x)=true):(x==("__debug__":Str))=false/\(x==("__classdict__":Str))=false/\uE C sc x:=by
 refine au (abu h0 h) λc h=>?_;refine au (jL.mp c) λc1 c2=>?_;have no:∀{y:Str},nm x≠nm y->(x==y)=false:=λh=>beq_false_of_ne λq=>h (congrArg nm q);have e1:cs "__debug__"=nm ("__debug__":Str):=by kernel_rfl
 have e2:cs "__classdict__"=nm ("__classdict__":Str):=by kernel_rfl
 refine ⟨no (e1▸dC c1),no (e2▸dC c2),?_⟩;refine am (gW h0 h) λkd d h=>?_;rw [yG] at d;cases kd with
 | «local» =>exact .loc d h
 |cell=>exact .gI (.inl d) h
 |free=>exact .gI (.inr d) h
 |globalExplicit=>exact aE (h0.symm.trans h)
 |globalImplicit=>refine am (gW h0 h) λv g h=>?_;exact .jG v d g h
theorem snd_const{c:Const}{m:Nat}{pos:Pos}{n:Nat}(hr:dI (Lj c) self fr st k=true):GE P fr (.Constant c m pos) st k:=λJ s A Q E env R F post=>by
 cases c with
 |none=>exact wpAny_Constant_none (post _ _ _ _ hr trivial (.refl _) R _ .none)
 |bool b=>exact wpAny_Constant_bool (post _ _ _ _ hr trivial (.refl _) R _ (.bool b))
 |int i=>exact wpAny_Constant_int (post _ _ _ _ hr trivial (.refl _) (R.toks _) _ (.int _ rfl))
 |str x=>exact Constant_str (post _ _ _ _ hr trivial (.refl _) (R.toks _) _ (.str _ rfl))
 |_=>exact aE hr
theorem Tg{x:Str}{pos:Pos}(hr:dI (xName (ak fr.e) x) self fr st k=true):GE P fr (.Name x pos) st k:=λJ s A Q E env R F post=>by
 refine fP (t5 (C:=λx=>dI x self fr st k) rfl hr) λhd hn K=>?_;cases K with
 |loc d hr=>refine aF (show aj (rN fr (nm x) st) (λv=>k (.val v) st)=true from hr) λv h1 h2=>?_;exact XO R F rfl d hd h1 λw hw=>post _ _ _ _ h2 trivial (.refl _) R w hw
 |gI d hr=>refine aF (show aj (zo fr (nm x) st) (λv=>k (.val v) st)=true from hr) λv h1 h2=>?_;exact WP R F rfl d hd hn h1 λw hw=>post _ _ _ _ h2 trivial (.refl _) R w hw
 |jG v d g hr=>exact Xs R F d g λw hw=>post _ _ _ _ hr trivial (.refl _) R w hw
variable(H:EOk P self)
include H
theorem Td{n:Nat}{o i:ax}{pos:Pos}(hr:HC (aw n (ak fr.e) o) (aw n (ak fr.e) i) self fr st k=true)(hi:∀x y z p,i≠ .Slice x y z p):dT->GE P fr (.Subscript o i pos) st k:=λX J s A Q E env R F post=>by refine Subscript_ (bV (λ_=>H.ex) hr R F rfl (dA post) λa st1 J1 s1 h1 l1 R1 F1 u hu=>?_);refine bV (λ_=>H.ex) h1 R1 F1 rfl (rq (dA post) l1) λb st2 J2 s2 h2 l2 R2 F2 v hv=>?_;refine am (mO h2) λl h3 h4=>?_;exact X.item h3 R2 (hu.mono l2) hv hi (mI h4 post (l1.trans l2))
theorem QS{n:Nat}{o:ax}{lo hi sp:Option ax}{x y z:Option Int}{pos p:Pos}(hr:FQ (aw n (ak fr.e) o) x y z self fr st k=true)(h1:gC lo=some x)(h2:gC hi=some y)(h3:gC sp=some z):dT->GE P fr (.Subscript o (.Slice lo hi sp p) pos) st k:=λX J s A Q E env R F post=>by refine Subscript_ (bV (λ_=>H.ex) hr R F rfl (dA post) λa st1 J1 s1 h4 l1 R1 F1 u hu=>?_);refine am (mO h4) λl h5 h6=>?_;exact X.slice h1 h2 h3 h5 R1 hu (mI h6 post l1)
theorem VZ{n:Nat}{e:ax}{pos:Pos}(hr:Kh (aw n (ak fr.e) e) self fr st k=true):GE P fr (.UnaryOp .Not e pos) st k:=λJ s A Q E env R F post=>by rw [arm_eval_UnaryOp];refine az (bV (λ_=>H.ex) hr R F rfl (dA post) λa st1 J1 s1 h1 l1 R1 F1 u hu=>?_);refine az (ga (fj ?_));refine am (bI h1) λl h2 h3=>?_;exact not_of (Eo h2 R1 hu λb hb=>post _ _ _ _ (dm h3 b hb) trivial l1 R1 _ (.bool _))
theorem QO{n:Nat}{es:List ax}{op:ey}{x:X}(hr:GG fr op x true self st k=true)(hx:aK (aw n (ak fr.e)) es=x){Q:Value->Shared->Prop}{pos:Pos}(R:Rel P J st s)(F:bj P J fr A env)(post:Post P k J (iP Q E)):wpAny (Md P) A (boolOp pos op (evalEach es env)) Q E s:=by
 subst hx;cases es with
 |nil=>cases hr
 |cons e r=>
  have hr:bf (isNil (aK (aw n (ak fr.e)) r)) (self (.ex fr (aw n (ak fr.e) e)) st k) (self (.ex fr (aw n (ak fr.e) e)) st (kv k λv st1=>aj (oP st1 v) λl=>bF l λb=>bf (b==py op)
     (self (.bools fr op (aK (aw n (ak fr.e)) r)) st1 k) (k (.val (zl v b)) st1)))=true:=hr
  cases r with
  |nil=>exact H.ex hr n e rfl J s A Q E env R F post
  |cons e2 r2=>
   show wpAny _ _ (do let v<-eval e env;standAt pos;let t<-holding [v] (truthy v);match op,t with | .And,false | .Or,true=>pure v |_,_=>boolOp pos op (evalEach (e2::r2) env)) _ _ _;refine az (bV (λ_=>H.ex) hr R F rfl (dA post) λa st1 J1 s1 h1 l1 R1 F1 u hu=>?_);refine az (ga (az (fj ?_)));refine aF h1 λl h2 h3=>?_;cases G2 h2 R1 hu with
   |mk b hb hval ht=>
   refine ht ?_;have h4:=dm h3 b hb;cases op<;>cases b
   ·exact aT (post _ _ _ _ h4 trivial l1 R1 _ hval)
   ·exact H.bools h4 n (e2::r2) rfl J1 s1 A Q E env pos R1 F1 (post.le l1)
   ·exact H.bools h4 n (e2::r2) rfl J1 s1 A Q E env pos R1 F1 (post.le l1)
   ·exact aT (post _ _ _ _ h4 trivial l1 R1 _ hval)
theorem QT{n:Nat}{es:List ax}{op:ey}{x:X}(hr:GH fr op x true self st k=true)(hx:aK (aw n (ak fr.e)) es=x){Q:Bool->Shared->Prop}(R:Rel P J st s)(F:bj P J fr A env)(post:Post P k J (vG Q E)):wpAny (Md P) A (allTrue op es env) Q E s:=by
 subst hx;cases es with
 |nil=>have hr:k (.tt (py op)) st=true:=hr;cases op<;>exact aT (post _ _ _ _ hr trivial (.refl _) R)
 |cons e r=>
  have hr:self (.test fr (aw n (ak fr.e) e)) st (kt k λb st1=>bf (b==py op) (self (.tests fr op (aK (aw n (ak fr.e)) r)) st1 k) (k (.tt b) st1))=true:=hr;show wpAny _ _ (do match op, <-isTrue e env (eval e env) with | .And,false=>pure false | .Or,true=>pure true |_,_=>allTrue op r env) _ _ _;refine az (rX (λ_=>H.test) hr R F rfl (λv st' J' s' q x l R=>post _ _ _ _ q x l R) λb st1 J1 s1 h1 l1 R1 F1=>?_);cases op<;>cases b
  ·exact aT (post _ _ _ _ h1 trivial l1 R1)
  ·exact H.tests h1 n r rfl J1 s1 A Q E env R1 F1 (post.le l1)
  ·exact H.tests h1 n r rfl J1 s1 A Q E env R1 F1 (post.le l1)
  ·exact aT (post _ _ _ _ h1 trivial l1 R1)
end
theorem Qp(P:Params):((d6 1080).all λa=> !(isKnown a)||keepIn (K P) (.ref a))=true:=by kernel_rfl
theorem Sf{a:Nat}(h:isKnown a=true):a< 1080:=by
 by_cases hc:a< 1080
 ·exact hc
 ·exfalso
  have e:wq qw a=0:=by have q:qw< 2 ^ 1080:=bt (show aM (qw+1) (2 ^ 1080)=true by kernel_rfl);show qw >>> a=0;rw [Mv];exact Nb (bz q (MH (by decide) (i5 hc)))
  unfold isKnown at h;rw [e] at h;cases h
theorem Sg(P:Params){a:Nat}(h:isKnown a=true):keepIn (K P) (.ref a)=true:=by have:=be.mp (Qp P) a (ic.mpr (Sf h));rw [h] at this;exact this
noncomputable def Ee(P:Params):Bool:=fN.all λC=>attrS.all λa=>findIn (K P) (.ref C) a==some none
theorem Vi(P:Params):Ee P=true:=by kernel_rfl
theorem find_none(P:Params){C:Nat}{a:Str}(hC:C∈fN)(ha:a∈attrS):findIn (K P) (.ref C) a=some none:=by have q:=Vi P;unfold Ee at q;exact beq_iff_eq.mp (be.mp (be.mp q C hC) a ha)
noncomputable def KP(P:Pr)(a:AV)(f:Value)(h:Heap):Prop:=match a with
 | .glob _=>(K P.W.w.params).In h
 | .told _=>∃q,f= .ref q/\FnAt q h
 |_=>True
theorem abH{P:Pr}{J:G}{st:St}{s:Shared}{a:AV}{f:Value}(R:Rel P J st s)(hv:VR J a f):KP P a f s.heap:=by
 cases a with
 |glob=>exact R.k
 |told=>
  cases hv.BZ with
  |mk h1=>refine fB (R.fz _ _ h1) λ_ _ o' h2 h3=>?_;exact ⟨_,rfl,_,_,_,_,(h3.plain λen n q=>cQ Data.ctorIdx q rfl)▸h2⟩
 |_=>trivial
theorem D8{P:Pr}{J:G}{a:AV}{f:Value}(hf:p0 a=true)(hv:VR J a f):∀h,KP P a f h->∃k,(k=Keeper.frame\/k=Keeper.machine\/k=Keeper.boundFrame)/\Looks (Md P) h (keeperOf f) k:=by
 intro h hk;cases a with
 |glob a=>exact hv.out▸keeps_K (Sg _ hf) h (hv.out▸hk)
 |told=>exact am hk λq e h1=>e▸keeps_F h h1
 |bi n=>exact hv.out▸⟨.machine,.inr (.inl rfl),.now⟩
 |typ n=>exact hv.out▸⟨.machine,.inr (.inl rfl),.now⟩
 |_=>exact aE hf
section
variable{P:Pr}{self:Self}{fr:Fr}{J:G}{st:St}{s:Shared}{k:Kont}{A:Around}{E:Value->Shared->Prop}{env:Env}
theorem DC{e:ax}{r:List ax}(h:noStar (e::r)=true):noStar r=true/\starEach (e::r) env=(false,eval e env)::starEach r env:=by cases e<;>first |exact ⟨h,rfl⟩ |exact aE h
theorem xU{es:List ax}{pos:Pos}(h:noStar es=true):(backTo pos (starEach es env)).any (·.1)=false:=by
 induction es with
 |nil=>rfl
 |cons e r ih=>have q:=DC (env:=env) h;refine ae q.2 ?_;show (false||(backTo pos (starEach r env)).any (·.1))=false;refine ae (ih q.1) ?_;rfl
theorem TP{o:ax}{m:Str}(hb:baseOk o=true):attributeBase o m env (eval o env)=eval o env:=by
 cases o with
 |Name=>rfl
 |Attribute=>rfl
 |Subscript=>rfl
 |Call f=>
  cases f with
  |Attribute=>rfl
  |_=>cases hb
 |_=>cases hb
theorem NU(es:List ax):(starEach es env).length=es.length:=by
 induction es with
 |nil=>rfl
 |cons e r ih=>cases e<;>exact congrArg (· +1) ih
theorem Fc{o:ax}{m:Str}{p pos:Pos}{es:List ax}{Q:Value->Shared->Prop}(hb:(baseOk o&&ag p.endLine pos.line&&aM es.length 20)=true)(hs:noStar es=true)
  (h:wpAny (Md P) A (eval o env) (λov s₁=>∀pl,wpAny (Md P) A (getMethod ov m pl) (λfx s₂=>wpAny (Md P) A (callWith pos fx.1 fx.2 (backTo pos (starEach es env)) []) Q E s₂) E s₁) E s):wpAny (Md P) A (eval (.Call (.Attribute o m p) es [] pos) env) Q E s:=by
 refine fP (IZ hb) λh1 h2 h3=>?_;have h3:=bt h3;have hl:(starEach es env).length=es.length:=NU es;rw [arm_eval_Call,TP h1];refine az (da h (λov s1 q1=>az (ga ?_)) λ_ _ z=>z);unfold methodCall;have few:methodCallForm (es.length+([]:List Keyword).length) (backTo pos (starEach es env)) (backToKw pos (keywordEach [] env))=true:=by
  unfold methodCallForm;have e1:(backTo pos (starEach es env)).all (λx=> !x.1)=true:=by
   have q:=xU (env:=env) (pos:=pos) hs;rw [be];intro x hx;cases hx1:x.1 with
   |false=>rfl
   |true=>rw [tB.mpr ⟨x,hx,hx1⟩] at q;cases q
  refine ae e1 ?_;show (true&&true&&decide (es.length+0+0< 30))=true;refine ae (decide_eq_true (by omega)) ?_;rfl
 refine ae few ?_;refine az (fj ?_);show wpAny _ _ (getMethod ov m _) _ _ _;refine da (q1 _) (λfx s2 q2=>?_) λ_ _ z=>z;obtain ⟨f,first⟩:=fx;refine az ?_;unfold methodCallPos;have e2:(p.endLine==pos.line)=true:=by refine ae (aH h2) ?_;exact beq_self_eq_true _
 refine ae e2 ?_;exact aT q2
variable(H:EOk P self)
include H
theorem zn{n:Nat}{es:List ax}{f:Value}{first:List Value}{w:AV}{fs:List AV}{pos:Pos}{Q:Value->Shared->Prop}(hr:self (.args fr (aK (aw n (ak fr.e)) es)) st (kvs k λvs st2=>self (.call fr.c w (fs++vs)) st2 k)=true)(hs:noStar es=true)(hw:p0 w=true)
  (hf:VR J w f) (hfs:ay J fs first) (R:Rel P J st s) (F:bj P J fr A env) (post:Post P k J (iP Q E)):wpAny (Md P) A (callWith pos f first (backTo pos (starEach es env)) []) Q E s:=by
 have key:wpAny (Md P) A (spliced (backTo pos (starEach es env))) (λvs s₁=>KP P w f s₁.heap/\wpAny (Md P) A (c9 f (first++vs)) Q E s₁) E s:=by
  refine rW (λ_=>H.args) hr R F rfl hs (dA post) λas st1 J1 s1 h1 l1 R1 F1 vs hvs=>⟨?_,?_⟩
  ·exact abH R1 (hf.mono l1)
  ·exact H.call h1 J1 s1 A Q E f (first++vs) R1 F1.c (hf.mono l1) ((hvs.append (hfs.mono l1))) (post.le l1)
 cases es with
 |nil=>intro Γ p hΓ;have q:KP P w f s.heap/\wpAny (Md P) A (c9 f (first++ [])) Q E s:=key Γ p hΓ;exact callWith_of (P:=KP P w f) rfl (D8 hw hf) (evalArgs_nil3 q) Γ p hΓ
 |cons e r=>refine callWith_of (P:=KP P w f) (by refine ae (xU hs) ?_;rfl) (D8 hw hf) ?_;have q:=DC (env:=env) hs;rw [q.2] at key ⊢;exact evalArgs_plain key
omit H in
theorem xb{n:Nat}{sc:Scope}{x:Str}{p:Pos}:aw (n+1) sc (.Name x p)=xName sc x:=by
 have h:gD (xName sc x)=false:=by
  unfold xName;cases (ag (nm x) (cs "__debug__")||ag (nm x) (cs "__classdict__")) with
  |true=>rfl
  |false=>
   show gD (go (nS (nm x) sc.names) (IL x))=false;cases nS (nm x) sc.names with
   |none=>rfl
   |some kd=>cases kd with
    |globalImplicit=>show gD (go (oY (nm x)) .jG)=false;cases oY (nm x)<;>rfl
    |_=>rfl
 show bf (!(gD (xName sc x))||nH (.Name x p)) (xName sc x) .bad=_;rw [h];rfl
theorem S9{n:Nat}{x:Str}{es:List ax}{p pos:Pos}(hr:HB (xName (ak fr.e) x) (aK (aw n (ak fr.e)) es) self fr st k=true)(hs:noStar es=true):GE P fr (.Call (.Name x p) es [] pos) st k:=λJ s A Q E env R F post=>by
 refine Call_Name rfl ?_;refine bV (x:=xName (ak fr.e) x) (λ_=>H.ex) hr R F (n:=1) (e:=.Name x p) xb (dA post) λw st1 J1 s1 h1 l1 R1 F1 u hu=>?_;cases c:p0 w with
 |false=>rw [cu c] at h1;cases h1
 |true=>rw [cf c] at h1;exact zn H (fs:=[]) h1 hs c hu .nil R1 F1 (post.le l1)
theorem QU{n:Nat}{o:ax}{m:Str}{es:List ax}{p pos:Pos}(hr:FR (aw n (ak fr.e) o) (nm m) (aK (aw n (ak fr.e)) es) self fr st k=true)(hs:noStar es=true)(ha:m∈attrS)(hb:(baseOk o&&ag p.endLine pos.line&&aM es.length 20)=true):dT->GE P fr (.Call (.Attribute o m p) es [] pos) st k:=λX J s A Q E env R F post=>by
 have key:wpAny (Md P) A (eval o env) (λov s₁=>∀pl,wpAny (Md P) A (getMethod ov m pl) (λfx s₂=>wpAny (Md P) A (callWith pos fx.1 fx.2 (backTo pos (starEach es env)) []) Q E s₂) E s₁) E s:=by
  refine bV (λ_=>H.ex) hr R F rfl (dA post) λv st1 J1 s1 h1 l1 R1 F1 u hu pl=>?_;cases vc:Lg v st1 with
  |false=>rw [cu vc] at h1;cases h1
  |true=>
  rw [cf vc] at h1;refine aF h1 λw h2 h3=>?_;cases c:p0 w with
  |false=>rw [cu c] at h3;cases h3
  |true=>
   rw [cf c] at h3;have get:wpAny (Md P) A (getAttr u m false) (λv s₂=>wpAny (Md P) A (callWith pos v [] (backTo pos (starEach es env)) []) Q E s₂) E s1:=xj X.zB R1 h2 ha hu λz hz=>zn H (fs:=[]) h3 hs c hz .nil (R1.toks _) F1 (post.le l1);have usual:∀{C x:Nat} {ox od:Obj},C∈fN->InstAt s1.heap x ox C (some od)->u= .ref x->wpAny (Md P) A (getMethod u m pl) (λfx s₂=>wpAny (Md P) A (callWith pos fx.1 fx.2 (backTo pos (starEach es env)) []) Q E s₂) E s1:=by intro C x ox od hC I e;subst e;have q:=be.mp (be.mp (EX P.W.w.params) C hC) m ha;unfold zZ at q;simp only [i0] at q;obtain ⟨⟨c1,c2⟩,c3⟩:=q;exact method_usual R1.k I (plainGet_of c1).1 (plainGet_of c1).2 (find_none P.W.w.params hC ha) rfl get
   cases v with
   |ref i=>
    refine ah (show Hl i (nm m) st1=some w from h2) λo' h4 h5=>?_;cases o' with
    |inst C d=>
     have h5:Bn C d (nm m) st1=some w:=h5;unfold Bn at h5;cases c':cn C with
     |false=>rw [cu c'] at h5;cases h5
     |true=>rw [cf c'] at h5;refine ah h5 λes' h6 _=>?_;obtain ⟨x,b',ox,od,en,nn,rfl,q1,q2,q3,q4, -,q5, -⟩:=ut R1 h4 h6 hu;exact usual (jf c') (jn q1 q2 q3 q4 q5) rfl
    |exc C d=>obtain ⟨o2,e1,e2⟩:=bI (show aj (st1.get i) E1=true from vc);rw [h4] at e1;cases e1;cases e2
    |_=>cases h5
   |inst C ns vs=>
    have h2':yg C ns vs (nm m) st1=some w:=h2;unfold yg at h2';cases c':cn C with
    |false=>rw [cu c'] at h2';cases h2'
    |true=>obtain ⟨x,b',ox,od,en,nn,rfl,q1,q2,q3,q4,q5, -⟩:=tW R1 hu;exact usual (jf c') (jn q1 q2 q3 q4 q5) rfl
   |_=>cases h2
 exact Fc hb hs key
end
noncomputable def Gw(P:Params)(C:Nat)(m:Str):Bool:=oe true (λf=>isKnown f&&(findIn (K P) (.ref C) m==some (some (.ref f)))&&(typeIn (K P) (.ref f)==some (.type "function"))&&plainGet (K P) C m) (gp C (nm m))
theorem Sy(P:Params):(fN.all λC=>uR.all λm=>Gw P C m)=true:=by kernel_rfl
theorem PD(m:Nm):handedIn (.builtin (fb m))=true:=by unfold fb;cases ag m jT<;>cases ag m jU<;>cases ag m ko<;>cases ag m pq<;>decide+kernel
theorem Xk{v:AV}{m:Nm}{es:X}{self:Self}{fr:Fr}{st:St}{k:Kont}(h:refOf v=none):vO v m es self fr st k=sW v m es self fr st k:=by unfold vO;refine ae h ?_;rfl
section
variable{P:Pr}{self:Self}{fr:Fr}{J:G}{st:St}{s:Shared}{k:Kont}{A:Around}{E:Value->Shared->Prop}{env:Env}
variable(H:EOk P self)
include H
theorem abf{n:Nat}{es:List ax}{f:Value}{first:List Value}{pos:Pos}{Q:Value->Shared->Prop}{kk:List AV->St->Bool}(hr:self (.args fr (aK (aw n (ak fr.e)) es)) st (kvs k kk)=true)(hs:noStar es=true)(hf:handedIn f=true/\∃b,f= .builtin b)
  (R:Rel P J st s) (F:bj P J fr A env) (hx:∀v st' J' s',k (.exc v) st'=true->hG (.exc v) st'->J.Le J'->Rel P J' st' s'->∀u,VR J' v u->E u s')
  (h:∀as st1 J1 s1,kk as st1=true->J.Le J1->Rel P J1 st1 s1->∀vs,ay J1 as vs->wpAny (Md P) A (c9 f (first++vs)) Q E s1):wpAny (Md P) A (callWith pos f first (backTo pos (starEach es env)) []) Q E s:=by
 refine nE hf λhf b ai=>?_;have aa:=ai;clear hf ai;subst aa;have key:wpAny (Md P) A (spliced (backTo pos (starEach es env))) (λvs s₁=>KP P (.bi 0) .none s₁.heap/\wpAny (Md P) A (c9 (.builtin b) (first++vs)) Q E s₁) E s:=by refine rW (λ_=>H.args) hr R F rfl hs hx λas st1 J1 s1 h1 l1 R1 F1 vs hvs=>⟨trivial,h _ _ _ _ h1 l1 R1 vs hvs⟩
 have keep:∀h,KP P (.bi 0) .none h->∃k,(k=Keeper.frame\/k=Keeper.machine\/k=Keeper.boundFrame)/\Looks (Md P) h (keeperOf (.builtin b)) k:=λh _=>⟨.machine,.inr (.inl rfl),.now⟩;cases es with
 |nil=>intro Γ p hΓ;have q:KP P (.bi 0) .none s.heap/\wpAny (Md P) A (c9 (.builtin b) (first++ [])) Q E s:=key Γ p hΓ;exact callWith_of (P:=KP P (.bi 0) .none) rfl keep (evalArgs_nil3 q) Γ p hΓ
 |cons e r=>
  refine callWith_of (P:=KP P (.bi 0) .none) (by refine ae (xU hs) ?_;rfl) keep ?_;have q:noStar r=true/\starEach (e::r) env=(false,eval e env)::starEach r env:=by clear key hr;cases e<;>first |exact ⟨hs,rfl⟩ |cases hs
  rw [q.2] at key ⊢;exact evalArgs_plain key
theorem xR{n:Nat}{v:AV}{m:Str}{ov:Value}{es:List ax}{pos:Pos}{Q:Value->Shared->Prop}{pl:Sem Bool}(X:dT)(hr:sW v (nm m) (aK (aw n (ak fr.e)) es) self fr st k=true)(hs:noStar es=true)
  (R:Rel P J st s) (F:bj P J fr A env) (hv:VR J v ov) (post:Post P k J (iP Q E)):wpAny (Md P) A (getMethod ov m pl) (λfx s₂=>wpAny (Md P) A (callWith pos fx.1 fx.2 (backTo pos (starEach es env)) []) Q E s₂) E s:=by
 unfold sW at hr;cases c:vJ v (nm m) st with
 |false=>rw [cu c] at hr;cases hr
 |true=>rw [cf c] at hr;refine X.getM c R hv λt=>?_;refine abf H hr hs ⟨PD _,_,rfl⟩ (R.toks _) F (dA post) λas st1 J1 s1 h1 l1 R1 vs hvs=>?_;refine am (mO h1) λl h3 h4=>?_;exact X.abg h3 R1 (hv.mono l1) hvs (mI h4 post l1)
theorem QP{n i:Nat}{C d:Nat}{m:Str}{ov:Value}{es:List ax}{pos:Pos}{Q:Value->Shared->Prop}{pl:Sem Bool}(hr:zQ C d (.ref i) (nm m) (aK (aw n (ak fr.e)) es) self fr st k=true)(hs:noStar es=true)(hm:m∈uR)
  (ho:st.get i=some (.inst C d)) (R:Rel P J st s) (F:bj P J fr A env) (hv:VR J (.ref i) ov) (post:Post P k J (iP Q E)):wpAny (Md P) A (getMethod ov m pl) (λfx s₂=>wpAny (Md P) A (callWith pos fx.1 fx.2 (backTo pos (starEach es env)) []) Q E s₂) E s:=by
 unfold zQ at hr;cases c:cn C with
 |false=>rw [cu c] at hr;cases hr
 |true=>
  rw [cf c] at hr;refine aF hr λds h1 h2=>?_;cases BO:lk (nm m) ds with
  |some e=>rw [BO] at h2;cases h2
  |none=>
   rw [BO] at h2;refine aF (show aj (gp C (nm m)) (λa=>Kx a (.ref i) _ self fr st k)=true from h2) λf h3 h4=>?_;have q:=be.mp (be.mp (Sy P.W.w.params) C (jf c)) m hm;unfold Gw at q;rw [h3] at q;have q:(isKnown f&&(findIn (K P.W.w.params) (.ref C) m==some (some (.ref f)))&&(typeIn (K P.W.w.params) (.ref f)==some (.type "function"))&&plainGet (K P.W.w.params) C m)=true:=q;simp only [i0] at q;obtain ⟨⟨⟨c1,c2⟩,c3⟩,c4⟩:=q;obtain ⟨x,b',ox,od,en,nn,rfl,q1,q2,q3,q4, -,q5,q6,q7,q8,q9⟩:=ut R ho h1 hv;have sh:shadowIn (some od) m=some false:=by have z:=q9 m;rw [BO] at z;show (lookIn m od).map (·.isSome)=some false;refine ae (Pf q6 q7 z) ?_;rfl
   exact method_fn R.k (jn q1 q2 q3 q4 q5) (plainGet_of c4).1 (plainGet_of c4).2 (beq_iff_eq.mp c2) (beq_iff_eq.mp c3) sh
    (zn H (fs:=[.ref i]) h4 hs c1 (.glob f) (.cons hv .nil) R F post)
theorem QQ{n:Nat}{o:ax}{m:Str}{es:List ax}{p pos:Pos}(hr:FP (aw n (ak fr.e) o) (nm m) (aK (aw n (ak fr.e)) es) self fr st k=true)(hs:noStar es=true)(hm:m∈uR)(hb:(baseOk o&&ag p.endLine pos.line&&aM es.length 20)=true):dT->GE P fr (.Call (.Attribute o m p) es [] pos) st k:=λX J s A Q E env R F post=>by
 refine Fc hb hs (bV (λ_=>H.ex) hr R F rfl (dA post) λv st1 J1 s1 h1 l1 R1 F1 u hu pl=>?_);have h1:vO v (nm m) (aK (aw n (ak fr.e)) es) self fr st1 k=true:=h1;cases v with
 |ref i=>
  refine aF (show aj (st1.get i) (λo=>Kw o (.ref i) (nm m) _ self fr st1 k)=true from h1) λo' h2 h3=>?_;cases o' with
  |inst C d=>exact QP H h3 hs hm h2 R1 F1 hu (post.le l1)
  |dict a b c=>exact xR H X h3 hs R1 F1 hu (post.le l1)
  |list a b=>exact xR H X h3 hs R1 F1 hu (post.le l1)
  |_=>cases h3
 |_=>exact xR H X ((Xk rfl).symm.trans h1) hs R1 F1 hu (post.le l1)
end
noncomputable def IsT(e:ax):Prop:=∀{M:Model} {A:Around} {E:Value->Shared->Prop} {s:Shared} {env:Env} {Q:Bool->Shared->Prop},wpAny M A (eval e env) (λv s₁=>wpAny M A (truthy v) Q E s₁) E s->wpAny M A (isTrue e env (eval e env)) Q E s
theorem PE{env:Env}{l r:ax}{op:CmpOp}{pos:Pos}{w:Sem Value}:isTrue (.Compare l [op] [r] pos) env w=(do let c<-eval (.Compare l [op] [r] pos) env;holding [c] (truthy c)):=by rw [eval_Compare1,isTrue_Compare1];simp only [bind_assoc]
theorem US{l r:ax}{op:CmpOp}{pos:Pos}:IsT (.Compare l [op] [r] pos):=λh=>by refine ae PE ?_;exact az (da h (λv s1 q=>fj q) λ_ _ z=>z)
theorem Vh{e:ax}{x:X}(h:nH e=false):gD (AN e x)=false:=by
 unfold AN;cases c:gD x with
 |true=>exact ae h rfl
 |false=>exact c
section
variable{P:Pr}{self:Self}{fr:Fr}{J:G}{st:St}{s:Shared}{k:Kont}{A:Around}{E:Value->Shared->Prop}{env:Env}
theorem Uq{x:X}(h:Bu x self fr st k=true)(hb:gD x=false):cb x self fr st k=true:=by
 cases x with
 |pM=>cases hb
 |not=>cases hb
 |bad=>cases h
 |sR=>cases h
 |_=>exact h
noncomputable def GT(P:Pr)(fr:Fr)(e:ax)(st:St)(k:Kont):Prop:=∀J s A Q E env,Rel P J st s->bj P J fr A env->Post P k J (vG Q E)->wpAny (Md P) A (isTrue e env (eval e env)) Q E s
variable(H:EOk P self)
include H
theorem aaF{n:Nat}{e:ax}(hr:cb (aw n (ak fr.e) e) self fr st k=true)(he:IsT e):GT P fr e st k:=λJ s A Q E env R F post=>by refine he (bV (λ_=>H.ex) hr R F rfl (λv st' J' s' q x l R=>post _ _ _ _ q x l R) λa st1 J1 s1 h1 l1 R1 F1 u hu=>?_);refine aF h1 λl h2 h3=>?_;exact Eo h2 R1 hu λb hb=>post _ _ _ _ (dm h3 b hb) trivial l1 R1
theorem Wc{n:Nat}{e:ax}{pos:Pos}(hr:K7 (aw n (ak fr.e) e) self fr st k=true):GT P fr (.UnaryOp .Not e pos) st k:=λJ s A Q E env R F post=>by refine wpAny_isTrue_Not ?_;exact rX (λ_=>H.test) hr R F rfl (λv st' J' s' q x l R=>post _ _ _ _ q x l R) λb st1 J1 s1 h1 l1 R1 F1=>post _ _ _ _ h1 trivial l1 R1
theorem Wa{n:Nat}{es:List ax}{op:ey}{pos:Pos}(hr:K4 op (aK (aw n (ak fr.e)) es) self fr st k=true):GT P fr (.BoolOp op es pos) st k:=λJ s A Q E env R F post=>by exact wpAny_isTrue_BoolOp (H.tests hr n es rfl J s A Q E env R F post)
theorem Tm{n:Nat}{e:ax}(hr:Bu (aw n (ak fr.e) e) self fr st k=true):GT P fr e st k:=by
 cases n with
 |zero=>cases hr
 |succ n=>
  have go:nH e=false->IsT e->GT P fr e st k:=λh he=>aaF H (Uq hr (Vh h)) he;cases e with
  |BoolOp op es pos=>exact Wa H hr
  |UnaryOp op x pos=>
   cases op with
   |Not=>exact Wc H hr
   |_=>exact go rfl (λh=>wpAny_isTrue_value h rfl)
  |IfExp=>cases hr
  |Compare l ops cs pos=>
   cases ops with
   |nil=>cases hr
   |cons op ops=>
    cases ops with
    |cons=>cases hr
    |nil=>
     cases cs with
     |nil=>cases hr
     |cons c cs=>
      cases cs with
      |cons=>cases hr
      |nil=>exact go rfl US
  |_=>exact go rfl (λh=>wpAny_isTrue_value h rfl)
end
structure ep(P:Pr)(sf:Self):Prop extends EOk P sf where
 sts:∀{fr:Fr} {x:X} {st:St} {k:Kont},sf (.sts fr x) st k=true->ng P fr x st k
 loop:∀{fr:Fr} {t b:X} {it:Nat} {st:St} {k:Kont},sf (.loop fr t it b) st k=true->ye P fr t it b st k
 gY:∀{fr:Fr} {t b:X} {st:St} {k:Kont},sf (.gY fr t b) st k=true->y7 P fr t b st k
noncomputable def GS(P:Pr)(fr:Fr)(c:Stmt)(st:St)(k:Kont):Prop:=fr.e.sub=none->∀J s A Q E env,Rel P J st s->bj P J fr A env->Post P k J (gH Q E)->wpAny (Md P) A (exec c env) Q E s
theorem tZ{e:ax}{t:Option ax}{l:Nat}{env:Env}(h:gX e=false):swapsWith e t l env=pure false:=by cases e<;>first |rfl |cases h
section
variable{P:Pr}{self:Self}{fr:Fr}{J:G}{st:St}{s:Shared}{k:Kont}{A:Around}{E:Value->Shared->Prop}{env:Env}
theorem RU(F:bj P J fr A env):interactive env=false:=by unfold interactive;refine ae F.e.kind ?_;rfl
theorem dL{Q:Flow->Shared->Prop}(post:Post P k J (gH Q E)):∀v st' J' s',k (.exc v) st'=true->hG (.exc v) st'->J.Le J'->Rel P J' st' s'->∀u,VR J' v u->E u s':=λv st' J' s' q x l R=>post _ _ _ _ q x l R
theorem SU{pos:Pos}:exec (.Return none pos) env=exec (.Return (some (.Constant .none 0 pos)) pos) env:=by rw [arm_exec_Return,arm_exec_Return];rfl
variable(H:ep P self)
include H
theorem Ti{pos:Pos}(hr:GQ self fr st k=true):GS P fr (.Pass pos) st k:=λs0 J s A Q E env R F post=>wpAny_Pass (post _ _ _ _ hr trivial (.refl _) R)
theorem Tc{n:Nat}{e:ax}{pos:Pos}(hr:GP (aw n (ak fr.e) e) self fr st k=true)(hc:gX e=false):GS P fr (.Expr e pos) st k:=λs0 J s A Q E env R F post=>wpAny_Expr_any (bV (λ_=>H.ex) hr R F rfl (dL post) λv st1 J1 s1 h1 l1 R1 F1 u hu=>post _ _ _ _ h1 trivial l1 R1) (RU F) (tZ hc)
theorem Fs{n:Nat}{e:ax}{pos:Pos}(hr:Aa (aw n (ak fr.e) e) self fr st k=true):GS P fr (.Return (some e) pos) st k:=λs0 J s A Q E env R F post=>wpAny_Return_some (bV (λ_=>H.ex) hr R F rfl (dL post) λv st1 J1 s1 h1 l1 R1 F1 u hu=>post _ _ _ _ h1 trivial l1 R1 u hu)
theorem Tj{pos:Pos}(hr:Aa (.con .none) self fr st k=true):GS P fr (.Return none pos) st k:=λs0 J s A Q E env R F post=>by refine ae SU ?_;exact Fs H (n:=1) (e:=.Constant .none 0 pos) hr s0 J s A Q E env R F post
theorem aaz{n m:Nat}{t:ax}{b o:List Stmt}{pos:Pos}(hr:KR (aw n (ak fr.e) t) (aK (bE m (ak fr.e)) b) (aK (bE m (ak fr.e)) o) self fr st k=true):GS P fr (.If t b o pos) st k:=λs0 J s A Q E env R F post=>
 wpAny_If (rX (λ_=>H.test) hr R F rfl (dL post) λc st1 J1 s1 h1 l1 R1 F1=>by
  cases c with
  |true=>exact H.sts h1 s0 m b rfl _ _ _ _ _ _ R1 F1 (post.le l1)
  |false=>exact H.sts h1 s0 m o rfl _ _ _ _ _ _ R1 F1 (post.le l1))
theorem V1{n:Nat}{l:List Stmt}{x:X}(hr:KK fr x true self st k=true)(hx:aK (bE n (ak fr.e)) l=x)(step:∀{c:Stmt} {k':Kont},dp (bE n (ak fr.e) c) self fr st k'=true->GS P fr c st k'):fr.e.sub=none->∀J s A Q E env,Rel P J st s->bj P J fr A env->Post P k J (gH Q E)->wpAny (Md P) A (execs l env) Q E s:=λs0 J s A Q E env R F post=>by
 subst hx;cases l with
 |nil=>exact wpAny_execs_nil (post _ _ _ _ (show k .next st=true from hr) trivial (.refl _) R)
 |cons c r=>
  have hr:dp (bE n (ak fr.e) c) self fr st (nextK k (λst1=>self (.sts fr (aK (bE n (ak fr.e)) r)) st1 k))=true:=hr;refine wpAny_execs_cons (step hr s0 J s A _ E env R F λz st' J' s' q x l R'=>?_);cases z with
  |next=>exact H.sts q s0 n r rfl J' s' A Q E env R' (F.mono l) (post.le l)
  |brk=>exact post _ _ _ _ (show k .brk st'=true from q) x l R'
  |cont=>exact post _ _ _ _ (show k .cont st'=true from q) x l R'
  |ret a=>exact λv hv=>post _ _ _ _ (show k (.ret a) st'=true from q) x l R' v hv
  |exc a=>exact λv hv=>post _ _ _ _ (show k (.exc a) st'=true from q) x l R' v hv
  |_=>trivial
end
structure Stat:Prop where
 came:∀{P:Pr} {J:G} {st:St} {s:Shared} {fr:Fr} {A:Around} {E:Value->Shared->Prop} {env:Env} {v:Value} {i:Nat},fr.e.sub=none->st.x=some i->Rel P J st s->bj P J fr A env->VR J (.ref i) v->(∀s',Rel P J st s'->E v s')->notedBy (Md P) A env (λe s'=>cameBackBy (Md P) A env E e s') v s
structure kg:Prop where
 next:∀{P:Pr} {J:G} {st:St} {s:Shared} {A:Around} {E:Value->Shared->Prop} {Q:Option Value->Shared->Prop} {it:Nat} {a:Addr} {p:Option AV×St},kb it st=some p->A.handled=none->Rel P J st s->J.aA[it]?=some a->(∀J' s',J.Le J'->Rel P J' p.2 s'->match p.1 with |none=>Q none s' |some w=>∀u,VR J' w u->Q (some u) s')->wpAny (Md P) A (pyNext (.ref a)) Q E s
 iter:∀{P:Pr} {J:G} {st:St} {s:Shared} {A:Around} {E Q:Value->Shared->Prop} {w:AV} {u:Value} {p:Nat×St},mZ w st=some p->Rel P J st s->VR J w u->(∀J' s' a,J.Le J'->Rel P J' p.2 s'->J'.aA[p.1]?=some a->Q (.ref a) s')->wpAny (Md P) A (pyIter u) Q E s
section
variable{P:Pr}{self:Self}{fr:Fr}{J:G}{st:St}{s:Shared}{k:Kont}{A:Around}{E:Value->Shared->Prop}{env:Env}
theorem Dq(Z0Z:Stat){Q:Flow->Shared->Prop}(s0:fr.e.sub=none)(F:bj P J fr A env)(post:Post P k J (gH Q E)):Post P k J (Bi P A env (λr s'=>match r with | .ok f=>Q f s' | .error e=>cameBackBy (Md P) A env E e s')):=λz st' J' s' q x l R'=>by
 cases z with
 |next=>exact post _ _ _ _ q x l R'
 |ret a=>exact λv hv=>post _ _ _ _ q x l R' v hv
 |exc a=>refine am x λi aq hx=>?_;subst aq;exact λv hv=>Z0Z.came s0 hx R' (F.mono l) hv λs'' R''=>post _ _ _ _ q ⟨i,rfl,hx⟩ l R'' v hv
 |_=>trivial
variable(H:ep P self)
include H
theorem QV{n m:Nat}{t:ax}{b:List Stmt}{pos:Pos}(Z0Z:Stat)(hr:Fo (aw n (ak fr.e) t) (aK (bE m (ak fr.e)) b) self fr st k=true):GS P fr (.While t b [] pos) st k:=λs0 J s A Q E env R F post=>wpAny_While (H.gY hr s0 n t m b rfl rfl J s A _ env R F (Dq Z0Z s0 F post))
theorem QW{t b:X}(hr:GI fr t b true self st k=true):y7 P fr t b st k:=λs0 n e m l hx hb J s A R env Rl F post=>by
 subst hx hb;refine PW (rX (λ_=>H.test) hr Rl F rfl (λv st' J' s' q x l R' u hu=>post _ _ _ _ q x l R' u hu) λc st1 J1 s1 h1 l1 R1 F1=>?_);cases c with
 |false=>exact post _ _ _ _ (show k .next st1=true from h1) trivial l1 R1
 |true=>
  refine H.sts (show self (.sts fr (aK (bE m (ak fr.e)) l)) st1 (uN k λst2=>self (.gY fr (aw n (ak fr.e) e) (aK (bE m (ak fr.e)) l)) st2 k)=true from h1) s0 m l rfl J1 s1 A _ _ env R1 F1 λz st' J' s' q x l' R'=>?_;have l2:=l1.trans l';cases z with
  |next=>exact H.gY q s0 n e m l rfl rfl J' s' A R env R' (F1.mono l') (post.le l2)
  |cont=>exact H.gY q s0 n e m l rfl rfl J' s' A R env R' (F1.mono l') (post.le l2)
  |brk=>exact post _ _ _ _ (show k .next st'=true from q) trivial l2 R'
  |ret a=>exact λv hv=>post _ _ _ _ (show k (.ret a) st'=true from q) x l2 R' v hv
  |exc a=>exact λv hv=>post _ _ _ _ (show k (.exc a) st'=true from q) x l2 R' v hv
  |_=>trivial
end
section
variable{P:Pr}{self:Self}{fr:Fr}{J:G}{st:St}{s:Shared}{k:Kont}{A:Around}{E:Value->Shared->Prop}{env:Env}
theorem xD(F:cA J fr.e env){x:Str}{c:NameKind}(hk:(ak fr.e).names.lookup x=some c)(hc:c≠ .free):env.kindOf x=some c:=F.here hk hc
theorem mQ{x:Str}{w:AV}{v:Value}{st':St}{Q:Unit->Shared->Prop}(R:Rel P J st s)(F:cA J fr.e env)(hk:(ak fr.e).names.lookup x=some .local)(h:fE fr (nm x) w st=some st')(hv:VR J w v)(hQ:∀s',Rel P J st' s'->Q () s'):wpAny (Md P) A (storeName env x v) Q E s:=by rw [storeName_local (xD F hk (by decide)) (by rw [F.kind];rfl)];exact ur R F.loc h hv λs' _ _ _ _ _ _ R'=>hQ s' R'
theorem xV{x:Str}{w:AV}{v:Value}{st':St}{Q:Unit->Shared->Prop}(R:Rel P J st s)(F:cA J fr.e env)(hk:(ak fr.e).names.lookup x=some .cell\/(ak fr.e).names.lookup x=some .free)(h:kf fr (nm x) w st=some st')(hv:VR J w v)(hQ:∀s',Rel P J st' s'->Q () s'):wpAny (Md P) A (storeName env x v) Q E s:=by
 refine ah h λc h1 h2=>?_;have hc:=F.cells x;rw [h1] at hc;cases c with
 |con _ _=>cases h2
 | «at» i=>
  refine am hc λa h3 h4=>?_;refine ah (show ob (ob (st.get i) mU) (λ_=>some (st.set i (.cell (some w))))=some st' from h2) λz h5 h6=>?_;cases h6;refine ah h5 λao h7 h8=>?_;cases ao with
  |cell z'=>
   refine bp (R.objs i _ (R.lt h4) h7) λa' o h9 h10 h11=>?_;rw [h4] at h9;cases h9;have hz:=R.apart i _ a (R.lt h4) h7 h4;have hdt:∃v₀,o.data= .cell v₀:=by
    cases z' with
    |none=>exact ⟨_,h11⟩
    |some q=>obtain ⟨u,q1, -⟩:=h11;exact ⟨_,q1⟩
   refine aQ hdt λv₀ hdt=>?_;have go:wpAny (Md P) A (do cellSet (<-cellOf env x) (some v)) Q E s:=by refine az (wpAny_cellOf h3 (wpAny_cellSet ⟨o,h10,hdt⟩ λh' hcc hs=>?_));refine am hcc λo' q1 q2=>?_;exact hQ _ (R.upd h4 hz (R.jp h4 h10 (.inl λvs q=>by rw [hdt] at q;cases q)) hs q1 ⟨v,q2,hv⟩ (.inr ⟨_,h7,λ ⟨c,e,q,h⟩=>by cases q⟩))
   unfold storeName;rcases F.gI hk with hk |hk
   ·simp only [hk,F.kind];exact go
   ·simp only [hk,F.kind];exact go
  |_=>cases h8
theorem zg{b:Bool}{x:X}{w:AV}(h:dc (gd b x) self fr w st k=true):b=true/\dc x self fr w st k=true:=nj (C:=λx=>dc x self fr w st k) rfl h
theorem aa6{Y:Type}{o:Option Y}{f:Y->X}{w:AV}(h:dc (go o f) self fr w st k=true):∃a,o=some a/\dc (f a) self fr w st k=true:=gW (C:=λx=>dc x self fr w st k) rfl h
theorem asX{n:Nat}{sc:Scope}{e:ax}{w:AV}(h:dc (aw (n+1) sc e) self fr w st k=true):dc (kZ (aw n) sc e) self fr w st k=true:=(zg (b:= !(gD (kZ (aw n) sc e))||nH e) h).2
theorem Vt{x:X}(h:vv x=true):hd x=none:=by
 cases x with
 |cons=>exact aE h
 |_=>rfl
theorem aaq{x v:X}(h:vv x=true)(hr:lL x v self fr st k=true):self (.ex fr v) st (kv k λw st1=>dc x self fr w st1 k)=true:=by unfold lL at hr;rw [Vt h] at hr;exact hr
theorem GW{C:X->Bool}{rec:Scope->ax->X}{sc:Scope}{o i:ax}(h0:C .bad=false)(hs:∀o a b c,C (.slice o a b c)=false)(h:C (Bg rec sc o i)=true):C (.item (rec sc o) (rec sc i))=true/\∀x y z p,i≠ .Slice x y z p:=by
 cases i with
 |Slice lo hi sp p=>refine am (gW h0 h) λa _ h=>?_;refine am (gW h0 h) λb _ h=>?_;refine am (gW h0 h) λc _ h=>?_;exact aE ((hs _ _ _ _).symm.trans h)
 |_=>exact ⟨h,λ_ _ _ _ q=>cQ ax.ctorIdx q rfl⟩
variable(H:ep P self)
include H
theorem wR{n:Nat}{x:Str}{p:Pos}{w:AV}{v:Value}{Q:Flow->Shared->Prop}(hr:dc (aw (n+1) (ak fr.e) (.Name x p)) self fr w st k=true)(R:Rel P J st s)(F:bj P J fr A env)(hv:VR J w v)(post:Post P k J (gH Q E)):wpAny (Md P) A (storeName env x v) (λ_=>Q .next) E s:=by
 refine fP (t5 (C:=λx=>dc x self fr w st k) rfl (asX hr)) λ_ _ K=>?_;cases K with
 |loc d hr=>refine aF (show aj (fE fr (nm x) w st) (λst1=>k .next st1)=true from hr) λst' h1 h2=>?_;exact mQ R F.e d h1 hv λs' R'=>post _ _ _ _ h2 trivial (.refl _) R'
 |gI d hr=>refine aF (show aj (kf fr (nm x) w st) (λst1=>k .next st1)=true from hr) λst' h1 h2=>?_;exact xV R F.e d h1 hv λs' R'=>post _ _ _ _ h2 trivial (.refl _) R'
 |jG v d g hr=>exact aE hr
theorem NR{n m:Nat}{x:Str}{e:ax}{p pos:Pos}(hr:self (.ex fr (aw m (ak fr.e) e)) st (kv k λw st1=>dc (aw (n+1) (ak fr.e) (.Name x p)) self fr w st1 k)=true)(hc:gX e=false):GS P fr (.Assign [.Name x p] e pos) st k:=λs0 J s A Q E env R F post=>wpAny_Assign_Name (bV (λ_=>H.ex) hr R F rfl (dL post) λw st1 J1 s1 h1 l1 R1 F1 u hu=>wR H h1 R1 F1 hu (post.le l1)) (tZ hc)
theorem NO{n m:Nat}{o e:ax}{a:Str}{p pos:Pos}(X:dT)(hr:self (.ex fr (aw m (ak fr.e) e)) st (kv k λw st1=>dc (aw (n+1) (ak fr.e) (.Attribute o a p)) self fr w st1 k)=true)(hc:gX e=false):GS P fr (.Assign [.Attribute o a p] e pos) st k:=λs0 J s A Q E env R F post=>
 plainObj_wpAny_Assign_Attribute (bV (λ_=>H.ex) hr R F rfl (dL post) λw st1 J1 s1 h1 l1 R1 F1 u hu=>by
  refine au (zg (asX h1)) λ_ h1=>?_;refine am (aa6 h1) λ_ ha h1=>?_;refine bV (λ_=>H.ex) (show self (.ex fr (aw n (ak fr.e) o)) st1 (kv k λz st1=>aj (tQ z (nm a) w st1) λst2=>k .next st2)=true from h1) R1 F1 rfl (dL (post.le l1)) λz st2 J2 s2 h2 l2 R2 F2 ov hov=>?_;refine aF h2 λst3 h3 h4=>?_
  exact C7 X.HH R2 h3 (qX ha) hov (hu.mono l2) λJ' s' l3 R'=>post _ _ _ _ h4 trivial ((l1.trans l2).trans l3) R') (tZ hc)
end
theorem Qw{it:Nat}{st st':St}{w:AV}(h:kb it st=some (some w,st')):∃ao,st'=st.set it ao/\(∃x,st.get it=some x)/\((∃a b,ao= .du a b)\/ ∃a b,ao= .rng a b):=by
 refine ah h λo h1 h2=>?_;have step:∀{src:AV} {pos:Nat} {q:Option AV},rV it src pos st q=some (some w,st')->∃ao,st'=st.set it ao/\(∃x,st.get it=some x)/\((∃a b,ao= .du a b)\/ ∃a b,ao= .rng a b):=by
  intro src pos q hq;cases q with
  |none=>cases hq
  |some z=>cases hq;exact ⟨_,rfl,⟨_,h1⟩,.inl ⟨_,_,rfl⟩⟩
 cases o with
 |du src pos=>
  have h2:oe (zU it src pos st) (zV it src pos st) (strOf src)=some (some w,st'):=h2;cases c:strOf src with
  |none=>rw [c] at h2;refine ah (show ob (seqItems st src) (λxs=>rV it src pos st (nth xs pos))=_ from h2) λxs _ h3=>?_;exact step h3
  |some z=>
   rw [c] at h2;refine ah (show ob (litS z) (λs=>bf (bF s λc=>bh c 128) (rV it src pos st (ob (nth s pos) λc=>some (.str (.lit [c])))) none)=_ from h2) λxs _ h3=>?_;cases q:(bF xs λc=>bh c 128) with
   |false=>rw [q] at h3;cases h3
   |true=>rw [q] at h3;exact step h3
 |rng cur stop=>
  have h2:bf (bA cur stop) (some (some (.int (.lit cur)),st.set it (.rng (cur+1) stop))) (some (none,st.drop it))=some (some w,st'):=h2;cases c:bA cur stop with
  |false=>rw [cu c] at h2;cases h2
  |true=>rw [cf c] at h2;cases h2;exact ⟨_,rfl,⟨_,h1⟩,.inr ⟨_,_,rfl⟩⟩
 |_=>cases h2
theorem wW{M:Model}{A:Around}{E:Value->Shared->Prop}{Q:Unit->Shared->Prop}{s:Shared}{t:ax}{a:Addr}{v:Value}{o:Obj}{n:String}{vs:Array Value}(ho:s.heap.get? a=some o)(hc:o.cls= .type n)(hd:o.data= .fields vs)(hn:(["enumerate","zip","dict_itemiterator","dict_reverseitemiterator","odict_iterator","itertools.zip_longest","itertools.pairwise"].contains n)=false)(hQ:Q () s):wpAny M A (letOwnedTupleGo t (.ref a) v) Q E s:=by
 have go:∀b,wpAny M A (do
  let o<-load a
  match o.cls,o.data with
  | .type n,.fields vs=>
   if ["enumerate","zip","dict_itemiterator","dict_reverseitemiterator","odict_iterator","itertools.zip_longest","itertools.pairwise"].contains n&&vs[0]?==some (rawInt b) then
    rule "for.unpacks-the-owned-tuple"
    updateField a 0 .none
  |_,_=>pure ()) Q E s:=λb=>by
  refine az (wpAny_load ho ?_);refine ae hc (ae hd ?_);show wpAny _ A (if (["enumerate","zip","dict_itemiterator","dict_reverseitemiterator","odict_iterator","itertools.zip_longest","itertools.pairwise"].contains n&&vs[0]?==some (rawInt b))=true then _ else _) Q E s;refine ae hn ?_;exact aT hQ
 unfold letOwnedTupleGo;cases t with
 |Tuple=>cases v<;>first |exact go _ |exact aT hQ
 |List=>cases v<;>first |exact go _ |exact aT hQ
 |_=>exact aT hQ
theorem Gy{P:Pr}{J J₀:G}{st st':St}{s s₀:Shared}{A:Around}{E:Value->Shared->Prop}{Q:Unit->Shared->Prop}{it:Nat}{a:Addr}{w:AV}{t:ax}{v:Value}(h:kb it st=some (some w,st'))(R0:Rel P J₀ st s₀)(R:Rel P J st' s)(ha:J.aA[it]?=some a)(hQ:Q () s):wpAny (Md P) A (letOwnedTupleGo t (.ref a) v) Q E s:=by
 obtain ⟨ao,rfl,⟨x,hx⟩,hk⟩:=Qw h;have hl:=R.lt ha;have hr:=R.room;have hit:it< 2048:=bz hl (aI hr (by decide));have hg:(st.set it ao).get it=some ao:=by exact ae (St.get_set st R0.wf ao hit hit) (ae (if_pos rfl) rfl)
 refine bp (R.objs it ao hl hg) λa' o h1 h2 h3=>?_;rw [ha] at h1;cases h1;rcases hk with ⟨src,pos,rfl⟩ | ⟨c,d,rfl⟩
 ·have h3:eW J src pos o:=h3
  unfold eW at h3
  split at h3
  ·refine HD h3 λt1 t2 t3 bC=>?_
   subst bC;exact wW h2 rfl rfl (by decide) hQ
  ·refine bP h3 λv' _ hd hc=>?_
   refine wW h2 hc hd ?_ hQ;unfold fc
   split
   ·decide
   ·unfold strIterType;split<;>decide
   ·decide
 ·refine am h3 λleft aq _=>?_
  have aa:=aq;clear h3 aq;subst aa;exact wW h2 rfl rfl (by decide) hQ
structure Parts:Prop where
 tup:∀{P:Pr} {J:G} {st:St} {s:Shared} {fr:Fr} {A:Around} {E:Value->Shared->Prop} {env:Env} {Q:Unit->Shared->Prop} {elts:List ax} {c:Nat} {pos:Pos} {n:Nat} {w:AV} {v:Value} {vs:List AV} {st':St},fr.c.hd=false->cy w=false->seqItems st w=some vs->jW fr (aK (aw n (ak fr.e)) elts) vs st=some st'->allNames elts=true->Rel P J st s->bj P J fr A env->VR J w v->(∀J' s',J.Le J'->Rel P J' st' s'->Q () s')->wpAny (Md P) A (assign (.Tuple elts c pos) env v) Q E s
 setItem:∀{P:Pr} {J:G} {st st':St} {s:Shared} {A:Around} {E:Value->Shared->Prop} {Q:Unit->Shared->Prop} {a i w:AV} {u j v:Value},qC a i w st=some st'->Rel P J st s->VR J a u->VR J i j->VR J w v->(∀J' s',J.Le J'->Rel P J' st' s'->Q () s')->wpAny (Md P) A (setItem u j v) Q E s
section
variable{P:Pr}{self:Self}{fr:Fr}{J:G}{st:St}{s:Shared}{k:Kont}{A:Around}{E:Value->Shared->Prop}{env:Env}
variable(H:ep P self)
include H
theorem EC{n:Nat}{t:ax}{w:AV}{v:Value}{Q:Flow->Shared->Prop}(Y0Y:Parts)(ht:km t=true)(hr:dc (aw n (ak fr.e) t) self fr w st k=true)(R:Rel P J st s)(F:bj P J fr A env)(hv:VR J w v)(post:Post P k J (gH Q E)):wpAny (Md P) A (assign t env v) (λ_=>Q .next) E s:=by
 cases n with
 |zero=>cases hr
 |succ n=>
  cases t with
  |Name x p=>exact wpAny_assign_Name (wR H hr R F hv post)
  |Tuple es c p=>refine au (zg (asX hr)) λns hr=>?_;refine au (yj (show bf fr.c.hd false (bf (cy w) false (aj (seqItems st w) λvs=>aj (jW fr (aK (aw n (ak fr.e)) es) vs st) λst1=>k .next st1))=true from hr)) λhd hr=>?_;refine au (yj hr) λhw hr=>?_;refine aF hr λvs h1 h2=>?_;refine aF h2 λst' h3 h4=>?_;exact Y0Y.tup hd hw h1 h3 ht R F hv λJ' s' l R'=>post _ _ _ _ h4 trivial l R'
  |_=>cases ht
theorem VU{n m:Nat}{t e:ax}{b:List Stmt}{pos:Pos}(Z0Z:Stat)(I:kg)(hr:Iw (aw n (ak fr.e) t) (aw n (ak fr.e) e) (aK (bE m (ak fr.e)) b) self fr st k=true)(ht:km t=true)(hs:o7 e=true):GS P fr (.For t e b [] pos) st k:=λs0 J s A Q E env R F post=>by refine wpAny_For (bV (λ_=>H.ex) hr R F rfl (dL post) λw st1 J1 s1 h1 l1 R1 F1 u hu=>?_) (λx=>by cases e<;>first |rfl |cases hs);refine aF h1 λp h2 h3=>?_;exact I.iter h2 R1 hu λJ2 s2 a l2 R2 ha=>H.loop h3 s0 n t m b ht rfl rfl J2 s2 A _ env a R2 (F1.mono l2) ha (Dq Z0Z s0 (F1.mono l2) (post.le (l1.trans l2)))
theorem Tf{t b:X}{it:Nat}(I:kg)(Y0Y:Parts)(hr:Iq fr t it b true self st k=true):ye P fr t it b st k:=λs0 n e m l he hx hb J s A R env a Rl F ha post=>by
 subst hx hb;refine au (yj (show bf fr.c.hd false (aj (kb it st) (HX fr (aw n (ak fr.e) e) it (aK (bE m (ak fr.e)) l) self k))=true from hr)) λhd hr=>?_;refine aF hr λp h1 h2=>?_;obtain ⟨r,st1⟩:=p;refine RL (I.next h1 (F.c.hd hd) Rl ha λJ1 s1 l1 R1=>?_);cases r with
 |none=>exact post _ _ _ _ (show k .next st1=true from h2) trivial l1 R1
 |some w=>
  intro u hu;have F1:=F.mono l1;have ha1:=aN l1.aA ha;refine Gy h1 Rl R1 ha1 ?_;refine EC H (n:=n) Y0Y he (show dc (aw n (ak fr.e) e) self fr w st1 (nextK k λst2=>self (.sts fr (aK (bE m (ak fr.e)) l)) st2 (uN k λst3=>self (.loop fr (aw n (ak fr.e) e) it (aK (bE m (ak fr.e)) l)) st3 k))=true from h2) R1 F1 hu (Q:=λf s₂=>match f with | .next=>wpAny (Md P) A (execs l env) _ _ s₂ |_=>True) λz st2 J2 s2 q x l2 R2=>?_;have kQ:=l1.trans l2;cases z with
  |next=>
   refine H.sts q s0 m l rfl J2 s2 A _ _ env R2 (F1.mono l2) λz st' J' s' q x l' R'=>?_;have l3:=kQ.trans l';cases z with
   |next=>exact H.loop q s0 n e m l he rfl rfl J' s' A R env a R' (F.mono l3) (aN l3.aA ha) (post.le l3)
   |cont=>exact H.loop q s0 n e m l he rfl rfl J' s' A R env a R' (F.mono l3) (aN l3.aA ha) (post.le l3)
   |brk=>exact post _ _ _ _ (show k .next st'=true from q) trivial l3 R'
   |ret b=>exact λv hv=>post _ _ _ _ (show k (.ret b) st'=true from q) x l3 R' v hv
   |exc b=>exact λv hv=>post _ _ _ _ (show k (.exc b) st'=true from q) x l3 R' v hv
   |_=>trivial
  |brk=>trivial
  |cont=>trivial
  |ret b=>exact λ_ _=>trivial
  |exc b=>exact λv hv=>post _ _ _ _ (show k (.exc b) st2=true from q) x kQ R2 v hv
  |_=>trivial
end
noncomputable def Gr(B:Addr->Prop)(h h':Heap):Prop:=h.objs.size<=h'.objs.size/\∀b o,h.get? b=some o->¬ B b->h'.get? b=some o
theorem Gr.push{B:Addr->Prop}{h h':Heap}(x:Gr B h h')(o:Obj):Gr B h (h'.push o):=⟨by rw [gQ];exact k9 x.1,λb o' hb hn=>gN o (x.2 b o' hb hn)⟩
theorem Gr.X6{h h':Heap}{a:Addr}(x:eJ a h h'):Gr (· =a) h h':=⟨ck x.1.symm,λb o hb hn=>(x.2 b hn).trans hb⟩
theorem Gr.refl(B:Addr->Prop)(h:Heap):Gr B h h:=⟨cG _,λ_ _ e _=>e⟩
section
variable{P:Pr}{J:G}{st:St}{s:Shared}
theorem Rel.gr(R:Rel P J st s){B:Addr->Prop}{h':Heap}(hg:Gr B s.heap h')
  (hB:∀b,B b->b∈J.aA/\J.fz b=none/\b ∉ J.nf/\(∀i ao,st.get i=some ao->J.aA[i]?≠some b)/\∀i,st.x=some i->J.aA[i]?≠some b):Rel P J st {s with heap:=h'}:=by
 exact R.step (.refl J) B hg.2 hg.1 (λb q=>⟨(R.range b (hB b q).1).1,.inl (hB b q).1⟩) (.refl st) R.wf R.room ⟨rfl,rfl,rfl,rfl⟩ R.bR R.nodup (λb h=>.inl h) (λb o e=>.inl ⟨e,λq=>aD ((hB b q).2.1.symm.trans e)⟩) (λj ao hj e=>R.keep (.refl J) hj e λb o h1 h2 h3=>⟨hg.2 b o h2 λz=>(hB b z).2.2.2.1 j ao e h1,h3⟩)
  (λj b e hb=>⟨λz=>(hB b z).2.2.2.2 j e hb,(R.excAt e hb).fz⟩) (λj C d e hj h=>R.fly j C d e hj h) λb hb=>⟨(R.nf b hb).2.1,λz=>((hB b z).2.2.1 hb).elim⟩
theorem Rel.grown(R:Rel P J st s){h':Heap}(hg:Gr (λ_=>False) s.heap h'):Rel P J st {s with heap:=h'}:=R.gr hg λ_ h=>h.elim
theorem Rel.je(R:Rel P J st s){i j:Nat}{ao:AO}(hi:i< st.n)(hj:j< st.n)(e:(st.drop i).get j=some ao):j≠i/\st.get j=some ao:=by
 rw [St.je st R.wf (R.kF hi) (R.kF hj)] at e
 by_cases q:j=i
 ·rw [if_pos q] at e;exact aD e
 ·exact ⟨q,(if_neg q).symm.trans e⟩
theorem Rel.dropped(R:Rel P J st s){i:Nat}(hi:i< st.n):Rel P J (st.drop i) s:=
 R.step (.refl J) (λ_=>False) (λ_ _ h _=>h) (cG _) (λ_ h=>h.elim) (st.Qc i) (TM.iy _ _ _ _ R.wf) R.room ⟨rfl,rfl,rfl,rfl⟩ R.bR R.nodup (λb h=>.inl h) (λb o e=>.inl ⟨e,id⟩) (λj ao hj e=>R.keep (.refl J) hj (R.je hi hj e).2 λb o _ h2 h3=>⟨h2,h3⟩)
  (λj b e hb=>⟨id,(R.excAt e hb).fz⟩) (λj C d e hj h=>R.fly j C d e hj (R.je hi hj h).2) λb hb=>⟨(R.nf b hb).2.1,False.elim⟩
theorem Rel.gone(R:Rel P J st s){i:Nat}{a:Addr}{h':Heap}{o:Obj}{vs:Array Value}{T:String}(hi:J.aA[i]?=some a)(hz:J.fz a=none)(ho:s.heap.get? a=some o)(hd:o.data= .fields vs)(hc:o.cls= .type T)(hg:Gr (· =a) s.heap h'):Rel P J (st.drop i) {s with heap:=h'}:=by
 have hin:=R.lt hi;refine (R.dropped hin).gr hg λb hb=>hb▸⟨bx hi,hz,λq=>?_,λj ao e hj=>?_,λj e hj=>R.jp hi ho (.inr ⟨T,hc⟩) (R.inj hj hi▸e)⟩
 ·refine am ((R.nf _ q).1) λo' q1 q2=>?_
  exact q2 vs (af (ho.symm.trans q1)▸hd)
 ·exact (R.je hin (R.lt hj) e).1 (R.inj hj hi)
end
noncomputable def Led(J:G)(i:Nat)(s:Shared):Prop:=∃e o vs T,J.aA[i]?=some e/\s.heap.get? e=some o/\o.data= .fields vs/\vs[1]?=some (.ref T)
section
variable{P:Pr}{J:G}{st:St}{s:Shared}{A:Around}{E:Value->Shared->Prop}
structure aa0(F:List Addr)(e:Addr)(T:Option Addr)(h h':Heap):Prop where
 size:h.objs.size<=h'.objs.size
 keep:∀b,b< h.objs.size->b ∉ F->b≠e->T≠some b->h'.get? b=h.get? b
 slots:∀b o,b∈F->h.get? b=some o->∃sl,h'.get? b=some {o with slots:=sl}
theorem OR.slots{J:G}{o:Obj}{ao:AO}{sl:Array (Option Value)}(h:OR J o ao)(hf:eg ao):OR J {o with slots:=sl} ao:=by refine ba hf λcap es ai _=>?_;subst ai;obtain ⟨en,n,h0,h1, -,h3,h4,h5⟩:=h;exact ⟨en,n,h0,h1,λq=>cH q,h3,h4,h5⟩
theorem OR.fields{J:G}{o o':Obj}{ao:AO}{vs vs':Array Value}{C:Addr}(h:OR J o ao)(hd:o.data= .fields vs)(hC:o.cls= .ref C)(hc:o'.cls=o.cls)(hdi:o'.dict=o.dict)(hd':o'.data= .fields vs')(hne:∀C d,ao= .exc C d->isExc C=false)(hK:(∃T,vs[1]?=some (.ref T))->∃T,vs'[1]?=some (.ref T)):OR J o' ao:=by
 cases ao with
 |inst C' d=>obtain ⟨b,q1,q2,q3,q4⟩:=h;exact ⟨b,hc.trans q1,by unfold notCls;exact ae hd' rfl,hdi.trans q3,q4⟩
 |dict cap loc es=>obtain ⟨en,n, -,q⟩:=h;exact cQ Data.ctorIdx (hd.symm.trans q) rfl
 |list pre xs=>obtain ⟨us,n,rfl, -⟩:=h;cases hC
 |du src pos=>
  have h:eW J src pos o:=h;unfold eW at h
  split at h
  ·obtain ⟨t1,t2,t3,rfl⟩:=h;cases hC
  ·obtain ⟨v, -, -,q⟩:=h;rw [hC] at q;cases q
 |rng cur stop=>obtain ⟨left,rfl, -⟩:=h;cases hC
 |exc C' d=>obtain ⟨us,q0,q1,q4, -,ql,q⟩:=h;exact ⟨vs',q0,hc.trans q1,hd',λz=>absurd z (by refine ae (hne C' d rfl) ?_;decide),λz=>hK (by rw [hd] at q4;cases q4;exact ql z),by refine ae hdi ?_;exact q⟩
 |cell v=>
  cases v with
  |none=>have h:o.data= .cell none:=h;rw [hd] at h;cases h
  |some a=>obtain ⟨w,q, -⟩:=h;rw [hd] at q;cases q
theorem Rel.noted(R:Rel P J st s){i:Nat}{e:Addr}{F:List Addr}{T:Option Addr}{h':Heap}{oe oe':Obj}{vs vs':Array Value}(hx:st.x=some i)(he:J.aA[i]?=some e)(ho:s.heap.get? e=some oe)(hd:oe.data= .fields vs)
  (hF:∀b∈F,b∈J.nf\/ ∃env∈P.outer,env.frame=some b) (hT:∀b,T=some b->P.W.hL.objs.size<=b/\P.h₀.objs.size<=b/\b ∉ J.aA/\J.fz b=none/\∃o ts,s.heap.get? b=some o/\o.data= .fields ts)
  (N:aa0 F e T s.heap h') (ho':h'.get? e=some oe') (hc:oe'.cls=oe.cls) (hdi:oe'.dict=oe.dict) (hd':oe'.data= .fields vs') (hK:(∃T,vs[1]?=some (.ref T))->∃T,vs'[1]?=some (.ref T))
  (hT':vs'[1]?=some .none\/ ∃v,vs'[1]?=some v/\At P J h' v):Rel P J st {s with heap:=h'}:=by
 obtain ⟨jI,vs2,q2,q3,⟨C,q4⟩,q5, -⟩:=R.excAt hx he;rw [ho] at q3;cases q3;have Bz:∀b∈F,P.W.hL.objs.size<=b/\J.fz b=none:=λb hb=>by
  rcases hF b hb with q | ⟨env,h1,h2⟩
  ·exact ⟨(R.range b (R.nf b q).2.2.1).1,(R.nf b q).2.1⟩
  ·refine gb (R.ff env h1) λ_ L o h3 h4 _ _ _ h5=>?_
   rw [h2] at h3;cases h3;exact ⟨h4,h5⟩
 have hFo:∀b∈F,∀us,∀o,s.heap.get? b=some o->o.data≠ .fields us:=λb hb us o hbo=>by
  rcases hF b hb with q | ⟨env,h1,h2⟩
  ·obtain ⟨⟨o1,z1,z2⟩, -⟩:=R.nf b q
   rw [hbo] at z1;cases z1;exact z2 us
  ·refine Dd (R.ff env h1) λ_ L o1 h3 h4 h5 h6 _=>?_
   rw [h2] at h3;cases h3;rw [hbo] at h5;cases h5;exact h6 us
 have heF:e ∉ F:=λq=>hFo e q vs oe ho hd;have lJ:∀b o,s.heap.get? b=some o->b ∉ F->b≠e->T≠some b->h'.get? b=some o:=λb o h1 h2 h3 h4=>(N.keep b (cU h1) h2 h3 h4).trans h1;have el:=(R.range e (bx he)).1;refine {R with old:=λb o0 hb hn=>?_,x3:=?_,range:=λb hb=>?_,objs:=λj ao hj hg=>?_,fz:=λb o' hz=>?_,frame:=λb o' hb0 hb hf sJ=>?_,size:=aI R.size N.size,big:=aI R.big N.size,ff:=λenv henv=>?_,exc:=λj hj=>?_,nf:=λb hb=>?_}
 ·have hb:=cU hb
  refine lJ b o0 (R.old b o0 (by assumption) hn) (λq=>?_) (λq=>?_) λq=>?_
  ·exact absurd hb (cV.mpr (Bz b q).1)
  ·subst q;exact absurd hb (cV.mpr el)
  ·exact absurd hb (cV.mpr (hT b q).1)
 ·refine am R.x3 λus z ht=>?_
  have big:=P.W.big;refine ⟨us,lJ _ _ z (λq=>?_) (λq=>?_) (λq=>?_),ht⟩
  ·exact rz big (Bz _ q).1 rfl
  ·exact rz big el (Eq.symm q)
  ·exact rz big (hT _ q).1 rfl
 ·have q:=R.range b hb;exact ⟨q.1,bz q.2 N.size⟩
 ·refine bp (R.objs j ao hj hg) λb ob hb hob r=>?_
  by_cases h1:b=e
  ·subst h1
   rw [ho] at hob;cases hob;exact ⟨b,oe',hb,ho',r.fields hd q4 hc hdi hd' (λC d q=>R.fly j C d (by exact ae hx (ae (R.inj hb he) rfl)) hj (q▸hg)) hK⟩
  ·by_cases h2:b∈F
   ·refine aQ (N.slots b ob h2 hob) λsl z=>?_
    refine ⟨b,_,hb,z,?_⟩;rcases hF b h2 with q | ⟨env,h3,h4⟩
    ·exact r.slots ((R.nf b q).2.2.2 j ao hj hg hb)
    ·refine gb (R.ff env h3) λ_ L o h5 _ _ _ h6 _=>?_
     rw [h4] at h5;cases h5;exact absurd (bx hb) h6
   ·exact ⟨b,ob,hb,lJ b ob hob h2 h1 (λq=>(hT b q).2.2.1 (bx hb)),r⟩
 ·refine fB (R.fz b o' hz) λh1 h2 vY h3 h4=>?_
  refine ⟨h1,bz h2 N.size,vY,lJ b vY h3 (λq=>?_) (λq=>?_) (λq=>?_),h4⟩
  ·rw [(Bz b q).2] at hz;cases hz
  ·subst q;rw [q2] at hz;cases hz
  ·rw [(hT b q).2.2.2.1] at hz;cases hz
 ·have q:=R.frame b o' hb0 hb hf sJ
  have hne:b≠e:=λz=>by subst z;exact hb (bx he)
  have hnT:T≠some b:=λz=>absurd (cU hb0) (cV.mpr (hT b z).2.1);refine ⟨λz=>?_,?_⟩
  ·rcases z with z |z
   ·rw [hx] at z;cases z
   ·refine lJ b o' (q.1 (.inr z)) (λw=>?_) hne hnT
    rcases hF b w with w | ⟨env,h1,h2⟩
    ·exact hb (R.nf b w).2.2.1
    ·exact z env h1 h2
  ·refine aQ q.2 λsl z=>?_
   by_cases w:b∈F
   ·refine aQ (N.slots b _ w z) λsl' z'=>?_
    exact ⟨sl',z'⟩
   ·exact ⟨sl,lJ b _ z w hne hnT⟩
 ·refine gb (R.ff env henv) λh1 L o h2 h3 h4 h5 h6 h7=>?_
  by_cases w:L∈F
  ·refine aQ (N.slots L o w h4) λsl z=>?_
   exact ⟨h1,L,_,h2,h3,z,h5,h6,h7⟩
  ·exact ⟨h1,L,o,h2,h3,lJ L o h4 w (λq=>h6 (q▸bx he)) (λq=>by obtain ⟨-, -, -, -,o1,ts,z1,z2⟩:=hT L q;rw [h4] at z1;cases z1;exact h5 ts z2),h5,h6,h7⟩
 ·have hj:st.x=some j:=hj
  rw [hx] at hj;cases hj;exact ⟨e,he,oe',vs',q2,ho',⟨C,hc.trans q4⟩,hd',hT'⟩
 ·obtain ⟨⟨o,z1,z2⟩,z3,z4,z5⟩:=R.nf b hb
  refine ⟨?_,z3,z4,z5⟩
  by_cases w:b∈F
  ·refine aQ (N.slots b o w z1) λsl z=>?_
   exact ⟨_,z,z2⟩
  ·exact ⟨o,lJ b o z1 w (λq=>by subst q;rw [ho] at z1;cases z1;exact z2 vs hd) (λq=>by obtain ⟨-, -, -, -,o1,ts,y1,y2⟩:=hT b q;rw [z1] at y1;cases y1;exact z2 ts y2),z2⟩
end
section
variable{P:Pr}{J:G}{st:St}{s:Shared}{fr:Fr}{A:Around}{E:Value->Shared->Prop}{env:Env}
theorem CQ(a:Addr):({}:Heap).get? a=none:=Heap.get?_none_of_le (ig a)
theorem Dl(R:Rel P J st s):∀l:List Env,(∀env∈l,env∈P.outer)->s.heap.FunFrames {} l/\∀b∈l.filterMap (·.frame),b∈J.nf\/ ∃env∈P.outer,env.frame=some b
 | [],_=>⟨trivial,λb hb=>by cases hb⟩
 |env::r,hm=>by
  refine au (Dl R r λe he=>hm e (.tail _ he)) λi1 i2=>?_;refine Dd (R.ff env (hm env (.head _))) λq1 L o q2 _ q3 q4 _=>?_;refine ⟨⟨q1,⟨L,o,q2,CQ L,q3,q4⟩,i1⟩,λb hb=>?_⟩;rw [MM,q2] at hb;rcases jQ.mp hb with rfl |hb
  ·exact .inr ⟨env,hm env (.head _),q2⟩
  ·exact i2 b hb
theorem ET(R:Rel P J st s):∀{ups:List gA} {envs:List Env},ct (cA J) ups envs->s.heap.FunFrames {} (envs++P.outer)/\∀b∈(envs++P.outer).filterMap (·.frame),b∈J.nf\/ ∃env∈P.outer,env.frame=some b
 |_,_,.nil=>Dl R P.outer λ_ h=>h
 |_,_,.cons hE t=>by
  refine au (ET R t) λi1 i2=>?_;refine bP hE.frm λa f1 f2 f3=>?_;obtain ⟨⟨o,g1,g2⟩, -⟩:=R.nf a f3;refine ⟨⟨by refine ae hE.kind ?_;decide,⟨a,o,f2,CQ a,g1,g2⟩,i1⟩,λb hb=>?_⟩;rw [wo,MM,f2] at hb;rcases jQ.mp hb with rfl |hb
  ·exact .inl f3
  ·exact i2 b hb
theorem PB(R:Rel P J st s){c:Cx}(F:dB P J c A){l:List Env}(h:A.frames=some l):s.heap.FunFrames {} l/\∀b∈l.filterMap (·.frame),b∈J.nf\/ ∃env∈P.outer,env.frame=some b:=by refine am F.frames λenvs h1 h2=>?_;rw [h] at h1;cases h1;exact ET R h2
theorem Dg(R:Rel P J st s){i:Nat}{e L:Addr}{oe:Obj}{vs:Array Value}{head:Value}{hadNext:Bool}{r:List Env}{c:Cx}{Q:Unit->Shared->Prop}(hx:st.x=some i)(he:J.aA[i]?=some e)(ho:s.heap.get? e=some oe)(hd:oe.data= .fields vs)(hsz:1< vs.size)(F:dB P J c A)(hfr:A.frames=some (env::r))(hf:env.frame=some L)
  (hQ:∀s',Rel P J st s'->Led J i s'->Q () s'):wpAny (Md P) A (do let a<-frameOf env;let pl<-entryPlaceOf L hadNext;let b<-EntryCells.newEntry head a .none (rawInt L) .none pl;setField (.ref e) 1 b) Q E s:=by
 refine au (PB R F hfr) λhl hF=>?_;have hene:e ∉ (env::r).filterMap (·.frame):=λhm=>by refine kj (hl.mem hm) λ_ o h1 h2=>?_;rw [ho] at h1;cases h1;exact h2 vs hd
 refine az (wpAny_frameOf_fun hfr hl hf λh₁ hs₁=>?_);refine az (wpAny_entryPlaceOf λpl hpl=>?_);unfold EntryCells.newEntry newFields;refine az (wpAny_newObj_type ?_ (hpl.sizeOk5 _ _ _ _ _));have he₁:h₁.get? e=some oe:=(hs₁.2.1 e hene).trans ho;have hsz₁:h₁.objs.size=s.heap.objs.size:=hs₁.1
 generalize htb:({cls:=.type "traceback",dict:=none,data:=.fields ([head,.ref L,.none,rawInt L,.none]++(if pl.isEmpty then ew 6 Value.none else pl)).toArray}:Obj)=tb
 have htd:∃ts:Array Value,tb.data= .fields ts/\ts[3]?=some (rawInt L):=by subst htb;exact ⟨_,rfl,by simp⟩
 have htf:tb.isFreed=false:=by subst htb;rfl
 refine am htd λts ht1 ht2=>?_;have he₂:=gN (h:=h₁) tb he₁;refine wpAny_setField he₂ hd hsz ?_;have hd₃:=Obj.data_mapFields hd (·.setIfInBounds 1 (Value.ref h₁.objs.size));have he₃:=n8 (Obj.mapFields (·.setIfInBounds 1 (Value.ref h₁.objs.size))) he₂ (Obj.isFreed_of_fields hd₃);have hTe:h₁.objs.size≠e:=Cz (cU he₁);have hT₃:=(tm (h₁.push tb) (Obj.mapFields (·.setIfInBounds 1 (Value.ref h₁.objs.size))) (Ne.symm hTe)).trans (k7 h₁ htf);have v1:(vs.setIfInBounds 1 (Value.ref h₁.objs.size))[1]?=some (.ref h₁.objs.size):=by simp [hsz]
 have hsz3:((h₁.push tb).update e (Obj.mapFields (·.setIfInBounds 1 (Value.ref h₁.objs.size)))).objs.size=s.heap.objs.size+1:=by rw [MB,gQ,hsz₁]
 refine hQ _ (R.noted hx he ho hd (F:=(env::r).filterMap (·.frame)) (T:=none) hF (λb q=>by cases q) ⟨ae hsz3 (oz _),λb hb h1 h2 _=>?_,λb o hb hbo=>?_⟩ he₃ (Obj.cls_mapFields _ _) ?_ hd₃ (λ_=>⟨_,v1⟩) (.inr ⟨_,v1,h₁.objs.size,tb,ts,_,rfl,by refine ae hsz₁ ?_;exact R.big,by refine ae hsz₁ ?_;exact R.size,by refine ae hsz3 (ae hsz₁ ?_);exact og _,?_,?_,hT₃,ht1,ht2⟩)) ⟨e,_,_,_,he,he₃,hd₃,v1⟩
 ·refine ae (tm _ _ (Ne.symm h2)) (ae (CA _ (by rw [hsz₁];exact hb)) ?_)
  exact hs₁.2.1 b h1
 ·refine aQ (hs₁.2.2 b o hbo) λsl z=>?_
  refine ⟨sl,?_⟩;refine ae (tm _ _ (show e≠b from λq=>hene (by rw [q];exact hb))) ?_;exact gN _ z
 ·obtain ⟨_,_,dd,_⟩:=oe
  cases hd;rfl
 ·refine ae hsz₁ ?_;exact λq=>wr _ (R.range _ q).2
 ·refine ae hsz₁ ?_;exact R.xx
theorem o9{i:Nat}{v:Value}(hv:VR J (.ref i) v):∃a,v= .ref a/\J.aA[i]?=some a:=by
 cases hv with
 |ref h=>exact ⟨_,rfl,h⟩
theorem tb_rel(R:Rel P J st s){i:Nat}{T:Addr}{vs:Array Value}{e:Addr}{oe:Obj}{x:Value}{Q:Unit->Shared->Prop}(hx:st.x=some i)(he:J.aA[i]?=some e)(ho:s.heap.get? e=some oe)(hd:oe.data= .fields vs)(h1:vs[1]?=some (.ref T))(hQ:∀s',Rel P J st s'->s'.heap.get? e=some oe->Q () s'):wpAny (Md P) A (setField (.ref T) 3 x) Q E s:=by
 obtain ⟨jI,vs2,q2,q3,⟨C,q4⟩,q5,q6⟩:=R.excAt hx he;rw [ho] at q3;cases q3;rw [hd] at q5;cases q5;rcases q6 with q6 | ⟨v',q6,⟨T',oT,ts,fl,r1,r2,r2',r3,r4,r5,r6,r7,r8⟩⟩
 ·rw [h1] at q6;cases q6
 ·rw [h1,r1] at q6;cases q6
  have r2:=And.intro r2 r2';have hTe:T≠e:=λq=>r4 (q▸bx he);refine wpAny_setField r6 r7 (v9.mp r8).1 ?_;have hd₃:=Obj.data_mapFields r7 (·.setIfInBounds 3 x);have hT₃:=n8 (Obj.mapFields (·.setIfInBounds 3 x)) r6 (Obj.isFreed_of_fields hd₃);have he₃:(s.heap.update T (Obj.mapFields (·.setIfInBounds 3 x))).get? e=some oe:=(tm _ _ hTe).trans ho;have hsz:(s.heap.update T (Obj.mapFields (·.setIfInBounds 3 x))).objs.size=s.heap.objs.size:=MB ..;refine hQ _ (R.noted hx he ho hd (F:=[]) (T:=some T) (λb q=>by cases q) (λb q=>by cases q;exact ⟨r2.1,r2.2,r4,r5,oT,ts,r6,r7⟩) ⟨by refine ae hsz ?_;exact cG _,λb hb _ _ h3=>tm _ _ (λq=>h3 (by exact ae q rfl)),λb o hb=>by cases hb⟩ he₃ rfl rfl hd (λz=>z) (.inr ⟨_,h1,T,_,_,x,rfl,r2.1,r2.2,by refine ae hsz ?_;exact r3,r4,r5,hT₃,hd₃,?_⟩)) he₃;have:=(v9.mp r8).1;simp [this]
theorem oF(R:Rel P J st s){i:Nat}{v:Value}{Q:Unit->Shared->Prop}(hx:st.x=some i)(s0:fr.e.sub=none)(F:bj P J fr A env)(hv:VR J (.ref i) v)(hQ:∀s',Rel P J st s'->Led J i s'->Q () s'):wpAny (Md P) A (noteFrame v env) Q E s:=by
 refine am (o9 hv) λe aq he=>?_;subst aq;refine aQ (F.top s0) λr hfr=>?_;refine bP F.e.frm λL _ hf _=>?_;obtain ⟨oe,vs,q2,q3,⟨C,q4⟩,q5,q6⟩:=R.excAt hx he;unfold noteFrame;simp only [hf];rcases q6 with q6 | ⟨v',r1,⟨T,oT,ts,fl,r0,r2,r2',r3,r4,r5,r6,r7,r8⟩⟩
 ·refine az (fk q3 q5 q6 ?_)
  refine ae (if_neg (by decide)) ?_;exact Dg R hx he q3 q5 (v9.mp q6).1 F.c hfr hf hQ
 ·subst r0
  refine az (fk q3 q5 r1 ?_);refine ae (if_pos (show (Value.ref T != Value.none)=true from by simp)) ?_;refine az (fk r6 r7 r8 ?_)
  by_cases hfl:(fl==rawInt L)=true
  ·refine ae (if_pos hfl) ?_
   exact aT (hQ s R ⟨e,oe,vs,T,he,q3,q5,r1⟩)
  ·refine ae (if_neg hfl) ?_
   refine az (tb_rel R hx he q3 q5 r1 λs' R' he'=>?_);exact Dg R' hx he he' q5 (v9.mp r1).1 F.c hfr hf hQ
theorem my(R:Rel P J st s){i:Nat}{v:Value}{fl:Option Addr}{Q:Unit->Shared->Prop}(hx:st.x=some i)(hv:VR J (.ref i) v)(hL:Led J i s)(hQ:∀s',Rel P J st s'->Led J i s'->Q () s'):wpAny (Md P) A (setFlight v fl) Q E s:=by refine am (o9 hv) λe aq he=>?_;subst aq;refine qu hL λe' o vs T h1 h2 h3 h4=>?_;rw [he] at h1;cases h1;unfold setFlight;refine az (fk h2 h3 h4 ?_);refine ae (if_pos (show (Value.ref T != Value.none)=true from by simp)) ?_;exact tb_rel R hx he h2 h3 h4 λs' R' he'=>hQ s' R' ⟨e,o,vs,T,he,he',h3,h4⟩
theorem Pe(R:Rel P J st s){i:Nat}{v:Value}{Q:Unit->Shared->Prop}(hx:st.x=some i)(s0:fr.e.sub=none)(F:bj P J fr A env)(hv:VR J (.ref i) v)(hQ:∀s',Rel P J st s'->Led J i s'->Q () s'):wpAny (Md P) A (leaving env v) Q E s:=by unfold leaving;exact az (oF R hx s0 F hv λs' R' hL=>my R' hx hv hL hQ)
theorem T2{i:Nat}{v:Value}(s0:fr.e.sub=none)(hx:st.x=some i)(R:Rel P J st s)(F:bj P J fr A env)(hv:VR J (.ref i) v)(hQ:∀s',Rel P J st s'->E v s'):notedBy (Md P) A env (λe s'=>cameBackBy (Md P) A env E e s') v s:=by unfold notedBy;refine oF R hx s0 F hv λs' R' hL=>?_;unfold cameBackBy;refine am (o9 hv) λe aq he=>?_;subst aq;refine qu (id hL) λe' o vs T h1 h2 h3 h4=>?_;rw [he] at h1;cases h1;refine az (fk h2 h3 h4 ?_);refine ae (if_neg (show ¬ ((Value.ref T==Value.none)=true) from tu)) ?_;exact my R' hx hv hL λs'' R'' _=>hQ s'' R''
theorem V5:Stat:=⟨T2⟩
end
section
variable{prog:Program}{w:World}{A:Around}{E:Value->Shared->Prop}{s:Shared}
theorem SG{Q:Value->Shared->Prop}(h:∀h' e,Gr (λ_=>False) s.heap h'->(∃o,h'.get? e=some o/\o.cls= .type "StopIteration")->Q (.ref e) {s with heap:=h'}):wpAny (model prog w) A (newExc (.type "StopIteration") []) Q E s:=by simp only [newExc,newTuple];refine az (wpAny_newObj_type ?_ (by size_fits));refine az (m:=firstArgMember _ _) (wpAny_of_eq (a:=Value.none) (by first |rfl | (simp only [firstArgMember];rfl)) ?_);refine wpAny_newObj_type ?_ (by size_fits);exact h _ _ (((Gr.refl _ _).push _).push _) ⟨_,k7 _ rfl,rfl⟩
theorem t9{β:Type}{R':β->Shared->Prop}(hh:A.handled=none)
  (h:∀h',Gr (λ_=>False) s.heap h'->∀e,(∃o,h'.get? e=some o/\o.cls= .type "StopIteration")->E (.ref e) {s with heap:=h'}):wpAny (model prog w) A (newExc (.type "StopIteration") []>>= raiseNew) R' E s:=by
 refine az (SG λh' e hg hT=>?_);simp only [raiseNew];refine az (wpAny_handled ?_);refine ae hh ?_;exact az (aT (wpAny_throw (h h' hg e hT)))
theorem wX{a:Addr}{h₁ h₂ h₃:Heap}(x:eJ a h₁ h₂)(y:Gr (λ_=>False) h₂ h₃):Gr (· =a) h₁ h₃:=⟨by refine bH x.1 ?_;exact y.1,λb o hb hn=>y.2 b o ((x.2 b hn).trans hb) id⟩
theorem Xt{B:Addr->Prop}{h₁ h₂:Heap}(y:Gr (λ_=>False) h₁ h₂):Gr B h₁ h₂:=⟨y.1,λb o hb _=>y.2 b o hb id⟩
theorem Sm{it l:Addr}{i:Nat}{items}{Q:Option Value->Shared->Prop}(hh:A.handled=none)(hit:s.heap.IsListIter it l i)(hl:s.heap.IsList l items)(hx:items[i]?=none)
  (hQ:∀h',Gr (· =it) s.heap h'->Q none {s with heap:=h'}):wpAny (model prog w) A (pyNext (.ref it)) Q E s:=by
 refine bP (id hit) λo ho hc hd=>?_;refine yp hl λol hol _ nl hdl=>?_;unfold pyNext
 refine az (wpAny_attempt (wpAny_callSpecial?_slot (name:=Str.ofString "__next__") hit.typeIs slot_listiter_next
  (wpAny_call_entry slot_listiter_next hit.typeIs entry_listiter_next ?_ (args_listiter_next _))))
 show wpAny _ _ (field (.ref it) 0>>= _) _ _ s;refine az (fk ho hd (x:=.ref l) rfl ?_);show wpAny _ _ (if (Value.ref l==Value.none)=true then _ else _) _ _ s;refine ae (if_neg (show ¬ ((Value.ref l==Value.none)=true) from tu)) ?_;show wpAny _ _ (field (.ref it) 1>>= _) _ _ s;refine az (fk ho hd (x:=.int i 0) rfl ?_);show wpAny _ _ (seqItems? (.ref l)>>= _) _ _ s;refine az (wpAny_seqItems hol hdl ?_);simp only [wl,hx];refine az (wpAny_rule (az (wpAny_setField ho hd (by simp) ?_)));show wpAny _ A.in1 (newExc (.type "StopIteration") []>>= raiseNew) _ _ _;refine t9 (A:=A.in1) hh λh' hg e hT=>?_;refine az (wpAny_isInstance (T:="StopIteration") (b:=true) hT isSubtype_stop ?_);exact aT (hQ _ (wX (eJ.update ..) hg))
theorem DE{it t:Addr}{i:Nat}{items}{Q:Option Value->Shared->Prop}(hh:A.handled=none)(hit:s.heap.IsTupleIter it t i)(ht:s.heap.IsTuple t items)(hx:items[i]?=none)
  (hQ:∀h',Gr (· =it) s.heap h'->Q none {s with heap:=h'}):wpAny (model prog w) A (pyNext (.ref it)) Q E s:=by
 refine bP (id hit) λo ho hc hd=>?_;refine yp ht λol hol _ nl hdl=>?_;unfold pyNext
 refine az (wpAny_attempt (wpAny_callSpecial?_slot (name:=Str.ofString "__next__") hit.typeIs F.slot_tuple_iterator_next
  (wpAny_call_entry F.slot_tuple_iterator_next hit.typeIs F.entry_tuple_iterator_next ?_ (F.args_tuple_iterator_next_1 _))))
 show wpAny _ _ (field (.ref it) 0>>= _) _ _ s;refine az (fk ho hd (x:=.ref t) rfl ?_);show wpAny _ _ (if (Value.ref t==Value.none)=true then _ else _) _ _ s;refine ae (if_neg (show ¬ ((Value.ref t==Value.none)=true) from tu)) ?_;show wpAny _ _ (field (.ref it) 1>>= _) _ _ s;refine az (fk ho hd (x:=.int i 0) rfl ?_);show wpAny _ _ (seqItems? (.ref t)>>= _) _ _ s;refine az (wpAny_seqItems hol hdl ?_);simp only [wl,hx];refine az (wpAny_rule (az (wpAny_setField ho hd (by simp) ?_)));show wpAny _ A.in1 (newExc (.type "StopIteration") []>>= raiseNew) _ _ _;refine t9 (A:=A.in1) hh λh' hg e hT=>?_;refine az (wpAny_isInstance (T:="StopIteration") (b:=true) hT isSubtype_stop ?_);exact aT (hQ _ (wX (eJ.update ..) hg))
theorem QJ{it:Addr}{x left step:Int}{Q:Option Value->Shared->Prop}(hh:A.handled=none)(hit:IsRangeIter s.heap it x left step)(hleft:left<=0)
  (hQ:∀h',Gr (· =it) s.heap h'->Q none {s with heap:=h'}):wpAny (model prog w) A (pyNext (.ref it)) Q E s:=by
 have hT:s.TypeIs (.ref it) "range_iterator":=⟨_,hit,rfl⟩;unfold pyNext
 refine az (wpAny_attempt (wpAny_callSpecial?_slot (name:=Str.ofString "__next__") hT F.slot_range_iterator_next
  (wpAny_call_entry F.slot_range_iterator_next hT F.entry_range_iterator_next ?_ (F.args_range_iterator_next_1 _))))
 show wpAny _ _ (field (.ref it) 0>>= _) _ _ s;refine az (fk hit rfl (x:=rawInt x) rfl ?_);show wpAny _ _ (field (.ref it) 1>>= _) _ _ s;refine az (fk hit rfl (x:=rawInt left) rfl ?_);show wpAny _ _ (field (.ref it) 2>>= _) _ _ s;refine az (fk hit rfl (x:=rawInt step) rfl ?_);show wpAny _ _ (if left<=0 then _ else _) _ _ s;refine ae (if_pos hleft) ?_;refine az (wpAny_rule ?_);refine az ?_;show wpAny _ A.in1 (newExc (.type "StopIteration") []>>= raiseNew) _ _ _;refine t9 (A:=A.in1) hh λh' hg e hT=>?_;refine az (wpAny_isInstance (T:="StopIteration") (b:=true) hT isSubtype_stop ?_);exact aT (hQ _ (Xt hg))
theorem P1{it:Addr}{x:Str}{t:Tok}{i:Nat}{Q:Option Value->Shared->Prop}(hh:A.handled=none)(hit:s.heap.IsStrIter it "str_ascii_iterator" x t i)(hx:x.cps[i]?=none)
  (hQ:∀h',Gr (· =it) s.heap h'->Q none {s with heap:=h'}):wpAny (model prog w) A (pyNext (.ref it)) Q E s:=by
 refine bP (id hit) λo ho hc hd=>?_;unfold pyNext
 refine az (wpAny_attempt (wpAny_callSpecial?_slot (name:=Str.ofString "__next__") hit.typeIs F.slot_str_ascii_iterator_next
  (wpAny_call_entry F.slot_str_ascii_iterator_next hit.typeIs F.entry_str_ascii_iterator_next ?_ (F.args_str_ascii_iterator_next_1 _))))
 show wpAny _ _ (field (.ref it) 0>>= _) _ _ s;refine az (fk ho hd (x:=.str x t) rfl ?_);show wpAny _ _ (field (.ref it) 1>>= _) _ _ s;refine az (fk ho hd (x:=.int i 0) rfl ?_);simp only [wl,hx];refine az (wpAny_rule (az (wpAny_setField ho hd (by simp) (az (wpAny_letGo ?_)))));show wpAny _ A.in1 (newExc (.type "StopIteration") []>>= raiseNew) _ _ _;refine t9 (A:=A.in1) hh λh' hg e hT=>?_;refine az (wpAny_isInstance (T:="StopIteration") (b:=true) hT isSubtype_stop ?_);exact aT (hQ _ (wX (eJ.update ..) hg))
end
noncomputable def fI(vs:Array Value)(n:Nat):Obj:={cls:=.type "list",dict:=none,data:=.seq vs n,slots:= #[]}
section
variable{P:Pr}{J:G}{st:St}{s:Shared}{A:Around}{E:Value->Shared->Prop}
theorem qS{v:AV}{l:List AV}(h:lU v=some l):v= .bw l:=by cases v<;>first |exact aD h |exact congrArg _ (af h)
theorem uc{v:AV}{l:List AV}(h:iM v=some l):v= .tup l:=by cases v<;>first |exact aD h |exact congrArg _ (af h)
theorem qt{a:AO}{p:Nat×Bool×List (Nm×EV)}(h:dU a=some p):a= .dict p.1 p.2.1 p.2.2:=by cases a<;>first |exact aD h |exact af h▸rfl
theorem Dx{p:Option Nat×List AV}{xs:List AV}(h:plain1 p=some xs):p=(none,xs):=by
 obtain ⟨k,ys⟩:=p;cases k with
 |none=>exact af h▸rfl
 |some k=>exact aD h
theorem Ej{i:Nat}{xs:List AV}(h:yP i st=some xs):st.get i=some (.list none xs):=by refine ah h λp h1 h2=>?_;refine ah h1 λo h3 h4=>?_;exact ae h3 (ae (mz h4) (ae (Dx h2) rfl))
inductive SeqAt(h:Heap)(J:G)(v:AV)(xs:List AV):Value->Prop
 |li {l:Addr} {vs:Array Value} {n:Nat} (h1:ay J xs vs.toList) (h2:cy v=true) (h3:h.get? l=some (fI vs n)):SeqAt h J v xs (.ref l)
 |tp {l:Addr} {vs:Array Value} (h1:ay J xs vs.toList) (h2:cy v=false) (h3:h.IsTuple l vs):SeqAt h J v xs (.ref l)
theorem lz(R:Rel P J st s){v:AV}{u:Value}{xs:List AV}(h:seqItems st v=some xs)(hv:VR J v u):SeqAt s.heap J v xs u:=by
 obtain ⟨i,h1,h⟩ |h:=cR h
 ·rw [fq h1] at hv ⊢
  obtain ⟨a,o,rfl,ha,ho,⟨vs,n,rfl,hr⟩, -⟩:=R.at_ (Ej h) hv;exact .li hr rfl ho
 ·obtain ⟨l,h1,h⟩ |h:=cR h
  ·have aa:=af h
   clear h;subst aa;rw [qS h1] at hv ⊢;obtain ⟨h1,h⟩:=hv.sH;refine fB (R.fz _ _ h1) λ_ _ o' q1 q2=>?_;have aa:=q2.plain λen n q=>by cases q
   clear q2;subst aa;exact .li h rfl q1
  ·rw [uc h] at hv ⊢
   obtain ⟨h1,h2,h3,h⟩:=hv.B5;refine fB (R.fz _ _ h1) λ_ _ o' q1 q2=>?_;obtain rfl:=q2.plain λen n q=>by rw [h3] at q;cases q
   exact .tp h rfl ⟨o',q1,h2,_,h3⟩
theorem ux(R:Rel P J st s){v:AV}{u:Value}{xs:List AV}(h:seqItems st v=some xs)(hv:VR J v u):
  ∃l vs,u= .ref l/\ay J xs vs.toList/\((cy v=true/\∃n,s.heap.get? l=some (fI vs n))\/(cy v=false/\s.heap.IsTuple l vs)):=
 match lz R h hv with
 | .li h1 h2 h3=>⟨_,_,rfl,h1,.inl ⟨h2,_,h3⟩⟩
 | .tp h1 h2 h3=>⟨_,_,rfl,h1,.inr ⟨h2,h3⟩⟩
theorem dP{h:Heap}{l:Addr}{vs:Array Value}{n:Nat}(e:h.get? l=some (fI vs n)):h.IsList l vs:=⟨_,e,rfl,n,rfl⟩
theorem ay.none{J:G}{as:List AV}{vs:List Value}(h:ay J as vs){i:Nat}(e:as[i]?=none):vs[i]?=none:=Mu.mpr (h.length.symm▸Mu.mp e)
theorem E3{J:G}{src:AV}{pos:Nat}{o:Obj}(h:eW J src pos o)(hs:∀e,src≠ .int e):∃v,VR J src v/\o.data= .fields #[v,.int pos 0]/\o.cls= .type (fc src v):=by
 unfold eW at h
 split at h
 ·exact absurd rfl (hs _)
 ·exact h
theorem xP{J:G}{src:AV}{pos:Nat}{o:Obj}(hs:∀e,src≠ .int e){v:Value}(h:VR J src v)(h1:o.data= .fields #[v,.int pos 0])(h2:o.cls= .type (fc src v)):eW J src pos o:=by
 unfold eW
 split
 ·exact absurd rfl (hs _)
 ·exact ⟨v,h,h1,h2⟩
theorem yC{it:Nat}{a:Addr}{ao:AO}{o:Obj}{vs:Array Value}{T:String}{h':Heap}(R:Rel P J st s)(ha:J.aA[it]?=some a)(h1:st.get it=some ao)(ho:s.heap.get? a=some o)(hc:o.cls= .type T)(hd:o.data= .fields vs)(hg:Gr (· =a) s.heap h'):Rel P J (st.drop it) {s with heap:=h'}:=R.gone ha (R.apart it ao a (R.lt ha) h1 ha) ho hd hc hg
theorem xC{it:Nat}{a:Addr}{ao b9:AO}{o o':Obj}{T:String}{h':Heap}(R:Rel P J st s)(ha:J.aA[it]?=some a)(h1:st.get it=some ao)(ho:s.heap.get? a=some o)(hc:o.cls= .type T)(hk:dU ao=none)(hs:eJ a s.heap h')(ho':h'.get? a=some o')(r:OR J o' b9):Rel P J (st.set it b9) {s with heap:=h'}:=R.upd ha (R.apart it ao a (R.lt ha) h1 ha) (R.jp ha ho (.inr ⟨_,hc⟩)) hs ho' r (.inr ⟨_,h1,λ ⟨c,e,q,_⟩=>aD (hk.symm.trans (congrArg dU q))⟩)
noncomputable def y9(P:Pr)(J:G)(Q:Option Value->Shared->Prop)(p:Option AV×St):Prop:=∀J' s',J.Le J'->Rel P J' p.2 s'->match p.1 with |none=>Q none s' |some w=>∀u,VR J' w u->Q (some u) s'
theorem Sc{src:AV}{l:Addr}(h:cy src=true)(hs:strOf src=none):fc src (.ref l)="list_iterator":=by cases src<;>first |rfl |exact aE h
theorem UV{src:AV}{l:Addr}(h:cy src=false):fc src (.ref l)="tuple_iterator":=by cases src<;>first |rfl |exact cH h
theorem SK{Q:Option Value->Shared->Prop}{it pos:Nat}{src:AV}{a:Addr}{p:Option AV×St}(h:zU it src pos st=some p)(hh:A.handled=none)(R:Rel P J st s)(ha:J.aA[it]?=some a)(h1:st.get it=some (.du src pos))(hn:strOf src=none)(hQ:y9 P J Q p):wpAny (Md P) A (pyNext (.ref a)) Q E s:=by
 refine bp (R.objs it _ (R.lt ha) h1) λa' o ha' ho hor=>?_;have aa:=af (ha.symm.trans ha');clear ha';subst aa;refine ah h λxs h3 h4=>?_;have hs:∀e,src≠ .int e:=λe q=>aD ((congrArg (seqItems st) q).symm.trans h3);refine bP (E3 (show eW J _ _ o from hor) hs) λv hv hd hc=>?_;rw [dS] at h4;have ended:xs[pos]?=none->∀h',Gr (· =a) s.heap h'->Q none {s with heap:=h'}:=λe h' hg=>by rw [e] at h4;have aa:=af h4;clear h h4;subst aa;exact hQ J _ (.refl _) (yC R ha h1 ho hc hd hg)
 have step:∀{w:AV} {u:Value} {h':Heap} {o':Obj},xs[pos]?=some w->VR J w u->eJ a s.heap h'->h'.get? a=some o'->o'.data= .fields #[v,.int (pos+1:Nat) 0]->o'.cls= .type (fc src v)->Q (some u) {s with heap:=h'}:=λe hu hs' q1 q3 q2=>by rw [e] at h4;obtain rfl:=af h4;exact hQ J _ (.refl _) (xC (b9:=.du src (pos+1)) R ha h1 ho hc rfl hs' q1 (xP hs hv q3 q2)) _ hu
 cases lz R h3 hv with
 | @li l vs n hvs hk hl=>
  have ec:=Sc (l:=l) hk hn;have hit:s.heap.IsListIter a l pos:=⟨o,ho,hc.trans (congrArg _ ec),hd⟩;cases e:xs[pos]? with
  |none=>exact Sm hh hit (dP hl) (iY.symm.trans (hvs.none e)) (ended e)
  |some w=>refine am (hvs.get e) λu hu hr=>?_;refine wpAny_pyNext_list_item hit (dP hl) (iY.symm.trans hu) λh' hit' hs'=>?_;refine bP hit' λo' q1 q2 q3=>?_;exact step e hr hs' q1 q3 (q2.trans (congrArg _ ec.symm))
 | @tp l vs hvs hk hl=>
  have ec:=UV (l:=l) hk;have hit:s.heap.IsTupleIter a l pos:=⟨o,ho,hc.trans (congrArg _ ec),hd⟩;cases e:xs[pos]? with
  |none=>exact DE hh hit hl (iY.symm.trans (hvs.none e)) (ended e)
  |some w=>refine am (hvs.get e) λu hu hr=>?_;refine wpAny_pyNext_tuple_item hit hl (iY.symm.trans hu) λh' hit' hs'=>?_;refine bP hit' λo' q1 q2 q3=>?_;exact step e hr hs' q1 q3 (q2.trans (congrArg _ ec.symm))
theorem Rf{x:Str}(q:(bF x.cps.toList λc=>bh c 128)=true):strIterType x="str_ascii_iterator":=by unfold strIterType;rw [if_pos];rw [<-Array.all_toList,be];exact λc hc=>decide_eq_true (bt (dm q c hc))
theorem SL{Q:Option Value->Shared->Prop}{it pos:Nat}{w:SW}{a:Addr}{p:Option AV×St}(h:zV it (.str w) pos st w=some p)(hh:A.handled=none)(R:Rel P J st s)(ha:J.aA[it]?=some a)(h1:st.get it=some (.du (.str w) pos))(hQ:y9 P J Q p):wpAny (Md P) A (pyNext (.ref a)) Q E s:=by
 refine bp (R.objs it _ (R.lt ha) h1) λa' o ha' ho hor=>?_;have aa:=af (ha.symm.trans ha');clear ha';subst aa;refine ah h λy h3 h4=>?_;refine bb h4 λq h4=>?_;refine bP (E3 (show eW J (.str w) pos o from hor) λe q=>cQ AV.ctorIdx q rfl) λv hv hd hc=>?_;have hv0:=hv;rw [ij h3] at hv;refine ba hv.str_inv λx t ai hx=>?_;subst ai;obtain rfl:y=x.cps.toList:=af hx;have ec:fc (.str w) (.str x t)="str_ascii_iterator":=Rf q;have hit:s.heap.IsStrIter a "str_ascii_iterator" x t pos:=⟨o,ho,hc.trans (congrArg _ ec),hd⟩;rw [dS,iY] at h4;cases e:x.cps[pos]? with
 |none=>rw [e] at h4;have aa:=af h4;clear h h4;subst aa;exact P1 hh hit e λh' hg=>hQ J _ (.refl _) (yC R ha h1 ho hc hd hg)
 |some c=>rw [e] at h4;have aa:=af h4;clear h h4;subst aa;refine wpAny_pyNext_ascii_item hit e λh' hit' hs'=>?_;refine bP hit' λo' q1 q2 q3=>?_;exact hQ J _ (.refl _) ((xC (b9:=.du (.str w) (pos+1)) R ha h1 ho hc rfl hs' q1 (xP (λe q=>cQ AV.ctorIdx q rfl) hv0 q3 (q2.trans (congrArg _ ec.symm)))).toks (s.toks+1)) _ (.str _ (show SW.ev J (.lit [c])=_ from rfl))
theorem SJ{Q:Option Value->Shared->Prop}{it:Nat}{cur stop:Int}{a:Addr}{p:Option AV×St}(h:Ig cur stop it st=some p)(hh:A.handled=none)(R:Rel P J st s)(ha:J.aA[it]?=some a)(h1:st.get it=some (.rng cur stop))(hQ:y9 P J Q p):wpAny (Md P) A (pyNext (.ref a)) Q E s:=by
 refine DM (R.objs it _ (R.lt ha) h1) λa' o ha' ho left p4 hleft=>?_;have aa:=p4;clear p4;subst aa;have aa:=af (ha.symm.trans ha');clear ha';subst aa;cases c:bA cur stop with
 |false=>have aa:=af (ma c h);clear h;subst aa;have hn:¬ cur< stop:=λq=>cH (((gU _ _).mpr q).symm.trans c);exact QJ hh ho (hleft.elim (λe=>c8 (wu e) (Int.sub_nonpos_of_le (jb.mp hn))) And.right) λh' hg=>hQ J _ (.refl _) (yC R ha h1 ho rfl rfl hg)
 |true=>have aa:=af (kN c h);clear h;subst aa;have hn:=(gU _ _).mp c;exact wpAny_pyNext_range_item ho (hleft.elim (λe=>wi (Int.sub_pos_of_lt hn) (wu e.symm)) λe=>absurd hn (jb.mpr e.1)) λh' hit' hs'=>hQ J _ (.refl _) ((xC (b9:=.rng (cur+1) stop) R ha h1 ho rfl rfl hs' hit' ⟨left - 1,rfl,hleft.elim (λe=>.inl (by rw [e,Int.sub_sub])) λe=>absurd hn (jb.mpr e.1)⟩).toks (s.toks+1)) _ (.int _ (show AI.ev J (.lit cur)=_ from rfl))
theorem Rd{x:AO}{q:AV×Nat}(h:zf x=some q):x= .du q.1 q.2:=by cases x<;>first |exact aD h |exact af h▸rfl
theorem Re{x:AO}{q:Int×Int}(h:Hj x=some q):x= .rng q.1 q.2:=by cases x<;>first |exact aD h |exact af h▸rfl
theorem PG{Q:Option Value->Shared->Prop}{it:Nat}{a:Addr}{p:Option AV×St}(h:kb it st=some p)(hh:A.handled=none)(R:Rel P J st s)(ha:J.aA[it]?=some a)
  (hQ:∀J' s',J.Le J'->Rel P J' p.2 s'->match p.1 with |none=>Q none s' |some w=>∀u,VR J' w u->Q (some u) s'):wpAny (Md P) A (pyNext (.ref a)) Q E s:=by
 refine ah h λao h1 h2=>?_;obtain ⟨⟨src,pos⟩,e,h2⟩ |h2:=cR h2
 ·rw [Rd e] at h1
  refine kG (m:=λo=>o=some p->wpAny (Md P) A (pyNext (.ref a)) Q E s) (λc h2=>SK h2 hh R ha h1 c hQ) (λw c h2=>?_) h2;have c:=ft c;exact SL (w:=w) (pos:=pos) (c▸h2) hh R ha (c▸h1) hQ
 ·refine ah h2 λq e h2=>?_
  exact SJ h2 hh R ha (Re e▸h1) hQ
end
section
variable{P:Pr}{J:G}{st:St}{s:Shared}{A:Around}{E:Value->Shared->Prop}
theorem PF{Q:Value->Shared->Prop}{w:AV}{u:Value}{p:Nat×St}(h:mZ w st=some p)(R:Rel P J st s)(hv:VR J w u)
  (hQ:∀J' s' a,J.Le J'->Rel P J' p.2 s'->J'.aA[p.1]?=some a->Q (.ref a) s'):wpAny (Md P) A (pyIter u) Q E s:=by
 have made:∀{T:String} {vs:Array Value} {ao:AO},OR (J.push s.heap.objs.size) {cls:=.type T,data:=.fields vs} ao->ob (ca st ao) (λst'=>some (st.n,st'))=some p->Q (.ref s.heap.objs.size) {s with heap:=s.heap.push {cls:=.type T,data:=.fields vs}}:=λr e=>by refine ah e λst' h1 h2=>?_;refine au (fD h1) λq aq=>?_;subst aq;cases h2;refine au (R.new (o:={cls:=.type _,data:=.fields _}) rfl r q) λR2 h4=>?_;exact hQ _ _ _ (J.d8 _) R2 h4
 have uP:∀{T:String},(∀e,w≠ .int e)->T=fc w u->nk w st=some p->Q (.ref s.heap.objs.size) {s with heap:=s.heap.push {cls:=.type T,data:=.fields #[u,.int 0 0]}}:=λhs hT e=>made (ao:=.du w 0) (xP hs (hv.mono (J.d8 _)) rfl (by exact ae hT rfl)) e;have seq:∀xs,seqItems st w=some xs->(∀e,w≠ .int e)->nk w st=some p->wpAny (Md P) A (pyIter u) Q E s:=λxs hx hs e=>by
  refine bp (ux R hx hv) λl vs ai hvs hk=>?_;have aa:=ai;clear hv ai;subst aa;rcases hk with ⟨hk,n,hl⟩ | ⟨hk,hl⟩
  ·exact wpAny_pyIter_list (dP hl) (uP hs (by cases w<;>first |rfl |cases hk) e)
  ·exact wpAny_pyIter_tuple hl (uP hs (by cases w<;>first |rfl |cases hk) e)
 cases w with
 |str z=>
  cases id hv with
  | @str _ x t hx=>refine ah (show ob (litS z) (λ_=>nk (.str z) st)=some p from h) λy h1 h2=>?_;exact wpAny_pyIter_strU (uP (λe q=>by cases q) rfl h2)
 |ref i=>
  refine ah (show ob (st.get i) (λo=>Kt o i (.ref i) st)=some p from h) λo h1 h2=>?_;cases o with
  |list pre xs=>
   cases pre with
   |some k=>cases h2
   |none=>exact seq xs (by show ob (ob (st.get i) asList) plain1=_;refine ae h1 ?_;rfl) (λe q=>by cases q) h2
  |du src pos=>
   refine ah (show ob (intOf src) (λe=>ob (cZ e) λn=>bf (bA n 1000000&&bA (-1000000) n) (ob (ca st (.rng 0 n)) λst'=>some (st.n,st')) none)=some p from h2) λe h3 h4=>?_;refine ah h4 λn h5 h6=>?_;cases src with
   |int e'=>
    obtain rfl:=CF.inj h3;cases e' with
    |lit m=>
     have aa:=(CF.inj h5).symm;clear h2;subst aa;cases c:(bA n 1000000&&bA (-1000000) n) with
     |false=>rw [c] at h6;cases h6
     |true=>
      rw [c] at h6;refine au (b7.mp c) λc1 c2=>?_;have hn:=(gU _ _).mp c1;have hn':=(gU _ _).mp c2;refine mF (R.at_ h1 hv) λa o ai ha ho hor _=>?_;have aa:=ai;clear hv uP seq ai;subst aa;refine HD hor λt1 t2 t3 bC=>?_;have aa:=bC;clear hor bC;subst aa;refine wpAny_pyIter_range ho ?_ (made (ao:=.rng 0 n) ⟨_,rfl,?_⟩ h6)
      ·have e1:∀x:Int, -10000000<=x->x<=10000000->Builtin.Range.rangeFitsLong x=true:=λx h1 h2=>by
        unfold Builtin.Range.rangeFitsLong;refine ae (decide_eq_true (by omega)) (ae (decide_eq_true (by omega)) ?_);rfl
       have e2:Builtin.Range.rangeFitsLong (Builtin.Range.rangeSize 0 n 1)=true:=e1 _ (by unfold Builtin.Range.rangeSize;simp;split<;>omega) (by unfold Builtin.Range.rangeSize;simp;split<;>omega);have e3:Builtin.Range.rangeFitsLong (n+(1 - 1))=true:=e1 _ (by omega) (by omega);unfold Builtin.Range.small;simp [e1 0 (by omega) (by omega),e1 n (by omega) (by omega),e1 1 (by omega) (by omega),e2,e3]
      ·unfold Builtin.Range.rangeSize;simp;split<;>omega
    |_=>cases h5
   |_=>cases h3
  |_=>cases h2
 |bw xs=>exact seq xs rfl (λe q=>by cases q) h
 |tup xs=>exact seq xs rfl (λe q=>by cases q) h
 |_=>cases h
theorem uM:kg:=⟨PG,PF⟩
end
section
open PySem.SeqAt
noncomputable def hH:Value->Value->Bool
 | .none,.none=>true
 | .bool a,.bool b=>a==b
 | .int a _,.int b _=>a==b
 | .str a _,.str b _=>a==b
 |_,_=>false
theorem SW.jl{a b:SW}(h:a.beq b=true):a=b:=by
 cases a with
 |lit s=>
  cases b with
  |lit t=>exact congrArg _ (mK (aH h))
  |var p k t=>exact aE h
 |var p k s=>
  cases b with
  |lit t=>exact aE h
  |var p' k' t=>refine au (bq h) λh h3=>?_;refine au (bq h) λh1 h2=>?_;have aa:=mK (aH h1);clear h h1;subst aa;have aa:=aH h2;clear h2 h;subst aa;exact congrArg _ (mK (aH h3))
theorem Fu{x y:Str}(h:x.cps.toList=y.cps.toList):x=y:=by cases x;cases y;exact congrArg _ (wn.mp h)
theorem Xi{J:G}{a b:SW}{x y:Str}(ha:a.ev J=some x.cps.toList)(hb:b.ev J=some y.cps.toList):(x==y)∈Bt a b:=by
 unfold Bt;refine nr (m:=((x==y)∈ ·)) (gB (m:=((x==y)∈ ·)) (λc=>?_) λ_=>lg _) λz z' h1 h2=>?_
 ·have aa:=SW.jl c
  clear c;subst aa;obtain rfl:=Fu (af (ha.symm.trans hb));exact (beq_self_eq_true x).symm▸ .head _
 ·have e1:z=x.cps.toList:=af ((congrArg (SW.ev J) (ij h1)).symm.trans ha)
  have e2:z'=y.cps.toList:=af ((congrArg (SW.ev J) (ij h2)).symm.trans hb);show (x==y)∈ [ag (enc z) (enc z')];cases c:ag (enc z) (enc z') with
  |true=>have aa:=Fu (e1.symm.trans ((mK (aH c)).trans e2));clear hb e2;subst aa;exact (beq_self_eq_true x).symm▸ .head _
  |false=>exact (beq_false_of_ne λq=>dC c (congrArg enc (e1.trans ((congrArg (λx:Str=>x.cps.toList) q).trans e2.symm)))).symm▸ .head _
section
variable{P:Pr}{J:G}{st:St}{s:Shared}{A:Around}{E:Value->Shared->Prop}{u v:Value}{l:List Bool}
noncomputable def yX(s:Shared)(u v:Value)(k:Bool):Prop:=∀A,RcAt A s u v k/\RcNeAt A s u v (!k)/\EqAt A s u v k
inductive pd(s:Shared)(u v:Value)(l:List Bool):Prop
 |mk (h1:hH u v∈l) (h2:yX s u v (hH u v)) (h3:u=v->hH u v=true):pd s u v l
theorem pr(h1:false∈l)(h2:yX s u v false)(h3:hH u v=false)(f:Value->Nat)(q:ag (f u) (f v)=false):pd s u v l:=⟨h3.symm▸h1,h3.symm▸h2,λe=>cQ f e q⟩
theorem gu{b:Bool}{l:List Bool}(h:some [b]=some l):b∈l:=af h▸ .head _
theorem UP{b:AV}(h:AH b=true):(∃e,b= .int e)\/ ∃w,b= .str w:=by
 unfold AH at h;cases c:intOf b with
 |some e=>exact .inl ⟨e,dl c⟩
 |none=>
  rw [c] at h;cases d:strOf b with
  |some w=>exact .inr ⟨w,ft d⟩
  |none=>rw [d] at h;exact aE h
theorem oA{v:AV}{a:Bool}(h:boolOf v=some a):v= .bool a:=by cases v<;>first |exact aD h |exact congrArg _ (af h)
theorem acE(i j:Int):decide (i=j)=(i==j):=by
 by_cases h:i=j
 ·exact (decide_eq_true h).trans (h▸(beq_self_eq_true i).symm)
 ·exact (decide_eq_false h).trans (beq_false_of_ne h).symm
theorem XG{b:AV}(h:yt b=some l)(hv:VR J b v):pd s .none v l:=by
 obtain ⟨h1,h⟩ |h:=dj h
 ·rw [ip h1] at hv
  obtain rfl:v= .none:=hv.out;exact ⟨gu h,λA=>⟨RcAt.none_none,RcNeAt.none_none,EqAt.same _⟩,λ_=>rfl⟩
 ·refine au (fu h) λh1 h=>?_
  obtain ⟨e,rfl⟩ | ⟨w,rfl⟩:=UP h1
  ·refine ba hv.int_inv λi t ai _=>?_
   have aa:=ai;clear hv ai;subst aa;exact pr (gu h) (λA=>⟨RcAt.none_int _ _,RcNeAt.none_int _ _,EqAt.none_int _ _⟩) rfl Value.ctorIdx rfl
  ·refine ba hv.str_inv λi t ai _=>?_
   have aa:=ai;clear hv ai;subst aa;exact pr (gu h) (λA=>⟨RcAt.none_str _ _,RcNeAt.none_str _ _,EqAt.none_str _ _⟩) rfl Value.ctorIdx rfl
theorem XF(R:Rel P J st s){b:AV}{e:AI}{i:Int}{t:Tok}(h:yr b e st=some l)(hi:e.ev J=some i)(hv:VR J b v):pd s (.int i t) v l:=by
 obtain ⟨a,h1,h⟩ |h:=cR h
 ·rw [dl h1] at hv
  refine ba hv.int_inv λj t' ai hj=>?_;have aa:=ai;clear hv ai;subst aa;have q:=FY R hi hj;rw [acE,af h] at q;exact ⟨q,λA=>⟨RcAt.int_int _ _ _ _,RcNeAt.int_int _ _ _ _,EqAt.int_int _ _ _ _⟩,λq=>(Value.int.inj q).1▸beq_self_eq_true i⟩
 ·obtain ⟨h1,h⟩ |h:=dj h
  ·rw [ip h1] at hv
   obtain rfl:v= .none:=hv.out;exact pr (gu h) (λA=>⟨RcAt.int_none _ _,RcNeAt.int_none _ _,EqAt.int_none _ _⟩) rfl Value.ctorIdx rfl
  ·refine am (cz h) λa h1 h=>?_
   rw [ft h1] at hv;refine ba hv.str_inv λj t' ai _=>?_;have aa:=ai;clear hv ai;subst aa;exact pr (gu h) (λA=>⟨RcAt.int_str _ _ _ _,RcNeAt.int_str _ _ _ _,EqAt.int_str _ _ _ _⟩) rfl Value.ctorIdx rfl
theorem XH{b:AV}{w:SW}{x:Str}{t:Tok}(h:yu b w=some l)(hx:w.ev J=some x.cps.toList)(hv:VR J b v):pd s (.str x t) v l:=by
 obtain ⟨a,h1,h⟩ |h:=cR h
 ·rw [ft h1] at hv
  refine ba hv.str_inv λy t' ai hy=>?_;have aa:=ai;clear hv ai;subst aa;exact ⟨af h▸Xi hx hy,λA=>⟨RcAt.str_str _ _ _ _,RcNeAt.str_str _ _ _ _,EqAt.str_str _ _ _ _⟩,λq=>(Value.str.inj q).1▸beq_self_eq_true x⟩
 ·obtain ⟨h1,h⟩ |h:=dj h
  ·rw [ip h1] at hv
   obtain rfl:v= .none:=hv.out;exact pr (gu h) (λA=>⟨RcAt.str_none _ _,RcNeAt.str_none _ _,EqAt.str_none _ _⟩) rfl Value.ctorIdx rfl
  ·refine am (cz h) λa h1 h=>?_
   rw [dl h1] at hv;refine ba hv.int_inv λj t' ai _=>?_;have aa:=ai;clear hv ai;subst aa;exact pr (gu h) (λA=>⟨RcAt.str_int _ _ _ _,RcNeAt.str_int _ _ _ _,EqAt.str_int _ _ _ _⟩) rfl Value.ctorIdx rfl
theorem E5{a b:AV}(h:pV st a b=some l)(R:Rel P J st s)(hu:VR J a u)(hv:VR J b v):pd s u v l:=by
 obtain ⟨h1,h⟩ |h:=dj (show bf (dq a) (yt b) (alt (boolOf a) (EN b) (alt (intOf a) (λa=>yr b a st) (ob (strOf a) (yu b))))=some l from h)
 ·rw [ip h1] at hu
  obtain rfl:u= .none:=hu.out;exact XG h hv
 obtain ⟨x,h1,h⟩ |h:=cR h
 ·rw [oA h1] at hu
  obtain rfl:u= .bool x:=hu.out;refine am (cz h) λy h2 h=>?_;rw [oA h2] at hv;obtain rfl:v= .bool y:=hv.out;exact ⟨gu h,λA=>⟨RcAt.bool_bool _ _,RcNeAt.bool_bool _ _,EqAt.bool_bool _ _⟩,λq=>Value.bool.inj q▸beq_self_eq_true x⟩
 obtain ⟨x,h1,h⟩ |h:=cR h
 ·rw [dl h1] at hu
  refine ba hu.int_inv λi t ai hi=>?_;have aa:=ai;clear hu ai;subst aa;exact XF R h hi hv
 ·refine am (cz h) λx h1 h=>?_
  rw [ft h1] at hu;refine ba hu.str_inv λi t ai hi=>?_;have aa:=ai;clear hu ai;subst aa;exact XH h hi hv
inductive jD(s:Shared)(n:Nat)(u v:Value)(l:List Bool):Prop
 |mk (k k':Bool) (h1:k∈l) (h2:k'∈l) (h3:∀A:Around,A.units+n< cLine->RcAt A s u v k/\RcNeAt A s u v (!k)/\EqAt A s u v k') (h4:u=v->true∈l):jD s n u v l
inductive Lp(s:Shared)(c:Nat)(us vs:List Value)(l:List Bool):Prop
 |mk (h1:us=vs->true∈l) (h2:us.length≠vs.length->false∈l) (h3:us.length=vs.length->∃e:Nat->Bool,(∀A:Around,A.units+c< cLine->∀j (h1:j< us.length) (h2:j< vs.length),EqAt A s us[j] vs[j] (e j))/\(d6 us.length).all e∈l):Lp s c us vs l
theorem Vf{Y:Type}{l:List Y}(h:zS l=true):l= []:=by cases l with |nil=>rfl |cons=>exact aE h
theorem ru{b:Bool}{l:List Bool}(h:is1 b l=true){k:Bool}(hk:k∈l):k=b:=by
 cases l with
 |nil=>exact aE h
 |cons x r=>refine au (bq h) λh1 h2=>?_;have aa:=Vf h2;clear h h2;subst aa;exact (fe.mp hk).trans (eq_of_beq h1)
theorem xi{l1 l2:List Bool}{k1 k2:Bool}(h1:k1∈l1)(h2:k2∈l2):(k1&&k2)∈u8 l1 l2:=by refine gB (m:=((k1&&k2)∈ ·)) (λc=>by obtain rfl:=ru c h1;exact Bool.true_and k2▸h2) λ_=>gB (m:=((k1&&k2)∈ ·)) (λc=>by obtain rfl:=ru c h1;exact .head _) λ_=>lg _
noncomputable def Hw(k:Bool)(e:Nat->Bool)(j:Nat):Bool:=ou j k e
theorem all_cons(k:Bool)(e:Nat->Bool)(n:Nat):(d6 (n+1)).all (Hw k e)=(k&&(d6 n).all e):=by rw [List.range_succ_eq_map,NC,List.all_map];rfl
theorem Un{f:AV->AV->Option (List Bool)}{c:Nat}(H:∀a b l u v,f a b=some l->VR J a u->VR J b v->jD s c u v l){as:List AV}:∀{bs:List AV} {us vs:List Value} {l:List Bool},pC f as bs=some l->ay J as us->ay J bs vs->Lp s c us vs l:=by
 induction as with
 |nil=>
  intro bs us vs l h hu hv;have aa:=hu.n;clear hu;subst aa;cases bs with
  |nil=>have aa:=hv.n;clear hv;subst aa;exact ⟨λ_=>gu h,λq=>absurd rfl q,λ_=>⟨λ_=>true,λA hA j h1=>absurd h1 (oj _),gu h⟩⟩
  |cons b bs=>refine bp hv.c λv vs ai _ _=>?_;have aa:=ai;clear hv ai;subst aa;exact ⟨λq=>Mg q,λ_=>gu h,λq=>absurd q (qi _).symm⟩
 |cons a as ih=>
  intro bs us vs l h hu hv;obtain ⟨u,us,rfl,hu,hus⟩:=hu.c;cases bs with
  |nil=>have aa:=hv.n;clear hv;subst aa;exact ⟨λq=>LF q,λ_=>gu h,λq=>absurd q (qi _)⟩
  |cons b bs=>
   obtain ⟨v,vs,rfl,hv,hvs⟩:=hv.c;refine ah (show ob (f a b) (λl1=>ob (pC f as bs) λl2=>some (u8 l1 l2))=some l from h) λl1 e1 h=>?_;refine ah h λl2 e2 h=>?_;have aa:=af h;clear h;subst aa;cases H _ _ _ _ _ e1 hu hv with
   |mk k k' j1 j2 j3 j4=>
    cases ih e2 hus hvs with
    |mk i1 i2 i3=>
     refine ⟨λq=>xi (j4 (jS.inj q).1) (i1 (jS.inj q).2),λq=>Bool.and_false k'▸xi j2 (i2 λz=>q (congrArg (· +1) z)),λq=>?_⟩;refine am (i3 (mC.inj q)) λe h3 h4=>?_;refine ⟨Hw k' e,λA hA j g1 g2=>?_,(all_cons k' e us.length).symm▸xi j2 h4⟩;cases j with
     |zero=>exact (j3 A hA).2.2
     |succ j=>exact h3 A hA j (tj g1) (tj g2)
end
end
section
open PySem.SeqAt
section
variable{P:Pr}{J:G}{st:St}{s:Shared}{A:Around}{E:Value->Shared->Prop}
theorem Gk(n:Nat)(i:Int):eF st (n+1) (.int (.lit i)) (.int (.lit i))=some [true]:=by show some [ieq i i]=_;exact ae ((io i i).mpr rfl) rfl
theorem Dh(f:AV->AV->Option (List Bool))(x:AV)(r:List AV)(y:AV)(q:List AV):pC f (x::r) (y::q)=ob (f x y) λl=>ob (pC f r q) λm=>some (u8 l m):=rfl
theorem U6(n:Nat)(l:List Int):pC (eF st (n+1)) (l.map λi=>.int (.lit i)) (l.map λi=>.int (.lit i))=some [true]:=by
 induction l with
 |nil=>rfl
 |cons i r ih=>exact (Dh ..).trans (bQ (Gk n i) (bQ ih rfl))
theorem Vk{n:Nat}(N:Note):eF st (n+2) N.av N.av=some [true]:=by
 cases N with
 |int i=>exact Gk (n+1) i
 |row w l=>
  have e:eF st (n+1) (.str (.lit w)) (.str (.lit w))=some [true]:=by show some [ag (enc w) (enc w)]=_;exact ae (beq_refl (enc w)) rfl
  have z:len (AV.str (.lit w)::l.map λi=>AV.int (.lit i))=(l.map λi=>AV.int (.lit i)).length+1:=len_eq _;show eqQ (eF st (n+1)) (.str (.lit w)::l.map λi=>.int (.lit i)) (.str (.lit w)::l.map λi=>.int (.lit i))=_;unfold eqQ;rw [z];exact (Dh ..).trans (bQ e (bQ (U6 n l) rfl))
structure Two(s:Shared)(n:Nat)(l1 l2:Addr)(us vs:Array Value)(n1 n2:Nat):Prop where
 a:s.heap.get? l1=some (fI us n1)
 b:s.heap.get? l2=some (fI vs n2)
section
variable{n n1 n2:Nat}{l1 l2:Addr}{us vs:Array Value}{l:List Bool}(T:Two s n l1 l2 us vs n1 n2)
include T
theorem TD(h:l1=l2):us=vs:=by have q:=af (T.a.symm.trans (h▸T.b));exact (Data.seq.inj (congrArg Obj.data q)).1
theorem Fz{k:Bool}(h1:k∈l)(h2:∀A:Around,A.units+(n+1)< cLine->RcAt A s (.ref l1) (.ref l2) k/\RcNeAt A s (.ref l1) (.ref l2) (!k))(h3:us=vs->true∈l):jD s (n+1) (.ref l1) (.ref l2) l:=by
 by_cases q:l1=l2
 ·have t:=h3 (TD T q)
  exact ⟨k,true,h1,t,λA hA=>⟨(h2 A hA).1,(h2 A hA).2,q▸EqAt.same _⟩,λ_=>t⟩
 ·exact ⟨k,k,h1,h1,λA hA=>⟨(h2 A hA).1,(h2 A hA).2,EqAt.of_refs q (h2 A hA).1⟩,λe=>absurd (Value.ref.inj e) q⟩
theorem Er(hs:us.size≠vs.size)(h:false∈l):jD s (n+1) (.ref l1) (.ref l2) l:=Fz T h (λA hA=>have hA:=dy (fh _ _) hA;⟨RcAt.lists_lengths (dP T.a) (dP T.b) (bne_iff_ne.mpr hs) hA,RcNeAt.lists_lengths (dP T.a) (dP T.b) (bne_iff_ne.mpr hs) hA⟩) λq=>absurd (congrArg Array.size q) hs
theorem xY(hs:us.size=vs.size){e:Nat->Bool}(h:(d6 us.size).all e∈l)(he:∀A:Around,A.units+n< cLine->∀j (h1:j< us.size) (h2:j< vs.size),EqAt A s us[j] vs[j] (e j))(h3:us=vs->true∈l):jD s (n+1) (.ref l1) (.ref l2) l:=Fz T h (λA hA=>have hB:=dy (fh _ _) hA;have hu:A.in1.units+n< cLine:=dy (ck (dx A.units 1 n)) hA;⟨RcAt.lists (dP T.a) (dP T.b) hs hB λj p1 p2=>he A.in1 hu j p1 p2,RcNeAt.lists (dP T.a) (dP T.b) hs hB λj p1 p2=>he A.in1 hu j p1 p2⟩) h3
end
inductive IT(J:G)(s:Shared)(k:Nat):Value->Prop
 |mk (l:Addr) (vs:Array Value) (n:Nat) (N:List Note) (h1:s.heap.get? l=some (fI vs n)) (h2:J.pP[k]?=some N) (h3:ay J (N.map Note.av) vs.toList):IT J s k (.ref l)
theorem GC(R:Rel P J st s){a:AV}{u:Value}{p:Option Nat×List AV}{k:Nat}(h:(ob (refOf a) λi=>ob (st.get i) asList)=some p)(hp:p.1=some k)(hl:ag (len p.2) 0=true)(hu:VR J a u):IT J s k u:=by
 refine ah h λi h3 h1=>?_;refine ah h1 λo h4 h2=>?_;rw [fq h3] at hu;refine am hu.mP λl aq hi=>?_;have aa:=aq;clear hu aq;subst aa;refine bp (R.objs i o (R.lt hi) h4) λa' o' e1 e2 e3=>?_;have aa:=af (hi.symm.trans e1);clear e1;subst aa;rw [mz h2,hp,Mx.mp ((len_eq _).symm.trans (aH hl))] at e3;obtain ⟨vs,n,rfl,e3⟩:=e3;cases e3 with
 |mk N p q g1 g2 g3 g4 g5=>exact ⟨l,vs,n,N,e2,g1,g3.trans ((congrArg (p++ ·) g5.n).trans (i8 p))▸g4⟩
theorem Ua{n:Nat}(h:deep (eF st n)=true):∃m,n=m+2:=by
 match n,h with
 |0,h=>exact aE h
 |1,h=>exact aE h
 |m+2,_=>exact ⟨m,rfl⟩
theorem SR{n:Nat}{a b:AV}{u v:Value}(R:Rel P J st s)(H:∀(a b:AV) (l:List Bool) (u v:Value),eF st n a b=some l->VR J a u->VR J b v->jD s n u v l)
  (h:(xO st a b&&deep (eF st n))=true) (hu:VR J a u) (hv:VR J b v):jD s (n+1) u v [true]:=by
 refine aB h λh hd=>?_;refine aF h λp h1 h=>?_;refine aF h λq h2 h=>?_;refine aF h λk h3 h=>?_;refine aF h λj h4 h=>?_;refine aB h λh5 h=>?_;refine aB h λh6 h7=>?_;have aa:=aH h5;clear h h5;subst aa;refine aQ (Ua hd) λm aq=>?_;subst aq;cases GC R h1 h3 h6 hu with
 |mk l1 us n1 N e1 e2 e3=>
  cases GC R h2 h4 h7 hv with
  |mk l2 vs n2 N' f1 f2 f3=>
   obtain rfl:=af (e2.symm.trans f2);have sz:us.size=vs.size:=e3.length.trans f3.length.symm;refine xY (e:=λ_=>true) ⟨e1,f1⟩ sz (fe.mpr (be.mpr λ_ _=>rfl)) (λA hA j g1 g2=>?_) λ_=>.head _;refine cx (l:=N) (iZ g1 (e3.length.trans (dz _))) λx hx=>?_;have hav:(N.map Note.av)[j]?=some x.av:=ib .. ▸congrArg (Option.map Note.av) hx;refine am (e3.get hav) λy y1 y2=>?_;refine am (f3.get hav) λz z1 z2=>?_;have gy:us[j]=y:=af ((Ms g1).symm.trans (iY.symm.trans y1));have gz:vs[j]=z:=af ((Ms g2).symm.trans (iY.symm.trans z1));cases H _ _ _ _ _ (Vk x) y2 z2 with
   |mk k k' i1 i2 i3 i4=>exact gy▸gz▸fe.mp i2▸(i3 A hA).2.2
theorem E7(R:Rel P J st s){a:AV}{x:List AV}{u:Value}(h:seqItems st a=some x)(na:cy a=true)(hu:VR J a u):∃l us n,u= .ref l/\s.heap.get? l=some (fI us n)/\ay J x us.toList:=by
 refine bp (ux R h hu) λl us ai hus k=>?_;have aa:=ai;clear hu ai;subst aa;obtain ⟨-,n,q⟩ | ⟨q, -⟩:=k
 ·exact ⟨l,us,n,rfl,q,hus⟩
 ·exact cH (na.symm.trans q)
theorem VH{n n1 n2:Nat}{l1 l2:Addr}{us vs:Array Value}{x y:List AV}{l:List Bool}(T:Two s n l1 l2 us vs n1 n2)(H:∀(a b:AV) (l:List Bool) (u v:Value),eF st n a b=some l->VR J a u->VR J b v->jD s n u v l)(c:eqQ (eF st n) x y=some l)(hu:ay J x us.toList)(hv:ay J y vs.toList):jD s (n+1) (.ref l1) (.ref l2) l:=by
 have e1:us.size=x.length:=hu.length;have e2:vs.size=y.length:=hv.length;obtain ⟨z,c⟩ |c:=dj c
 ·rw [len_eq,len_eq] at z c
  have c:=af c;cases w:ag x.length y.length with
  |true=>rw [w] at c;have w:=aH w;have t:true∈l:=c▸ .head _;have h0:us.size=0:=e1.trans ((dw.mp z).elim aH λz=>w.trans (aH z));refine xY (e:=λ_=>true) T (e1.trans (w.trans e2.symm)) ?_ (λA hA j p1=>absurd (h0▸p1) (oj j)) λ_=>t;rw [h0];exact t
  |false=>rw [w] at c;exact Er T (λq=>dC w (e1.symm.trans (q.trans e2))) (c▸ .head _)
 ·cases Un (c:=n) H c hu hv with
  |mk i1 i2 i3=>
   by_cases q:us.size=vs.size
   ·refine am (i3 q) λe h3 h4=>?_
    exact xY T q h4 (λA hA j p1 p2=>h3 A hA j p1 p2) λe=>i1 (congrArg qj e)
   ·exact Er T q (i2 q)
theorem FW(R:Rel P J st s)(n:Nat):∀(a b:AV) (l:List Bool) (u v:Value),eF st n a b=some l->VR J a u->VR J b v->jD s n u v l:=by
 induction n with
 |zero=>exact λa b l u v h=>aD h
 |succ n ih=>
  intro a b l u v h hu hv;have h:oe (LJ st (eF st n) a b) some (pV st a b)=some l:=h;cases c:pV st a b with
  |some l'=>
   rw [c] at h;have aa:=af h;clear h;subst aa;cases E5 c R hu hv with
   |mk h1 h2 h3=>exact ⟨_,_,h1,h1,λA _=>h2 A,λq=>h3 q▸h1⟩
  |none=>
   rw [c] at h;refine bb (show bf (cy a&&cy b) (bf (xO st a b&&deep (eF st n)) (some [true]) (ob (seqItems st a) λx=>ob (seqItems st b) λy=>eqQ (eF st n) x y)) none=some l from h) λhn h=>?_;obtain ⟨sp,h⟩ |h:=dj h
   ·exact af h▸SR R ih sp hu hv
   ·refine aB hn λna nb=>?_
    refine ah h λx h1 c=>?_;refine ah c λy h2 c=>?_;refine mJ (E7 R h1 na hu) λl1 us n1 bC g1 hus=>?_;have aa:=bC;clear hu bC;subst aa;refine mJ (E7 R h2 nb hv) λl2 vs n2 bC g2 hvs=>?_;have aa:=bC;clear hv bC;subst aa;exact VH ⟨g1,g2⟩ ih c hus hvs
end
end
section
open PySem.SeqAt
noncomputable def G.iJ(J:G)(i:Int):G:={J with iI:=J.iI++ [i]}
theorem G.qM(J:G)(i:Int):J.Le (J.iJ i):=⟨bT _,⟨[i],rfl⟩,bT _,rfl,rfl,rfl,bT _,λ_ _ e=>e,rfl,λ_ h=>h⟩
section
variable{P:Pr}{J:G}{st:St}{s:Shared}{A:Around}{E:Value->Shared->Prop}
theorem Rel.jB(R:Rel P J st s)(i:Int)(hn:st.ni<=2000):Rel P (J.iJ i) (st.jB none) s/\(J.iJ i).iI[st.ni]?=some i:=by
 have le:=J.qM i;have lt:∀{k},k< st.ni+1->k< 2048:=λh=>bz h (i7 (aI hn (by decide)));refine ⟨R.data le rfl rfl rfl rfl rfl rfl (TM.iy _ _ _ _ R.eX) (by show (J.iI++ [i]).length=st.ni+1;refine ae cJ (ae R.cY ?_);rfl) R.lenV R.eU (λk lo hi hk e=>?_) (λp hp=>aN le.iI (R.sub p hp)) λp hp=>(R.aU p hp).mono le,R.cY▸Mr⟩;have e:(st.bnd.put 11 st.ni none).get k=some (lo,hi):=e;rw [TM.mL none 11 st.bnd st.ni k R.eX (lt (og _)) (lt hk)] at e
 by_cases q:k=st.ni
 ·rw [if_pos q] at e;exact aD e
 ·rw [if_neg q] at e
  exact (R.bnd k lo hi (Cj (aen hk) q) e).imp λi h=>⟨aN le.iI h.1,h.2⟩
theorem Rel.fM(R:Rel P J st s)(k:Nat)(o:Option Nat)(h:fF J (k,o)):Rel P J (st.fM k o) s:={R with aU:=cT.mpr ⟨h,R.aU⟩}
theorem VR.fl1{a b:AV}{v:Value}(h:VR J (.bw [a]) v)(f:∀v,VR J a v->VR J b v):VR J (.bw [b]) v:=by
 cases h.sH with
 |mk h1 r=>refine am r.l1 λx e hx=>?_;exact .bw h1 (e▸ .cons (f x hx) .nil)
theorem yV{e e':AI}{v:Value}(h:VR J (cD e) v)(he:∀i,e.ev J=some i->e'.ev J=some i):VR J (cD e') v:=by
 unfold cD at h ⊢;cases h.pp with
 |mk h1 h2 h3 h4 h5 h6 h8 h9 hz r=>refine .inst h1 h2 h3 h4 h5 h6 h8 h9 hz ?_;refine tF r.c λ_ _ x1 v1 e0 a1 a2 a3 a4 r1=>?_;cases e0;refine tF r1.c λ_ _ x2 v2 e0 b1 b2 b3 b4 r2=>?_;cases e0;exact .cons a1 a2 a3 a4 (.cons b1 b2 (λq _=>by rcases q with q |q<;>exact absurd q (by decide)) (b4.fl1 λv q=>by obtain ⟨i,t,rfl,hi⟩:=q.int_inv;exact .int t (he i hi)) r2)
theorem qz{l:List (Nat×Option Nat)}{k:Nat}{o:Option Nat}(h:eA l k=some o):(k,o)∈l:=by
 induction l with
 |nil=>exact aD h
 |cons p r ih=>
  have h:bf (ag p.1 k) (some p.2) (eA r k)=some o:=h;cases c:ag p.1 k with
  |true=>refine bH (aH c) (bH (af (kN c h)) ?_);exact .head _
  |false=>exact .tail _ (ih (ma c h))
theorem w6(R:Rel P J st s){e:Option EV}{r:Option Value}{l:List Way}(h:uU st e=some l)(hr:DR J e r):
  ∃p∈l,∃J',J.Le J'/\Rel P J' p.2 s/\(match p.1 with |none=>r=none |some a=>∃v,r=some v/\VR J' a v):=by
 cases e with
 |none=>cases h;exact ⟨_,.head _,J,.refl _,R,hr⟩
 |some e=>
  cases e with
  |val a=>cases h;obtain ⟨v,h1,h2⟩:=hr;exact ⟨_,.head _,J,.refl _,R,v,h1,h2⟩
  |unk=>cases h
  |ov k=>
   refine am hr λo h1 h2=>?_
   have h:(match eA st.aU k with
    |some o=>match o with
     |none=>some [(none,st)]
     |some j=>some [(some (cD (.var j)),st)]
    |none=>bf (aM st.ni 2000) (some [(none,st.fM k none),(some (cD (.var st.ni)),(st.jB none).fM k (some st.ni))]) none)=some l:=h
   cases c:eA st.aU k with
   |some o'=>
    rw [c] at h;have q:=R.aU _ (qz c);cases o' with
    |none=>cases h;have q:J.oO[k]?=some none:=q;rw [h1] at q;cases q;exact ⟨_,.head _,J,.refl _,R,h2⟩
    |some j=>cases h;refine am q λi q1 q2=>?_;rw [h1] at q1;cases q1;refine am h2 λv h3 h4=>?_;exact ⟨_,.head _,J,.refl _,R,v,h3,yV h4 λi' z=>by cases z;exact q2⟩
   |none=>
    rw [c] at h;cases hn:aM st.ni 2000 with
    |false=>simp only [hn] at h;cases h
    |true=>
     simp only [hn] at h;cases h;cases o with
     |none=>exact ⟨_,.head _,J,.refl _,R.fM k none h1,h2⟩
     |some i=>refine am h2 λv h3 h4=>?_;refine au (R.jB i (bt hn)) λR' h5=>?_;exact ⟨_,.tail _ (.head _),J.iJ i,J.qM i,R'.fM k (some st.ni) ⟨i,h1,h5⟩,v,h3,yV (h4.mono (J.qM i)) λi' z=>by cases z;exact h5⟩
  |oi k=>
   refine am hr λo h1 h2=>?_
   have h:(match eA st.aU k with
    |some o=>match o with
     |none=>some [(none,st)]
     |some j=>some [(some (.int (.var j)),st)]
    |none=>bf (aM st.ni 2000) (some [(none,st.fM k none),(some (.int (.var st.ni)),(st.jB none).fM k (some st.ni))]) none)=some l:=h
   cases c:eA st.aU k with
   |some o'=>
    rw [c] at h;have q:=R.aU _ (qz c);cases o' with
    |none=>cases h;have q:J.oO[k]?=some none:=q;rw [h1] at q;cases q;exact ⟨_,.head _,J,.refl _,R,h2⟩
    |some j=>cases h;refine am q λi q1 q2=>?_;rw [h1] at q1;cases q1;refine aQ h2 λt h3=>?_;exact ⟨_,.head _,J,.refl _,R,_,h3,.int _ q2⟩
   |none=>
    rw [c] at h;cases hn:aM st.ni 2000 with
    |false=>simp only [hn] at h;cases h
    |true=>
     simp only [hn] at h;cases h;cases o with
     |none=>exact ⟨_,.head _,J,.refl _,R.fM k none h1,h2⟩
     |some i=>refine aQ h2 λt h3=>?_;refine au (R.jB i (bt hn)) λR' h5=>?_;exact ⟨_,.tail _ (.head _),J.iJ i,J.qM i,R'.fM k (some st.ni) ⟨i,h1,h5⟩,_,h3,.int _ h5⟩
theorem CV(x:Str)(v:Value):Value.isStrOf x v=v.isStr x:=by cases v<;>rfl
theorem tO(en:Array DictEntry)(x:Str):findBy (strKind pw P.W.w).is en x=nsFind en x:=by
 unfold nsFind;have:(strKind pw P.W.w).is=λn v=>Value.isStr v n:=by funext n v;exact CV n v
 exact ae this rfl
theorem t8(R:Rel P J st s){i cap:Nat}{es:List (Nm×EV)}{u:Value}(h:st.get i=some (.dict cap false es))(hu:VR J (.ref i) u):
  ∃a en,u= .ref a/\J.aA[i]?=some a/\J.fz a=none/\(a==sysModules)=false/\s.heap.MapOf (strKind pw P.W.w) a (λx=>nsFind en x)/\∀x:Str,DR J (lk (nm x) es) (nsFind en x):=by
 obtain ⟨a,o,rfl,ha,ho,⟨en,n,h0,h1,h2,h3,h4,h5⟩,hz⟩:=R.at_ h hu;refine au (h2 rfl) λq1 q2=>?_;rw [R.wd] at q2;refine ⟨a,en,rfl,ha,hz,?_,⟨o,en,n,ho,q1,h1,q2,λk=>tO en k⟩,h5⟩;have:=(R.range a (bx ha)).1;have z:=P.W.big;exact beq_false_of_ne λe=>by subst e;exact absurd (aI z this) (by decide)
theorem qD{a:AV}{n:List Nat}{u:Value}(h:strLit a=some n)(hu:VR J a u):∃x t,u= .str x t/\nm x=enc n/\x.cps.toList=n:=by
 refine ah h λw h1 h2=>?_;cases a with
 |str z=>
  cases h1;cases ij h2;cases hu with
  | @str _ x t hx=>have hx:some n=some x.cps.toList:=hx;cases hx;exact ⟨x,t,rfl,rfl,rfl⟩
 |_=>cases h1
theorem X9{l1 l2:List Bool}{k q:Bool}(h1:k∈l1)(h2:q∈l2):(k||q)∈BU l1 l2:=gB (m:=((k||q)∈ ·)) (λc=>by obtain rfl:=ru c h1;exact .head _) λ_=>gB (m:=((k||q)∈ ·)) (λc=>by obtain rfl:=ru c h1;exact h2) λ_=>gB (m:=((k||q)∈ ·)) (λc=>by obtain rfl:=ru c h2;exact (NG k).symm▸ .head _) λ_=>lg _
theorem DV{a:AV}{u:Value}(R:Rel P J st s)(hu:VR J a u){xs:List AV}:∀{vs:List Value} {l:List Bool},zF st a xs=some l->ay J xs vs->vs.any (λy=>hH y u)∈l/\∀y∈vs,yX s y u (hH y u):=by
 induction xs with
 |nil=>exact λ {vs l} h hv=>hv.n▸⟨gu h,λy hy=>nomatch hy⟩
 |cons x xs ih=>
  intro vs l h hv;obtain ⟨v,vs,rfl,hv,hvs⟩:=hv.c;refine ah (show ob (pV st x a) (λl=>ob (zF st a xs) λl'=>some (BU l l'))=some l from h) λl1 h1 h2=>?_;refine ah h2 λl2 h3 h4=>?_;obtain ⟨i1,i2⟩:=ih h3 hvs;cases E5 h1 R hv hu with
  |mk j1 j2 j3=>exact ⟨af h4▸X9 j1 i1,cT.mpr ⟨j2,i2⟩⟩
end
end
section
open PySem.SeqAt
section
variable{P:Pr}{J:G}{st:St}{s:Shared}{A:Around}{E:Value->Shared->Prop}
noncomputable def nv(u:Value):Bool:=ag u.ctorIdx Value.none.ctorIdx
theorem Ie{a:AV}{u:Value}{t:Bool}(h:isNone a=some t)(hu:VR J a u):nv u=t:=by
 cases a with
 |bM=>exact aQ hu.out λ_ e=>ae e (af h)
 |int=>exact ba hu.out λ_ _ e _=>ae e (af h)
 |str=>exact ba hu.out λ_ _ e _=>ae e (af h)
 |ref=>exact am hu.out λ_ e _=>ae e (af h)
 |inst=>cases hu.pp with |mk=>exact af h
 |d9=>cases hu.LL with |mk=>exact af h
 |bw=>cases hu.sH with |mk=>exact af h
 |tup=>cases hu.B5 with |mk=>exact af h
 |told=>cases hu.BZ with |mk=>exact af h
 |_=>first |exact aD h |exact ae hu.out (af h)
theorem Id{u:Value}:compareOp .Is u .none=pure (.bool (nv u))/\compareOp .IsNot u .none=pure (.bool !(nv u)):=by cases u<;>exact ⟨rfl,rfl⟩
theorem Rq{l:List Bool}{b:Bool}{Q:Value->Shared->Prop}{t:Nat}(hb:b∈l)(R:Rel P J st s)(out:Out P J (jE l st) Q):Q (.bool b) {s with toks:=t}:=out (.bool b,st) (by unfold jE;rw [dD];exact jN hb) J _ _ (.refl _) (R.toks t) (.bool b)
theorem oC{l:List Bool}{b:Bool}{Q:Value->Shared->Prop}(hb:b∈l)(R:Rel P J st s)(out:Out P J (jE l st) Q):Q (.bool b) s:=Rq (t:=s.toks) hb R out
noncomputable def Aq(P:Pr)(J:G)(s:Shared)(u v:Value)(l:List (Bool×St)):Prop:=∃k:Bool,(∀{A:Around} {E Q:Value->Shared->Prop},Q (.bool k) s->Q (.bool k) {s with toks:=s.toks+1}->wpAny (Md P) A (compareOp .In u v) Q E s)/\(∀{A:Around} {E Q:Value->Shared->Prop},Q (.bool !k) s->Q (.bool !k) {s with toks:=s.toks+1}->wpAny (Md P) A (compareOp .NotIn u v) Q E s)/\∃p∈l,p.1=k/\∃J',J.Le J'/\Rel P J' p.2 s
theorem yB{a b:AV}{u v:Value}{l:List (Bool×St)}{xs:List AV}(h1:seqItems st b=some xs)(h:vi xs a st=some l)(R:Rel P J st s)(hu:VR J a u)(hv:VR J b v):Aq P J s u v l:=by
 refine ah h λl' h3 h4=>?_;have aa:=af h4;clear h h4;subst aa;cases lz R h1 hv with
 | @li c vs n hvs _ hl=>refine au (DV R hu h3 hvs) λi1 i2=>?_;have i2:∀{A:Around},∀y,y∈vs->EqAt A.in1 s y u (hH y u):=λy hy=>(i2 y (MF.mpr hy) _).2.2;rw [MX] at i1;exact ⟨vs.any (λy=>hH y u),λq _=>in_listAt _ (dP hl) i2 q,λq _=>notIn_listAt _ (dP hl) i2 q,(vs.any (λy=>hH y u),st),dD _ l'▸jN i1,rfl,J,.refl _,R⟩
 | @tp c vs hvs _ hl=>refine au (DV R hu h3 hvs) λi1 i2=>?_;have i2:∀{A:Around},∀y,y∈vs->EqAt A.in1 s y u (hH y u):=λy hy=>(i2 y (MF.mpr hy) _).2.2;rw [MX] at i1;exact ⟨vs.any (λy=>hH y u),λq _=>in_tupleAt _ hl i2 q,λq _=>notIn_tupleAt _ hl i2 q,(vs.any (λy=>hH y u),st),dD _ l'▸jN i1,rfl,J,.refl _,R⟩
theorem RP{c:Bool}{es:List (Nm×EV)}{a:AV}{l:List (Bool×St)}(h:HJ c es a st=some l):c=false/\AF es a st=some l:=by
 cases c with
 |true=>exact aD h
 |false=>exact ⟨rfl,h⟩
theorem abx{i cap:Nat}{es:List (Nm×EV)}{a:AV}{u v:Value}{l:List (Bool×St)}(h1:st.get i=some (.dict cap false es))(h:AF es a st=some l)(R:Rel P J st s)(hu:VR J a u)(hv:VR J (.ref i) v):Aq P J s u v l:=by
 refine ah h λn h3 h4=>?_;refine ah h4 λl' h5 h6=>?_;have aa:=af h6;clear h h4 h6;subst aa;refine bp (qD h3 hu) λx t ai hx _=>?_;have aa:=ai;clear hu ai;subst aa;refine tI (t8 R h1 hv) λd en ai hd hz hs hm hf=>?_;have aa:=ai;clear hv ai;subst aa;obtain ⟨⟨w,st'⟩,hp,J',hle,R',hr⟩:=w6 R h5 (hx▸hf x);refine ⟨(nsFind en x).isSome,λ_ q=>wpAny_in_of (strKind_is pw _ x t) hs hm q,λ_ q=>wpAny_notIn_of (strKind_is pw _ x t) hs hm q,(w.isSome,st'),dD _ l'▸jN (f:=λp:Way=>(p.1.isSome,p.2)) hp,?_,J',hle,R'⟩;cases w with
 |none=>refine ae (show nsFind en x=none from hr) ?_;rfl
 |some w=>refine am hr λv e' _=>?_;refine ae e' ?_;rfl
theorem HL{a b:AV}{u v:Value}{l:List (Bool×St)}(h:AE st a b=some l)(R:Rel P J st s)(hu:VR J a u)(hv:VR J b v):Aq P J s u v l:=by
 obtain ⟨i,e,h⟩ |h:=cR h
 ·rw [fq e] at hv
  refine ah h λo h1 h=>?_;obtain ⟨q,e2,h⟩ |h:=cR h
  ·refine au (RP h) λc h=>?_
   exact abx (by exact ae h1 (ae (qt e2) (ae c rfl))) h R hu hv
  ·refine ah h λq e2 h=>?_
   refine ah h λys h3 h4=>?_;exact yB (b:=.ref i) (bQ (bQ h1 e2) h3) h4 R hu hv
 ·obtain ⟨w,e,h⟩ |h:=cR h
  ·exact yB (b:=.bw w) rfl h R hu (qS e▸hv)
  ·refine ah h λw e h=>?_
   exact yB (b:=.tup w) rfl h R hu (uc e▸hv)
theorem xz{a b:AV}{f:AI->AI->Option (List (AV×St))}{l:List (AV×St)}(h:gZ a b f=some l):∃x y,a= .int x/\b= .int y/\f x y=some l:=by refine ah h λx h1 h2=>?_;refine ah h2 λy h3 h4=>?_;exact ⟨x,y,dl h1,dl h3,h4⟩
inductive IX(J:G)(f:AI->AI->List Bool)(st:St)(l:List (AV×St)):Value->Value->Prop
 |mk {e e':AI} {i j:Int} {t t':Nat} (h1:e.ev J=some i) (h2:e'.ev J=some j) (h3:jE (f e e') st=l):IX J f st l (.int i t) (.int j t')
theorem ue{a b:AV}{u v:Value}{f:AI->AI->List Bool}{l:List (AV×St)}(h:gZ a b (λx y=>some (jE (f x y) st))=some l)(hu:VR J a u)(hv:VR J b v):IX J f st l u v:=by refine bp (xz h) λx y ai bC h'=>?_;subst ai;subst bC;refine ba hu.int_inv λi t ai hi=>?_;have aa:=ai;clear hu ai;subst aa;refine ba hv.int_inv λj t' ai hj=>?_;have aa:=ai;clear hv ai;subst aa;exact ⟨hi,hj,af h'⟩
theorem Gc{Q:Value->Shared->Prop}{l:List (AV×St)}{p:Bool×St}{k b:Bool}(hp:(AV.bool b,p.2)∈l)(e:b=k)(R:∃J',J.Le J'/\Rel P J' p.2 s)(out:Out P J l Q):Q (.bool k) s/\Q (.bool k) {s with toks:=s.toks+1}:=by refine am R λJ' hle R'=>?_;subst e;exact ⟨out _ hp J' _ _ hle R' (.bool _),out _ hp J' _ _ hle (R'.toks _) (.bool _)⟩
theorem dn(i j:Int):(!decide (j< i))=decide (i<=j):=by
 by_cases q:j< i
 ·refine ae (decide_eq_true q) (ae (decide_eq_false (qp.mpr q)) ?_);rfl
 ·refine ae (decide_eq_false q) (ae (decide_eq_true (jb.mp q)) ?_);rfl
theorem WR{Q:Value->Shared->Prop}{op:CmpOp}{a b:AV}{u v:Value}{l:List (AV×St)}(h:zq op a b st=some l)(hU:A.units<=600)(R:Rel P J st s)(hu:VR J a u)(hv:VR J b v)(out:Out P J l Q):wpAny (Md P) A (compareOp op u v) Q E s:=by
 have hline:cLine=9900:=rfl;cases op with
 |Eq=>
  refine ah h λl' h1 h2=>?_;obtain rfl:=af h2;cases FW R 3 a b l' u v h1 hu hv with
  |mk k k' hk _ h3 _=>exact EqBoolInt.of_rc (h3 A (dy (jM hU 3) (by decide:600+3< cLine))).1 (oC hk R out)
 |NotEq=>
  refine ah h λl' h1 h2=>?_;obtain rfl:=af h2;refine ah h1 λl2 h3 h4=>?_;have aa:=af h4;clear h1 h4;subst aa;cases FW R 3 a b l2 u v h3 hu hv with
  |mk k k' hk _ h3 _=>exact EqBoolInt.of_rcne (h3 A (dy (jM hU 3) (by decide:600+3< cLine))).2.1 (oC (t6 hk) R out)
 |Lt=>obtain ⟨hi,hj,rfl⟩:=ue (f:=λx y=>ltI st x y) h hu hv;exact PyProof.Rows.lt_int (oC (uo R hi hj) R out)
 |Gt=>obtain ⟨hi,hj,rfl⟩:=ue (f:=λx y=>ltI st y x) h hu hv;exact PyProof.Rows.gt_int (oC (uo R hj hi) R out)
 |LtE=>obtain ⟨hi,hj,rfl⟩:=ue (f:=λx y=>lX (ltI st y x)) h hu hv;exact PyProof.Rows.le_int (dn _ _▸oC (t6 (uo R hj hi)) R out)
 |GtE=>obtain ⟨hi,hj,rfl⟩:=ue (f:=λx y=>lX (ltI st x y)) h hu hv;exact PyProof.Rows.ge_int (dn _ _▸oC (t6 (uo R hi hj)) R out)
 |Is=>refine bb h λc h=>?_;refine ah h λt h1 h2=>?_;have aa:=af h2;clear h h2;subst aa;rw [ip c] at hv;obtain rfl:v= .none:=hv.out;exact ae Id.1 (ae (Ie h1 hu) (aT (out _ (.head _) J _ _ (.refl _) R (.bool _))))
 |IsNot=>refine bb h λc h=>?_;refine ah h λt h1 h2=>?_;have aa:=af h2;clear h h2;subst aa;rw [ip c] at hv;obtain rfl:v= .none:=hv.out;exact ae Id.2 (ae (Ie h1 hu) (aT (out _ (.head _) J _ _ (.refl _) R (.bool _))))
 |In=>refine ah h λl' h1 h2=>?_;have aa:=af h2;clear h h2;subst aa;refine DL (HL h1 R hu hv) λk q1 _ p hp e R'=>?_;refine au (Gc (dD (λp:Bool×St=>(AV.bool p.1,p.2)) l'▸jN (f:=λp:Bool×St=>(AV.bool p.1,p.2)) hp) e R' out) λz1 z2=>?_;exact q1 z1 z2
 |NotIn=>refine ah h λl' h1 h2=>?_;have aa:=af h2;clear h h2;subst aa;refine DL (HL h1 R hu hv) λk _ q1 p hp e R'=>?_;refine au (Gc (dD (λp:Bool×St=>(AV.bool !p.1,p.2)) l'▸jN (f:=λp:Bool×St=>(AV.bool !p.1,p.2)) hp) (congrArg (!·) e) R' out) λz1 z2=>?_;exact q1 z1 z2
end
end
theorem xg{J:G}{a b:AI}{i j:Int}(ha:a.ev J=some i)(hb:b.ev J=some j):(iJ a b).ev J=some (i+j):=nr (m:=λe:AI=>e.ev J=some (i+j)) (bQ ha (bQ hb rfl)) λx y h1 h2=>by rw [gg h1] at ha;rw [gg h2] at hb;exact af ha▸af hb▸rfl
theorem Fe{J:G}{a b:AI}{i j:Int}(ha:a.ev J=some i)(hb:b.ev J=some j):(vq a b).ev J=some (i* j):=nr (m:=λe:AI=>e.ev J=some (i* j)) (bQ ha (bQ hb rfl)) λx y h1 h2=>by rw [gg h1] at ha;rw [gg h2] at hb;exact af ha▸af hb▸rfl
theorem Gn{J:G}{a:AI}{m:Nat}{i:Int}(ha:a.ev J=some i):(BQ a m).ev J=some (i.fmod m):=kG (m:=λe:AI=>e.ev J=some (i.fmod m)) (λ_=>bQ ha rfl) λx h1=>by rw [gg h1] at ha;exact af ha▸rfl
theorem FO{J:G}{a:AI}{m:Nat}{i:Int}(ha:a.ev J=some i):(LH a m).ev J=some (i.fdiv m):=kG (m:=λe:AI=>e.ev J=some (i.fdiv m)) (λ_=>bQ ha rfl) λx h1=>by rw [gg h1] at ha;exact af ha▸rfl
section
variable{P:Pr}{J:G}{st:St}{s:Shared}{A:Around}{E:Value->Shared->Prop}
set_option tactic.hygienic true in
theorem TT{x:Int}(h1: -9223372036854775808< x)(h2:x< 9223372036854775808):Builtin.Int.intBits x<=64:=by
 unfold Builtin.Int.intBits
 split
 ·exact ig _
 ·rename_i h0
  have h0:x≠0:=λq=>h0 (by subst q;rfl);have:x.natAbs.log2< 63:=by
   rw [Nat.log2_lt (Int.natAbs_ne_zero.mpr h0)];show x.natAbs< 9223372036854775808
   omega
  exact k9 this
theorem DB(R:Rel P J st s){e:AI}{i:Int}(h:rH st e=true)(he:e.ev J=some i):Builtin.Int.intBits i<=64:=by refine aF h λp c h=>?_;refine au (jc R e c he) λq1 q2=>?_;exact TT (wi (lF (bq h).1) q1) (tx q2 (lF (bq h).2))
theorem gT{Q:Value->Shared->Prop}{e:AI}{i:Int}{t t':Nat}(he:e.ev J=some i)(R:Rel P J st s)(out:Out P J [(AV.int e,st)] Q):Q (.int i t) {s with toks:=t'}:=out _ (.head _) J _ _ (.refl _) (R.toks t') (.int t he)
theorem o6{e:AI}{i j:Int}(h:cZ e=some i)(q:e.ev J=some j):i=j:=by rw [gg h] at q;exact af q
theorem DY{Q:Value->Shared->Prop}{op:Operator}{a b:AV}{u v:Value}{l:List (AV×St)}(h:pe op a b st=some l)(R:Rel P J st s)(hu:VR J a u)(hv:VR J b v)(out:Out P J l Q):wpAny (Md P) A (binaryOp op u v) Q E s/\wpAny (Md P) A (inplaceOp op u v) Q E s:=by
 refine ah h λx h1 h=>?_;refine ah h λy h2 h=>?_;obtain rfl:=dl h1;obtain rfl:=dl h2;refine ba hu.int_inv λi t ai hi=>?_;subst ai;refine ba hv.int_inv λj t' ai hj=>?_;subst ai;clear hu hv h1 h2;cases op with
 |Add=>obtain rfl:=af h;exact ⟨PyProof.Rows.add_int (gT (xg hi hj) R out),PyProof.Rows.iadd_int (gT (xg hi hj) R out)⟩
 |Sub=>refine ah h λz h1 h2=>?_;obtain rfl:=o6 h1 hj;have aa:=af h2;clear h;subst aa;have q:(iJ x (.lit (-z))).ev J=some (i - z):=xg hi rfl;exact ⟨PyProof.Rows.sub_int (gT q R out),PyProof.Rows.isub_int (gT q R out)⟩
 |Mult=>refine bb (show bf (rH st x||rH st y) (some [(AV.int (vq x y),st)]) none=some l from h) λc h2=>?_;have aa:=af h2;clear h;subst aa;have hm:IntMulOk i j:=(dw.mp c).elim (λc=>.of_left (DB R c hi)) λc=>.of_right (DB R c hj);exact ⟨PyProof.Rows.mul_int (gT (Fe hi hj) R out) hm,PyProof.Rows.imul_int (gT (Fe hi hj) R out) hm⟩
 |Mod=>refine ah h λz h1 h2=>?_;refine ah h2 λm h3 h4=>?_;obtain rfl:=o6 h1 hj;have aa:=mG h3;clear h1 h3;subst aa;refine eO h4 λc h4=>?_;obtain rfl:=af h4;have hb:(m:Int)≠0:=ML.mpr (dC c);exact ⟨PyProof.Rows.mod_int' hb (gT (Gn hi) R out),PyProof.Rows.imod_int hb (gT (Gn hi) R out)⟩
 |FloorDiv=>refine ah h λz h1 h2=>?_;refine ah h2 λm h3 h4=>?_;obtain rfl:=o6 h1 hj;have aa:=mG h3;clear h1 h3;subst aa;refine eO h4 λc h4=>?_;have aa:=af h4;clear h h4;subst aa;refine au (jL.mp c) λc1 c2=>?_;have hb:(m:Int)≠0:=ML.mpr (dC c1);have hs:(m:Int).natAbs< 1073741824:=wp λq=>cH ((Cf q).symm.trans c2);exact ⟨PyProof.Rows.floordiv_int hb (gT (FO hi) R out) (.inl (PyProof.noPylong_small hs)),PyProof.Rows.ifloordiv_int hb (gT (FO hi) R out) (.inl (PyProof.noPylong_small hs))⟩
 |Pow=>refine ah h λz h1 h2=>?_;refine ah h2 λm h3 h4=>?_;refine ah h4 λw h5 h6=>?_;refine ah h6 λn h7 h8=>?_;obtain rfl:=o6 h1 hi;obtain rfl:=o6 h5 hj;have aa:=mG h3;clear h1 h3;subst aa;have aa:=mG h7;clear h5 h7;subst aa;refine bb h8 λc h8=>?_;obtain rfl:=af h8;have c1:=bt (bq c).1;have c2:=bt (bq c).2;have q:(AI.lit (.ofNat (m ^ n))).ev J=some ((m:Int) ^ (n:Int).toNat):=congrArg some (Int.natCast_pow m n);have hs:(m:Int).natAbs< 2 ^ 64:=dy c1 (by decide);exact ⟨PyProof.Rows.pow_int_small (oa n) (Cw.mpr (aI c2 (by decide))) hs (gT q R out),PyProof.Rows.ipow_int_small (oa n) (Cw.mpr (aI c2 (by decide))) hs (gT q R out)⟩
 |_=>exact aD h
end
section
variable{P:Pr}{J:G}{st:St}{s:Shared}{A:Around}{E:Value->Shared->Prop}
theorem eK{Y:Type}{l:List Y}{n:Nat}(h:aM (len l) n=true):l.length<=n:=by rw [<-len_eq];exact bt h
theorem SW.IB(R:Rel P J st s){a:SW}{x:List Nat}(h:a.sm=true)(hx:a.ev J=some x):x.length<=30000:=by
 cases a with
 |lit z=>exact af hx▸aI (eK h) (by decide)
 |var p k q=>refine ah hx λw hw e=>?_;refine aB h λh1 h2=>?_;refine bH (af e) (ae cJ (ae cJ ?_));exact i9 (eK h1) (i9 (R.ej _ (bx hw)) (eK h2))
theorem SW.T3{a b c:SW}{x y:List Nat}(h:a.I6 b=some c)(hx:a.ev J=some x)(hy:b.ev J=some y):c.ev J=some (x++y):=by
 cases a with
 |lit z=>
  have aa:=af hx;clear hx;subst aa;cases b with
  |lit w=>have aa:=af h;clear h;subst aa;have aa:=af hy;clear hy;subst aa;exact congrArg some (cW z w)
  |var p k s'=>refine am (cz hy) λw hw e=>?_;rw [<-af h, <-af e, <-jO];exact bQ hw (congrArg (λl=>some (l++(w++s'))) (cW z p))
 |var p k s'=>refine ah (show ob (litS b) (λz=>some (SW.var p k (app s' z)))=some c from h) λz h1 h=>?_;refine am (cz hx) λw hw e=>?_;rw [ij h1] at hy;rw [<-af h, <-af hy, <-af e,jO,jO];exact bQ hw (congrArg (λl=>some (p++(w++l))) (cW s' z))
theorem WN(R:Rel P J st s){a b c:SW}{x y:Str}(h:a.cat b=some c)(hx:a.ev J=some x.cps.toList)(hy:b.ev J=some y.cps.toList):c.ev J=some (x++y).cps.toList/\x.length+y.length<=sizeLine:=by refine bb h λh1 h=>?_;refine aB h1 λh1 h2=>?_;refine ⟨(SW.T3 h hx hy).trans (congrArg some we.symm),aI (i9 (SW.IB R h1 hx) (SW.IB R h2 hy)) (by refine ae sizeLine_eq ?_;decide)⟩
theorem w0{Q:Value->Shared->Prop}{xs:List AV}{vs:Array Value}{l:List (AV×St)}(h:ob (kJ st xs) (λst'=>some [(AV.ref st.n,st')])=some l)(R:Rel P J st s)(hv:ay J xs vs.toList)(out:Out P J l Q):Q (.ref s.heap.objs.size) {s with heap:=s.heap.push {cls:=.type "list",data:=.seq vs}}:=by refine ah h λst' h1 h2=>?_;obtain rfl:=af h2;refine bb h1 λ_ h1=>?_;refine au (fD h1) λq aq=>?_;have aa:=aq;clear h1 aq;subst aa;have hle:=J.d8 s.heap.objs.size;refine au (R.new (o:={cls:=.type "list",data:=.seq vs}) (ao:=.list none xs) rfl ⟨vs,0,rfl,hv.mono hle⟩ q) λR2 h4=>?_;exact out _ (.head _) _ _ _ hle R2 (.ref h4)
theorem qK(R:Rel P J st s){v:AV}{u:Value}{xs:List AV}(h:seqItems st v=some xs)(hn:cy v=true)(hv:VR J v u):∃l vs n,u= .ref l/\ay J xs vs.toList/\s.heap.get? l=some (fI vs n):=by refine bp (ux R h hv) λl vs e h1 h2=>?_;exact h2.elim (λq=>q.2.elim λn q=>⟨l,vs,n,e,h1,q⟩) λq=>aE (q.1.symm.trans hn)
theorem TK{Q:Value->Shared->Prop}{a b:AV}{u v:Value}{l:List (AV×St)}(h:yf a b st=some l)(ha:cy a=true)(R:Rel P J st s)(hu:VR J a u)(hv:VR J b v)(out:Out P J l Q):wpAny (Md P) A (binaryOp .Add u v) Q E s:=by refine bb (show bf (cy b) (ob (seqItems st a) λx=>ob (seqItems st b) λy=>bf (short x&&short y) (ob (kJ st (app x y)) λst'=>some [(AV.ref st.n,st')]) none) none=some l from h) λh0 h=>?_;refine ah h λx h1 h=>?_;refine ah h λy h2 h=>?_;refine bb h λh3 h=>?_;refine aB h3 λh3 h4=>?_;refine mJ (qK R h1 ha hu) λl1 us n1 bC hus k1=>?_;have aa:=bC;clear hu bC;subst aa;refine mJ (qK R h2 h0 hv) λl2 vs n2 bC hvs k2=>?_;have aa:=bC;clear hv bC;subst aa;have e1:us.size=x.length:=(by exact bH hus.length (ae dJ rfl));have e2:vs.size=y.length:=(by exact bH hvs.length (ae dJ rfl));have h3:=eK h3;have h4:=eK h4;exact PySem.P.add_list k1 k2 (w0 (vs:=us++vs) h R (by rw [cW,we];exact hvs.append hus) out) (aI (i9 (aI (ck e1) h3) (aI (ck e2) h4)) (by decide:1000000+1000000<=sizeLine))
theorem Qv{l:Addr}{items:Array Value}{k:Nat}{x:Int}{u:Tok}{Q:Value->Shared->Prop}
  (hl:s.heap.get? l=some (fI items k)) (hlo: -(2 ^ 63:Int)<=x) (hhi:x< 2 ^ 63) (hsz:items.size* x.toNat<=2 ^ 24)
  (h:Q (.ref s.heap.objs.size) {s with heap:=s.heap.push {cls:=.type "list",data:=.seq (Pl (λx1 x2=>x1++x2) #[] (ew (if items.isEmpty=true then 0 else x.toNat) items))}}):
  wpAny (Md P) A (binaryOp .Mult (.ref l) (.int x u)) Q E s:=
 wpAny_binaryOp_repeat_ref (T:="list") (U:="int") (by decide) ⟨_,hl,rfl⟩ (λs'=>typeIs_int s' x u) noFill_list_mul F.fills_int_mul F.slot_int_rmul repeat_list F.slot_int_index.lookup
  (call_meets F.slot_int_rmul (typeIs_int s x u) F.entry_int_rmul (F.args_int_rmul_2 _ _) (int___rmul___int_list x u l items k)
   ⟨hl,rfl,⟨_,hl,rfl⟩,call_meets F.slot_list_mul ⟨_,hl,rfl⟩ F.entry_list_mul (F.args_list_mul_2 _ _)
    (AutoListH.list___mul___list_int_3 l items k x u (by simp [Builtin.List.listFitsIndex];omega) (by omega) (by simp [Builtin.List.listTooLong,sizeLine];omega))
    ⟨hl,h⟩⟩)
theorem aap{xs:List AV}{vs:Array Value}(h:ay J xs vs.toList)(n:Nat):∀(acc:Array Value) (as:List AV),ay J as acc.toList->ay J (as++rep xs n) (Pl (λx1 x2=>x1++x2) acc (ew n vs)).toList:=by
 induction n with
 |zero=>exact λacc as ha=>(i8 as).symm▸ha
 |succ n ih=>intro acc as ha;refine ae (show as++rep xs (n+1)=(as++xs)++rep xs n from (congrArg (as++ ·) (cW xs (rep xs n))).trans (jO _ _ _).symm) (ae List.replicate_succ (ae List.foldl_cons ?_));exact ih _ _ (by refine ae we ?_;exact h.append ha)
theorem VF(n:Nat):rep ([]:List AV) n= []:=by
 induction n with
 |zero=>rfl
 |succ n ih=>exact ih
theorem Ve{Q:Value->Shared->Prop}{a b:AV}{u v:Value}{l:List (AV×St)}(h:yJ a b st=some l)(ha:cy a=true)(R:Rel P J st s)(hu:VR J a u)(hv:VR J b v)(out:Out P J l Q):wpAny (Md P) A (binaryOp .Mult u v) Q E s:=by
 refine ah h λx h1 h=>?_;refine ah h λy h2 h=>?_;refine ah h λn h3 h=>?_;refine bb h λh4 h=>?_;refine aB h4 λh4 h5=>?_;refine aB h4 λh4 h6=>?_;have h4:=lF h4;have h6:=lF h6;have h5:=eK h5;obtain rfl:=dl h2;refine mJ (qK R h1 ha hu) λl1 us n1 bC hus k1=>?_;have aa:=bC;clear hu bC;subst aa;refine ba hv.int_inv λj t ai hj=>?_;have aa:=ai;clear hv ai;subst aa;obtain rfl:=xF R h3 hj;have e1:us.size=x.length:=(by rw [<-hus.length,dJ]);have hm:us.size* j.toNat<=100* 100000:=Nat.mul_le_mul (aI (ck e1) h5) (Int.toNat_le.mpr (mw h4));refine Qv k1 (mw (Cv (by decide) h6)) (Cv h4 (by decide)) (aI hm (by decide)) (w0 h R ?_ out);cases c:us.isEmpty with
 |true=>rw [List.eq_nil_of_length_eq_zero (e1.symm.trans (Array.isEmpty_iff_size_eq_zero.mp c)),VF];exact .nil
 |false=>exact aap hus j.toNat #[] [] .nil
theorem SM{a b:AV}{l:List (AV×St)}(h:KD a b st=some l):(∃x y,a= .int x/\b= .int y)\/(∃w z c,a= .str w/\b= .str z/\w.cat z=some c/\[(AV.str c,st)]=l)\/(cy a=true/\yf a b st=some l):=by
 rcases cR h with ⟨x,h1,h⟩ |h
 ·exact .inl ((cz h).elim λy h=>⟨x,y,dl h1,dl h.1⟩)
 rcases cR h with ⟨x,h1,h⟩ |h
 ·refine ah h λz h2 h=>?_
  refine ah h λc h3 h=>?_;exact .inr (.inl ⟨x,z,c,ft h1,ft h2,h3,af h⟩)
 ·exact .inr (.inr (fu h))
theorem SN{a b:AV}{l:List (AV×St)}(h:KF a b st=some l):(∃x y,a= .int x/\b= .int y)\/(cy a=true/\yJ a b st=some l):=by
 rcases cR h with ⟨x,h1,h⟩ |h
 ·refine bp (xz h) λx' y _ h _=>?_
  exact .inl ⟨x,y,dl h1,h⟩
 ·refine ah h λi h1 h=>?_
  refine ae (fq h1) ?_;exact .inr ⟨rfl,h⟩
theorem WH{Q:Value->Shared->Prop}{op:Operator}{a b:AV}{u v:Value}{l:List (AV×St)}(h:uG op a b st=some l)(R:Rel P J st s)(hu:VR J a u)(hv:VR J b v)(out:Out P J l Q):wpAny (Md P) A (binaryOp op u v) Q E s:=by
 have fin:pe op a b st=some l->wpAny (Md P) A (binaryOp op u v) Q E s:=λq=>(DY q R hu hv out).1;have sY:∀{f:AI->AI->Option (List (AV×St))},gZ a b f=some l->wpAny (Md P) A (binaryOp op u v) Q E s:=λq=>by refine bp (xz q) λx y ai bC _=>?_;have aa:=ai;clear hu ai;subst aa;have aa:=bC;clear hv bC;subst aa;exact fin h
 cases op with
 |Add=>
  rcases SM h with ⟨x,y,rfl,rfl⟩ | ⟨w,z,c,rfl,rfl,h1,h2⟩ | ⟨q,h⟩
  ·exact fin h
  ·refine ba hu.str_inv λx t ai hx=>?_
   have aa:=ai;clear hu ai;subst aa;refine ba hv.str_inv λy t' ai hy=>?_;have aa:=ai;clear hv ai;subst aa;refine au (WN R h1 hx hy) λe hs=>?_;clear h fin sY;subst h2;exact PyProof.Rows.add_str (λt' tk=>out _ (.head _) J _ _ (.refl _) (R.toks tk) (.str t' e)) hs
  ·exact TK h q R hu hv out
 |Mult=>
  rcases SN h with ⟨x,y,rfl,rfl⟩ | ⟨q,h⟩
  ·exact fin h
  ·exact Ve h q R hu hv out
 |Sub=>exact sY h
 |Mod=>exact sY h
 |FloorDiv=>exact sY h
 |Pow=>exact sY h
 |_=>exact aD h
end
structure More(P:Pr)(sf:Self):Prop where
 dict:∀{fr:Fr} {st:St} {k:Kont} {n:Nat} {ks:List (Option ax)} {vs:List ax} {ns:List Nm} {pos:Pos},m0 ks=some ns->(gq ns&&ag ks.length vs.length)=true->zx ns (aK (aw n (ak fr.e)) vs) sf fr st k=true->GE P fr (.Dict ks vs pos) st k
 comp:∀{fr:Fr} {st:St} {k:Kont} {n:Nat} {elt:ax} {g:Comprehension} {scope:Scope} {pos:Pos},(km g.target&&o7 g.iter&&ieq g.is_async 0&&uh scope)=true->zv scope (aw n scope elt) (aw n scope g.target) (aK (aw n scope) g.ifs) (aw n (ak fr.e) g.iter) sf fr st k=true->GE P fr (.ListComp elt [g] scope pos) st k
section
variable{P:Pr}{self:Self}{fr:Fr}{J:G}{st:St}{s:Shared}{k:Kont}{A:Around}{E:Value->Shared->Prop}{env:Env}
theorem XX{i:Int}{c':Pos}{m:Nat}{pos:Pos}(hr:k (.val (.int (.lit (-i)))) st=true):GE P fr (.UnaryOp .USub (.Constant (.int i) m c') pos) st k:=λJ s A Q E env R F post=>wpAny_UnaryOp (wpAny_Constant_int (neg_int (post _ _ _ _ hr trivial (.refl _) ((R.toks _).toks _) _ (.int _ rfl))))
theorem xm{c:Const}{i:Int}(h:cInt c=some i):c= .int i:=by cases c<;>first |exact aD h |exact congrArg _ (af h)
variable(H:EOk P self)
include H
theorem V2{n:Nat}{o i:ax}{pos:Pos}(X:dT)(hr:dI (Bg (aw n) (ak fr.e) o i) self fr st k=true):GE P fr (.Subscript o i pos) st k:=by
 cases i with
 |Slice lo hi sp p=>refine am (mY hr) λa h1 hr=>?_;refine am (mY hr) λb h2 hr=>?_;refine am (mY hr) λc h3 hr=>?_;exact QS H hr h1 h2 h3 X
 |_=>exact Td H hr (λ_ _ _ _ q=>cQ ax.ctorIdx q rfl) X
theorem VW{n:Nat}{f:ax}{es:List ax}{pos:Pos}(X:dT)(ns:noStar es=true)(hr:dI (Lk (aw n) (ak fr.e) f es pos) self fr st k=true):GE P fr (.Call f es [] pos) st k:=by
 cases f with
 |Name x p=>exact S9 H hr ns
 |Attribute o m p=>
  refine au (j5 hr) λc hr=>?_;cases d:lk (nm m) zh with
  |some u=>rw [d] at hr;exact QU H hr ns (qX d) c X
  |none=>rw [d] at hr;refine am (mY hr) λu d' hr=>?_;exact QQ H hr ns (qX d') c X
 |_=>exact aE hr
theorem VY{n m:Nat}{x:ax}{pos:Pos}(hr:dI (Ll x) self fr st k=true):GE P fr (.UnaryOp .USub x pos) st k:=by
 cases x with
 |Constant c m p=>refine am (mY hr) λi h hr=>?_;rw [xm h];exact XX hr
 |_=>exact aE hr
theorem aay{n:Nat}{e:ax}(X:dT)(M:More P self)(hr:dI (aw n (ak fr.e) e) self fr st k=true):GE P fr e st k:=by
 cases n with
 |zero=>exact aE hr
 |succ n=>
  have hr:=evX hr;cases e with
  |Constant c m pos=>exact snd_const (n:=0) hr
  |Name x pos=>exact Tg hr
  |Attribute o a pos=>refine au (j5 hr) λb hr=>?_;refine am (mY hr) λu c hr=>?_;exact S8 H hr (qX c) b X
  |Compare l ops cs pos=>refine am (xt hr) λop aq hr=>?_;have aa:=aq;clear hr aq;subst aa;refine am (xt hr) λr aq hr=>?_;have aa:=aq;clear hr aq;subst aa;refine au (j5 hr) λc hr=>?_;exact VS H hr (fJ c) X
  |BoolOp op es pos=>intro J s A Q E env R F post;rw [arm_eval_BoolOp];exact H.bools (show self (.bools fr op (aK (aw n (ak fr.e)) es)) st k=true from hr) n es rfl J s A Q E env pos R F post
  |IfExp t b o pos=>exact VX H hr
  |Call f es ks pos=>refine au (Gq (C:=λx=>dI x self fr st k) rfl hr) λaZ hr=>?_;have aa:=aZ;clear hr aZ;subst aa;refine au (j5 hr) λns hr=>?_;exact VW H X ns hr
  |BinOp l op r pos=>exact VQ H hr X
  |Subscript o i pos=>exact V2 H X hr
  |UnaryOp op x pos=>
   cases op with
   |Not=>exact VZ H hr
   |USub=>exact VY H (n:=0) (m:=0) hr
   |_=>exact aE hr
  |List es pos=>refine au (j5 hr) λns hr=>?_;exact Te H hr ns
  |Tuple es c pos=>refine au (j5 hr) λns hr=>?_;exact V4 H hr ns
  |Dict ks vs pos=>refine am (mY hr) λns a hr=>?_;refine au (j5 hr) λb hr=>?_;exact M.dict a b hr
  |ListComp elt gens scope pos=>refine am (xt hr) λg aq hr=>?_;have aa:=aq;clear hr aq;subst aa;refine au (j5 hr) λa hr=>?_;exact M.comp a hr
  |_=>exact aE hr
end
structure nB:Prop where
 op:∀{P:Pr} {J:G} {st:St} {s:Shared} {A:Around} {E Q:Value->Shared->Prop} {op:Operator} {a b:AV} {u v:Value} {l:List (AV×St)},pe op a b st=some l->Rel P J st s->VR J a u->VR J b v->Out P J l Q->wpAny (Md P) A (inplaceOp op u v) Q E s
 item:∀{P:Pr} {J:G} {st:St} {s:Shared} {A:Around} {E Q:Value->Shared->Prop} {a b:AV} {u v:Value} {l:List (AV×St)},o5 a b st=some l->Rel P J st s->VR J a u->VR J b v->Out P J l Q->wpAny (Md P) A (getItem u v) Q E s
section
variable{P:Pr}{self:Self}{fr:Fr}{J:G}{st:St}{s:Shared}{k:Kont}{A:Around}{E:Value->Shared->Prop}{env:Env}
theorem Sq{x:Str}{v:AV}{Q:Value->Shared->Prop}(R:Rel P J st s)(F:bj P J fr A env)(hk:(ak fr.e).names.lookup x=some .local)(h:rN fr (nm x) st=some v)(hQ:∀w,VR J v w->Q w s):wpAny (Md P) A (loadName env x) Q E s:=by refine ah h λes h1 h2=>?_;refine ah h2 λe h3 h4=>?_;obtain rfl:=jR h4;obtain ⟨-,loc, -,o,en,m, -,ho,hdt, -,hkeys, -,hfind, -⟩:=qr R h1 F.e.loc;have q:=hfind x;rw [h3] at q;refine am q λw hw hv=>?_;exact wpAny_loadName_local F.e.kind (xD F.e hk (by decide)) ⟨o,en,m,ho,hdt,hkeys,λ_=>rfl⟩ hw (hQ w hv)
variable(H:ep P self)
include H
theorem Pj{n:Nat}{x:Str}{e:ax}{op:Operator}{p pos:Pos}(J0J:nB)(hk:(ak fr.e).names.lookup x=some .local)(hr:Lc (nm x) op (aw n (ak fr.e) e) self fr st k=true):GS P fr (.AugAssign (.Name x p) op e pos) st k:=λs0 J s A Q E env R F post=>by refine aF hr λa h1 h2=>?_;refine wpAny_AugAssign_Name (Sq R F hk h1 λu hu=>?_);refine bV (λ_=>H.ex) h2 R F rfl (dL post) λb st1 J1 s1 h3 l1 R1 F1 v hv=>?_;refine aF h3 λl h4 h5=>?_;refine J0J.op h4 R1 (hu.mono l1) hv λz hz J' s' r l2 R2 hr2=>?_;refine aF (dm h5 z hz) λst3 h6 h7=>?_;exact mQ R2 (F1.mono l2).e hk h6 hr2 λs'' R3=>post _ _ _ _ h7 trivial (l1.trans l2) R3
theorem NS{n m:Nat}{o e:ax}{a:Str}{op:Operator}{p pos:Pos}(X:dT)(J0J:nB)(ha:a∈attrS)(hr:IE (aw n (ak fr.e) o) (nm a) op (aw m (ak fr.e) e) self fr st k=true):GS P fr (.AugAssign (.Attribute o a p) op e pos) st k:=λs0 J s A Q E env R F post=>by refine wpAny_AugAssign_AttributeAny (bV (λ_=>H.ex) hr R F rfl (dL post) λw st1 J1 s1 h1 l1 R1 F1 ov hov=>?_);refine aF h1 λx h2 h3=>?_;refine xj X.zB R1 h2 ha hov λold hold=>?_;refine bV (λ_=>H.ex) h3 (R1.toks _) F1 rfl (dL (post.le l1)) λy st2 J2 s2 h4 l2 R2 F2 v hv=>?_;refine aF h4 λl h5 h6=>?_;refine J0J.op h5 R2 (hold.mono l2) hv λz hz J' s' r l3 R3 hr3=>?_;refine aF (dm h6 z hz) λst3 h7 h8=>?_;exact C7 X.HH R3 h7 ha (hov.mono (l2.trans l3)) hr3 λJ4 s'' l4 R4=>post _ _ _ _ h8 trivial ((l1.trans (l2.trans l3)).trans l4) R4
theorem NT{n m:Nat}{o i e:ax}{op:Operator}{p pos:Pos}(Y0Y:Parts)(J0J:nB)(hi:∀x y z p,i≠ .Slice x y z p)(hr:IF (aw n (ak fr.e) o) (aw n (ak fr.e) i) op (aw m (ak fr.e) e) self fr st k=true):GS P fr (.AugAssign (.Subscript o i p) op e pos) st k:=λs0 J s A Q E env R F post=>by refine wpAny_AugAssign_SubscriptAny (bV (λ_=>H.ex) hr R F rfl (dL post) λw st1 J1 s1 h1 l1 R1 F1 ov hov=>?_) (by intros;cases i<;>first |rfl |exact absurd rfl (hi _ _ _ _));refine bV (λ_=>H.ex) h1 R1 F1 rfl (dL (post.le l1)) λj st2 J2 s2 h2 l2 R2 F2 iv hiv=>?_;refine aF h2 λl h3 h4=>?_;refine J0J.item h3 R2 (hov.mono l2) hiv λq hq J3 s3 old l3 R3 hold=>?_;have kR:=l1.trans (l2.trans l3);refine bV (λ_=>H.ex) (dm h4 q hq) R3 (F2.mono l3) rfl (dL (post.le kR)) λy bc J4 s4 h5 l4 R4 F4 v hv=>?_;refine aF h5 λl' h6 h7=>?_;refine J0J.op h6 R4 (hold.mono l4) hv λz hz J5 s5 r l5 R5 hr5=>?_;refine aF (dm h7 z hz) λBV h8 h9=>?_;exact Y0Y.setItem h8 R5 (hov.mono (l2.trans (l3.trans (l4.trans l5)))) (hiv.mono (l3.trans (l4.trans l5))) hr5 λJ6 s6 l6 R6=>post _ _ _ _ h9 trivial (kR.trans (l4.trans (l5.trans l6))) R6
end
inductive kz{Y:Type}(l:List Y)(x:Y):Int->Prop
 |pos {n:Nat} (h:l[n]?=some x) (h1:n<=1000000):kz l x n
 |neg {n:Nat} (h:l[l.length - 1 - n]?=some x) (h1:n<=1000000) (h2:n< l.length):kz l x (Int.negSucc n)
theorem Vn{Y:Type}{l:List Y}{i:Int}{x:Y}(h:KC l i=some x):kz l x i:=by
 cases i with
 |ofNat n=>refine bb (show bf (aM n 1000000) (nth l n) none=some x from h) λh1 h2=>?_;exact .pos ((dS l n).symm.trans h2) (bt h1)
 |negSucc n=>refine bb (show bf (aM n 1000000&&bh n (len l)) (nth l (len l - 1 - n)) none=some x from h) λh1 h2=>?_;refine aB h1 λh1 h3=>?_;rw [dS,len_eq] at h2;rw [len_eq] at h3;exact .neg h2 (bt h1) (bt h3)
theorem GV{i:Int}{n len:Nat}(e:(if i< 0 then i+len else i)=(n:Int))(h:n< len):seqIndex? i len=some n:=by unfold seqIndex?;refine ae e ?_;exact if_pos (b7.mpr ⟨decide_eq_true (oa n),decide_eq_true (qk.mpr h)⟩)
theorem kz.seq{Y:Type}{l:List Y}{x:Y}{i:Int}(h:kz l x i):∃j,seqIndex? i l.length=some j/\l[j]?=some x/\ -(2 ^ 63)<=i/\i< 2 ^ 63:=by
 cases h with
 | @pos n h h1=>have hn:=(mn.mp h).1;exact ⟨n,GV (if_neg (jb.mpr (oa n))) hn,h,adg n,sQ (k9 h1)⟩
 | @neg n h h1 h3=>refine ⟨l.length - 1 - n,GV ((if_pos (wg n)).trans ?_) (dy (wx _ n) (CO (mu h3) (by decide))),h,by rw [Int.negSucc_eq];exact Int.neg_le_neg (mw (sQ (n:=n+1) (i7 h1))),Cv (wg n) (by decide)⟩;exact (Int.subNatNat_of_le h3).trans (congrArg Int.ofNat ((congrArg (l.length - ·) (ja n 1)).trans (Nat.sub_add_eq l.length 1 n)))
section
variable{P:Pr}{J:G}{st:St}{s:Shared}{A:Around}{E:Value->Shared->Prop}
theorem D5{Y:Type}{c:Bool}{a b:Y}(h:(if c=true then some a else none)=some b):c=true/\some a=some b:=by
 cases c with
 |true=>exact ⟨rfl,h⟩
 |false=>exact aD h
noncomputable def mT(P:Pr)(A:Around)(E:Value->Shared->Prop)(Q:Value->Shared->Prop)(s:Shared)(u v:Value):Prop:=wpAny (Md P) A (getItem u v) Q E s/\∃T id,s.TypeIs u T/\typeLookup (.type T) "__getitem__"=pure (some (.builtin id))
noncomputable def G.Au(J:G)(t:AV):G:={J with vV:=J.vV++ [.none],tA:=J.tA++ [t]}
theorem G.Ez(J:G)(t:AV):J.Le (J.Au t):=⟨bT _,bT _,⟨_,rfl⟩,rfl,rfl,rfl,⟨_,rfl⟩,λ_ _ e=>e,rfl,λ_ h=>h⟩
theorem tY{Y:Type}{l:List Y}{n:Nat}(h:l.length=n)(x:Y):(l++ [x]).length=n+1:=h▸cJ
theorem Em{Y:Type}{l:List Y}{n:Nat}(h:l.length=n)(x:Y):(l++ [x])[n]?=some x:=by subst h;rw [iX (cG _),qm];rfl
theorem Rel.newT(R:Rel P J st s)(t:AV):Rel P (J.Au t) st.newV s/\(J.Au t).tA[st.nv]?=some t:=⟨R.data (J.Ez t) rfl rfl rfl rfl rfl rfl R.eX R.cY (tY R.lenV _) (tY R.eU _) R.bnd R.sub R.aU,Em R.eU t⟩
inductive u5(n:Nat):Int->Prop
 |mk {m:Nat} (h:m< n) (h1:n<=1000000):u5 n m
theorem DS(R:Rel P J st s){e:AI}{n:Nat}{i:Int}(h:zE st e n=true)(hi:e.ev J=some i):u5 n i:=by
 refine aB h λhn h=>?_;have hn:=bt (bq hn).2;cases c:rangeOf st e with
 |none=>exact aE ((congrArg (λo=>oe false (λp:Int×Int=>bf (bA p.1 0) false (bA p.2 n)) o) c).symm.trans h)
 |some p=>
  have h:bf (bA p.1 0) false (bA p.2 n)=true:=(congrArg (λo=>oe false (λp:Int×Int=>bf (bA p.1 0) false (bA p.2 n)) o) c).symm.trans h;refine au (jc R e c hi) λq1 q2=>?_;cases d:bA p.1 0 with
  |true=>exact aE (kN d h)
  |false=>have h:=tx q2 (lF (ma d h));have:¬ p.1< 0:=λq=>cH (((gU _ _).mpr q).symm.trans d);refine aQ (Int.eq_ofNat_of_zero_le (c8 (jb.mp this) q1)) λm aq=>?_;subst aq;exact ⟨qk.mp h,hn⟩
theorem u5.nth{Y:Type}{l:List Y}{i:Int}(h:u5 l.length i):∃x,x∈l/\kz l x i:=by obtain ⟨h,h1⟩:=h;exact ⟨_,MZ h,.pos (k6 h) (aI (ot h) h1)⟩
theorem xG{c:Nat}{C:List Nat}(h:vp C c=true):c∈C:=by
 induction C with
 |nil=>exact aE h
 |cons x r ih=>
  cases e:ag c x with
  |true=>exact aH e▸ .head _
  |false=>exact .tail _ (ih (ma e h))
theorem Wl{s:List Nat}{O c:Nat}(h:Lb s=some O)(hc:c∈s):fS O (.str (.lit [c]))=true:=by
 obtain ⟨d,h⟩ |h:=dj h
 ·exact af h▸uf (O:=2) ⟨c,xG (dm d c hc),rfl⟩
 ·refine bb h λd h=>?_
  exact af h▸uf (O:=3) ⟨c,xG (dm d c hc),rfl⟩
theorem item_list{Q:Value->Shared->Prop}{c:Value}{v:AV}{xs:List AV}{x:AV}{i:Int}{t:Nat}(hk:SeqAt s.heap J v xs c)(j:kz xs x i)(hq:∀w,VR J x w->Q w s):mT P A E Q s c (.int i t):=by
 refine ro j.seq λj j1 j2 j3 j4=>?_;cases hk with
 | @li l vs n hvs _ hl=>
  rw [<-hvs.length] at j1;refine am (hvs.get j2) λw w1 w2=>?_;have w1:vs[j]?=some w:=iY▸w1;refine ⟨?_,_,_,(dP hl).typeIs,PySem.F.slot_list_getitem.lookup⟩;have j1:seqIndex? i vs.size=some j:=by simpa using j1
  unfold seqIndex? at j1
  by_cases neg:i< 0
  ·rw [if_pos neg] at j1
   refine au (D5 j1) λz j1=>?_;obtain rfl:=af j1;exact wpAny_getItem_list_neg (dP hl) neg (by have z1:=of_decide_eq_true (bq z).1;omega) j3 w1 (hq w w2)
  ·rw [if_neg neg] at j1
   refine au (D5 j1) λz j1=>?_;obtain rfl:=af j1;exact wpAny_getItem_list (dP hl) (of_decide_eq_true (bq z).1) j4 w1 (hq w w2)
 | @tp l vs hvs _ hl=>rw [<-hvs.length] at j1;refine am (hvs.get j2) λw w1 w2=>?_;exact ⟨PyProof.Rows.getItem_tuple hl j3 j4 (by simpa using j1) (iY▸w1) (hq w w2),_,_,hl.typeIs,PySem.F.slot_tuple_getitem.lookup⟩
theorem Qm{v:AV}(h:Gf v=true):∃e,v= .int e:=by cases v<;>first |exact aE h |exact ⟨_,rfl⟩
theorem CW{Y:Type}{f:Y->AV}{xs:List Y}{e:AI}{i:Int}{l:List (AV×St)}(R:Rel P J st s)(h:xA f xs e st=some l)(hi:e.ev J=some i):∃x st',kz xs x i/\(f x,st')∈l/\Rel P J st' s:=by refine ah h λl' h2 hZ=>?_;refine bP (Et R h2 hi) λst' q1 q2 _=>?_;refine am (tT hZ _ q1) λb' q3 q4=>?_;refine ah q3 λx q5 q6=>?_;exact ⟨x,st',Vn q5,af q6▸q4,q2⟩
theorem xB{Q:Value->Shared->Prop}{a b v0:AV}{u v:Value}{l:List (AV×St)}{xs:List AV}(hk:SeqAt s.heap J v0 xs u)(h:vj xs a b st=some l)(R:Rel P J st s)(hv:VR J b v)(out:Out P J l Q):mT P A E Q s u v:=by
 refine ah h λe h1 h=>?_;rw [dl h1] at hv;refine ba hv.int_inv λi t ai hi=>?_;have aa:=ai;clear hv ai;subst aa;obtain ⟨c,h⟩ |h:=dj h
 ·refine aB c λc1 c2=>?_
  refine aB c2 λc2 c3=>?_;rw [len_eq] at c1;refine am ((DS R c1 hi).nth) λx x1 x2=>?_;refine aQ (Qm (dm c2 x x1)) λex aq=>?_;have aa:=aq;clear x1 aq;subst aa;have aa:=af h;clear h;subst aa;refine item_list hk x2 λw hw=>?_;refine ba hw.int_inv λz tz ai hz=>?_;have aa:=ai;clear hw ai;subst aa;refine au (R.jB z (bt c3)) λR' hl=>?_;exact out _ (.head _) _ _ _ (J.qM z) R' (.int tz hl)
 ·refine bp (CW R h hi) λx st' q1 q2 q3=>?_
  exact item_list hk q1 λw hw=>out _ q2 J _ _ (.refl _) q3 hw
theorem item_str{Q:Value->Shared->Prop}{x:Str}{t t':Nat}{i:Int}{c:Nat}(j:kz x.cps.toList c i)(hq:∀t,Q (.str ⟨#[c]⟩ t) {s with toks:=s.toks+1}):mT P A E Q s (.str x t') (.int i t):=by refine ro j.seq λj j1 j2 j3 j4=>?_;refine ⟨PyProof.Rows.getItem_str (jL.mpr ⟨decide_eq_false (jb.mpr j3),decide_eq_false (qp.mpr j4)⟩) ?_ (hq _),_,_,typeIs_str _ _ _,PySem.F.slot_str_getitem.lookup⟩;refine ae (show x.length=x.cps.toList.length from dJ.symm) (ae j1 ?_);exact iY.symm.trans j2
theorem Se{Q:Value->Shared->Prop}{w:SW}{a b:AV}{u v:Value}{l:List (AV×St)}(h:HO w a b st=some l)(R:Rel P J st s)(hu:VR J (.str w) u)(hv:VR J b v)(out:Out P J l Q):mT P A E Q s u v:=by
 refine ah h λy h0 h=>?_;refine ah h λe h1 h=>?_;rw [dl h1] at hv;rw [ij h0] at hu;refine ba hv.int_inv λi t ai hi=>?_;have aa:=ai;clear hv ai;subst aa;refine ba hu.str_inv λx t' ai hx=>?_;have aa:=ai;clear hu ai;subst aa;obtain rfl:y=x.cps.toList:=af hx;refine kG (m:=λo=>o=some l->mT P A E Q s (.str x t') (.int i t)) (λ_ h=>?_) (λO d h=>?_) h
 ·refine bp (CW R h hi) λc st' q1 q2 q3=>?_
  exact item_str q1 λt=>out _ q2 J _ _ (.refl _) (q3.toks _) (.str t rfl)
 ·refine bb d λd1 d2=>?_
  refine aB d1 λd1 d3=>?_;rw [len_eq] at d1;refine am ((DS R d1 hi).nth) λc c1 c2=>?_;have aa:=af h;clear h;subst aa;refine au (R.newT (.str (.lit [c]))) λR' hl=>?_;exact item_str c2 λt=>out _ (.head _) _ _ _ (J.Ez _) (R'.toks _) (.tv hl (dy (bt d3) (by decide)) (Wl d2 c1) (.str t rfl))
theorem Sd{c:Bool}{es:List (Nm×EV)}{a b:AV}{l:List (AV×St)}(h:HN c es a b st=some l):c=false/\AJ es a b st=some l:=by
 cases c with
 |true=>exact aD h
 |false=>exact ⟨rfl,h⟩
theorem UW{Q:Value->Shared->Prop}{a b:AV}{u v:Value}{i cap:Nat}{es:List (Nm×EV)}{l:List (AV×St)}(h1:st.get i=some (.dict cap false es))(h:AJ es a b st=some l)(R:Rel P J st s)(hu:VR J (.ref i) u)(hv:VR J b v)(out:Out P J l Q):mT P A E Q s u v:=by refine ah h λn h3 h4=>?_;refine ah h4 λl' h5 h6=>?_;refine bp (qD h3 hv) λx t ai hx _=>?_;have aa:=ai;clear hv ai;subst aa;refine tI (t8 R h1 hu) λd en ai hd hz hs hm hf=>?_;have aa:=ai;clear hu ai;subst aa;refine EL (w6 R h5 (hx▸hf x)) λp hp J' hle R' hr=>?_;refine am (tT (show bX (λp:Way=>ob p.1 λv=>some (v,p.2)) l'=some l from h6) _ hp) λb' q3 q4=>?_;refine ah q3 λw q5 q6=>?_;have aa:=af q6;clear q3 q6;subst aa;rw [q5] at hr;refine am hr λv e1 e2=>?_;exact ⟨wpAny_getItem_of (strKind_is pw _ x t) hm e1 (out _ q4 J' _ _ hle (R'.toks _) e2),_,_,hm.typeIs,PySem.F.slot_dict_getitem.lookup⟩
theorem D7{Q:Value->Shared->Prop}{a b:AV}{u v:Value}{l:List (AV×St)}(h:o5 a b st=some l)(R:Rel P J st s)(hu:VR J a u)(hv:VR J b v)(out:Out P J l Q):mT P A E Q s u v:=by
 obtain ⟨i,e,h⟩ |h:=cR h
 ·rw [fq e] at hu
  refine ah h λo h1 h=>?_;obtain ⟨q,e2,h⟩ |h:=cR h
  ·refine au (Sd h) λc h=>?_
   exact UW (by exact ae h1 (ae (qt e2) (ae c rfl))) h R hu hv out
  ·refine ah h λq e2 h=>?_
   refine ah h λys h3 h4=>?_;exact xB (lz R (v:=.ref i) (bQ (bQ h1 e2) h3) hu) h4 R hv out
 ·obtain ⟨w,e,h⟩ |h:=cR h
  ·rw [ft e] at hu
   exact Se h R hu hv out
  ·obtain ⟨w,e,h⟩ |h:=cR h
   ·rw [qS e] at hu
    exact xB (lz R rfl hu) h R hv out
   ·refine ah h λw e h=>?_
    rw [uc e] at hu;exact xB (lz R rfl hu) h R hv out
theorem UY{Q:Value->Shared->Prop}{a b:AV}{u v:Value}{l:List (AV×St)}{value slice:ax}(h:o5 a b st=some l)(R:Rel P J st s)(hu:VR J a u)(hv:VR J b v)(hs:∀x y z p,slice≠ .Slice x y z p)(out:Out P J l Q):wpAny (Md P) A (subscriptTail value slice u v) Q E s:=by refine Xd (D7 (A:=A) (E:=E) h R hu hv out) λh1 T id h2 h3=>?_;refine tail_any (ops:=[u,v]) h2 h3 h1 ?_;cases slice<;>first |rfl |exact absurd rfl (hs _ _ _ _)
theorem adk:nB:=⟨λh R hu hv out=>(DY h R hu hv out).2,λh R hu hv out=>(D7 h R hu hv out).1⟩
end
theorem GX{Y:Type}{a:List Y}:∀(n:Nat),kU a n=a.take n:=by
 induction a with
 |nil=>exact λn=>ND.symm
 |cons x r ih=>exact λn=>ou (motive:=λn=>kU (x::r) n=(x::r).take n) n rfl λn=>congrArg (x:: ·) (ih n)
theorem ay.kP{J:G}{xs:List AV}:∀{vs:List Value} {n:Nat},ay J xs vs->ay J (kP xs n) (vs.drop n):=by
 induction xs with
 |nil=>intro vs n h;rw [h.n,List.drop_nil];exact .nil
 |cons x r ih=>intro vs n h;refine bp h.c λv us ai hv hr=>?_;have aa:=ai;clear ai;subst aa;exact ou (motive:=λn=>ay J (Mine.kP (x::r) n) ((v::us).drop n)) n h λn=>ih hr
theorem ay.kU{J:G}{xs:List AV}:∀{vs:List Value} {n:Nat},ay J xs vs->ay J (kU xs n) (vs.take n):=by
 induction xs with
 |nil=>intro vs n h;rw [h.n,ND];exact .nil
 |cons x r ih=>intro vs n h;refine bp h.c λv us ai hv hr=>?_;have aa:=ai;clear h ai;subst aa;exact ou (motive:=λn=>ay J (Mine.kU (x::r) n) ((v::us).take n)) n .nil λn=>.cons hv (ih hr)
theorem ay.Mk{J:G}{xs:List AV}:∀{vs us:List Value} {acc:List AV},ay J xs vs->ay J acc us->ay J (aW (λacc=>acc) (λx _ f acc=>f (x::acc)) xs acc) (vs.reverseAux us):=by
 induction xs with
 |nil=>exact λh q=>h.n▸q
 |cons x r ih=>intro vs us acc h q;refine bp h.c λv us' ai hv hr=>?_;have aa:=ai;clear h ai;subst aa;exact ih (vs:=us') (us:=v::us) (acc:=x::acc) hr (.cons hv q)
theorem QF{l:List Value}(h:l.length<=6):slicePick ⟨l⟩ none (some 0) (some (-1))=⟨(l.drop 1).reverse⟩:=by
 rcases l with _ | ⟨a,_ | ⟨b,_ | ⟨c,_ | ⟨d,_ | ⟨e,_ | ⟨f,_ | ⟨g,l⟩⟩⟩⟩⟩⟩⟩
 ·kernel_rfl
 ·kernel_rfl
 ·kernel_rfl
 ·kernel_rfl
 ·kernel_rfl
 ·kernel_rfl
 ·kernel_rfl
 ·exact absurd h (Nat.not_le_of_lt (Nj 7 _))
theorem QN{J:G}{xs l:List AV}{us:List Value}{a b c:Option Int}(h:yQ xs a b c=some l)(hv:ay J xs us):ay J l (slicePick ⟨us⟩ a b c).toList/\c≠some 0:=by
 cases a with
 |some i=>
  cases c with
  |some=>exact aD h
  |none=>
   cases b with
   |some=>exact aD h
   |none=>refine ah h λn h1 h=>?_;obtain rfl:=mG h1;exact ⟨af h▸ae (congrArg qj (slicePick_from' ..)) hv.kP,λq=>aD q⟩
 |none=>
  cases c with
  |none=>refine ah h λj h1 h=>?_;refine ah h λn h2 h=>?_;subst h1;have aa:=mG h2;clear h2;subst aa;exact ⟨af h▸ae (congrArg qj (slicePick_upto' ..)) hv.kU,λq=>aD q⟩
  |some k=>
   refine bb h λh1 h3=>?_;have aa:=(io _ _).mp h1;clear h1;subst aa;refine ⟨?_,λq=>cQ (λo:Option Int=>oe 0 Int.natAbs o) q rfl⟩;cases b with
   |none=>exact af h3▸ae (congrArg qj (krv_pick ⟨us⟩)) (hv.Mk .nil)
   |some j=>refine bb h3 λh1 h4=>?_;refine au (b7.mp h1) λh1 h2=>?_;have aa:=(io _ _).mp h1;clear h3 h1;subst aa;exact af h4▸ae (congrArg qj (QF (hv.length▸eK h2))) ((hv.kP (n:=1)).Mk .nil)
section
variable{P:Pr}{J:G}{st:St}{s:Shared}{A:Around}{E:Value->Shared->Prop}{env:Env}
theorem xM{e:Option ax}{x:Option Int}{Q:Value->Shared->Prop}(h:gC e=some x)(hQ:∀v t,IsPart v x->Q v {s with toks:=t}):wpAny (Md P) A (evalPart e env) Q E s:=by
 cases e with
 |none=>obtain rfl:=af h;exact ae (evalPart_none _) (aT (hQ _ s.toks .none))
 |some e=>
  refine ae (evalPart_some _ _) ?_;refine ah h λi h2 h3=>?_;obtain rfl:=af h3;clear h3 h;cases e with
  |Constant c m p=>rw [xm h2];exact wpAny_Constant_int (hQ _ _ (.int _ _))
  |UnaryOp op x p=>
   cases op with
   |USub=>
    refine ah h2 λi h4 h5=>?_;have aa:=af h5;clear h2 h5;subst aa;cases x with
    |Constant c m p=>rw [xm h4];exact wpAny_UnaryOp (wpAny_Constant_int (neg_int (hQ _ _ (.int _ _))))
    |_=>exact aD h4
   |_=>exact aD h2
  |_=>exact aD h2
theorem S6{Q:Value->Shared->Prop}{a:AV}{u:Value}{l:List (AV×St)}{value:ax}{lo hi sp:Option ax}{x y z:Option Int}{pos:Pos}(h1:gC lo=some x)(h2:gC hi=some y)(h3:gC sp=some z)(h:xQ a x y z st=some l)(R:Rel P J st s)(hu:VR J a u)(out:Out P J l Q):
  wpAny (Md P) A (eval (.Slice lo hi sp pos) env) (λi s₂=>wpAny (Md P) A (subscriptTail value (.Slice lo hi sp pos) u i) Q E s₂) E s:=by
 refine bb (show bf (cy a) (ob (seqItems st a) λxs=>bf (short xs) (ob (yQ xs x y z) λl=>ob (kJ st l) λst'=>some [(AV.ref st.n,st')]) none) none=some l from h) λh0 h=>?_;refine ah h λxs h4 h=>?_;refine bb h λh5 h=>?_;refine ah h λl' h6 h=>?_;refine mJ (qK R h4 h0 hu) λc vs n bC hvs hl=>?_;have aa:=bC;clear hu bC;subst aa;refine au (QN h6 hvs) λh7 h8=>?_;have h5:=eK h5;have e1:vs.size=xs.length:=by refine bH hvs.length ?_;simp
 refine PySem.wpAny_Slice (xM h1 λv1 t1 p1=>xM h2 λv2 t2 p2=>xM h3 λv3 t3 p3=>?_);have R':Rel P J st {s with heap:=s.heap.push {cls:=.type "slice",data:=.fields #[v1,v2,v3]},toks:=t3}:=(R.toks t3).grown ((Gr.refl _ _).push _);have hl':(s.heap.push {cls:=.type "slice",data:=.fields #[v1,v2,v3]}).IsList c vs:=(dP hl).push _;have key:wpAny (Md P) A (getItem (.ref c) (.ref s.heap.objs.size)) Q E {s with heap:=s.heap.push {cls:=.type "slice",data:=.fields #[v1,v2,v3]},toks:=t3}:=wpAny_getItem_list_slice hl' (Heap.IsSliceOf.new ..) p1 p2 p3 h8 (w0 h R' h7 out) (aI (ck e1) (v5 h5));cases sp with
 |none=>exact tail_any (ops:=[.ref s.heap.objs.size,.ref c]) hl'.typeIs list_getitem_lookup key rfl
 |some e=>exact tail_any (ops:=[.ref c,.ref s.heap.objs.size]) hl'.typeIs list_getitem_lookup key rfl
end
theorem GD(st:St)(o:AO):(st.push o).n=st.n+1:=by cases st;rfl
section
variable{J:G}
inductive G9(J:G)(n:Nat)(vs us:List Value)(bs:List AV):Prop
 |mk (j:Nat) (h1:j<=us.length) (h2:vs.length=n - j) (h:ay J bs (vs++us.drop (us.length - j))) (hl:bs.length=n):G9 J n vs us bs
theorem DF{n:Nat}{as ds bs:List AV}{vs us:List Value}(h:ay J as vs)(hd:ay J ds us)(e:Hp n as ds=some bs):G9 J n vs us bs:=by refine bb e λc e=>?_;refine aB c λc1 c2=>?_;have c1:=bt c1;have c2:=bt c2;rw [len_eq,len_eq] at c2;rw [len_eq] at c1;have e:=af e;rw [cW,len_eq,len_eq] at e;have l1:=h.length;have l2:=hd.length;have k:n - as.length<=us.length:=l2▸Nat.sub_le_iff_le_add'.mpr c2;have q:ay J bs (vs++us.drop (us.length - (n - as.length))):=e▸l2▸hd.kP.append h;refine ⟨n - as.length,k,l1.trans (Nf c1).symm,q,q.length.symm.trans (ae cJ (ae List.length_drop ?_))⟩;exact (congr (congrArg HAdd.hAdd l1) (Nf k)).trans (wh c1)
end
noncomputable def qv(k:Option NameKind):Bool:=oe false (λk=>lh k||ul k) k
noncomputable def uq(l:List Str):Bool:=aW true (λx r f=> !(r.contains x)&&f) l
theorem Qx{l:List Str}(h:uq l=true):l.Nodup:=by
 induction l with
 |nil=>exact .nil
 |cons x r ih=>refine au (bq h) λh1 h2=>?_;exact la.mpr ⟨λq=>by rw [List.contains_iff_mem.mpr q] at h1;exact aE h1,ih h2⟩
noncomputable def Bv(d:Data):FuncData:=match d with
 | .func fd=>fd
 |_=>default
noncomputable def ad6(d:Data):List Value:=match d with
 | .seq vs _=>vs.toList
 |_=>[]
noncomputable def ac0(d:Data):Array Value:=match d with
 | .fields vs=>vs
 |_=> #[]
noncomputable def tokV(v:Value):Tok:=match v with
 | .str _ t=>t
 | .int _ t=>t
 |_=>0
noncomputable def vU(P:Params)(v:Value):Obj:=match v with
 | .ref T=>((K P).lookup T).getD default
 |_=>default
noncomputable def fO(i:Nat):Obj:=aJ (aX i).st (aX i).qual (aX i).cd (aX i).dV (aX i).mod (aX i).tok
noncomputable def vP(i:Nat):FuncData:=Bv (fO i).data
noncomputable def pN(P:Params)(i:Nat):Array Value:=ac0 (vU P (.ref (aX i).cd)).data
noncomputable def jF(P:Params)(i:Nat):List Value:=ad6 (vU P (aX i).dV).data
noncomputable def dg:List (Nat×FX):=eY.drop 1
theorem Uy(P:Params):dg.map (λp=>(K P).lookup p.1)=dg.map (λp=>some (fO p.1)):=by kernel_rfl
theorem Uu:dg.map (λp=>(fO p.1).data)=dg.map (λp=>.func {vP p.1 with body:=.stmts (dR (aX p.1)),scope:=bK (aX p.1),globals:=mainGlobals,closure:=[],builtins:=builtinsNs,code:=.ref (aX p.1).cd,qualname:=(aX p.1).qual}):=by kernel_rfl
theorem Ut(P:Params):dg.map (λp=>(K P).lookup (aX p.1).cd)=dg.map (λp=>some {vU P (.ref (aX p.1).cd) with data:=.fields (pN P p.1)}):=by kernel_rfl
theorem Uz(P:Params):dg.map (λp=>(pN P p.1)[1]?)=dg.map (λp=>some (.str (aX p.1).qual (tokV ((pN P p.1).getD 1 .none)))):=by kernel_rfl
theorem Ux:dg.map (λp=>((bK (aX p.1)).kind,(bK (aX p.1)).isGenerator,(bK (aX p.1)).isCoroutine))=dg.map (λ_=>(.function,false,false)):=by kernel_rfl
theorem abt:dg.map (λp=>(pNames (aX p.1)).map (λn=>(qI ((bK (aX p.1)).names.lookup n),nm n)))=dg.map (λp=>p.2.ps):=by kernel_rfl
theorem RK:dg.map (λp=>(cellNames (bK (aX p.1)).names).map nm)=dg.map (λp=>p.2.cells):=by kernel_rfl
theorem abs:dg.map (λp=>uq (cellNames (bK (aX p.1)).names)&&(pNames (aX p.1)).all (λn=>qv ((bK (aX p.1)).names.lookup n)))=dg.map (λ_=>true):=by kernel_rfl
theorem RM:(eY.all λp=>bh p.1 2048)=true:=by kernel_rfl
noncomputable def p5(n:Nat):(Nat->Value)->List Value:=cC (λ_=>[]) (λ_ f v=>v 0::f λi=>v (i+1)) n
theorem GZ(vs:List Value):p5 vs.length (λi=>vs.getD i .none)=vs:=by
 induction vs with
 |nil=>rfl
 |cons a r ih=>exact congrArg (a:: ·) ih
noncomputable def IG(n:Nat):List Nat:=cC [] (λm l=>m::l) n
theorem Q7{j n:Nat}(h:j< n):j∈IG n:=by
 induction n with
 |zero=>exact absurd h (oj j)
 |succ n ih=>exact (Nat.lt_succ_iff_lt_or_eq.mp h).elim (λh=>.tail _ (ih h)) λh=>h▸ .head _
noncomputable def tasks:List ((Nat×FX)×Nat):=dg.flatMap λp=>(IG (len p.2.defs+1)).map λj=>(p,j)
noncomputable def bound(P:Params)(v:Nat->Value)(p:Nat×FX)(j:Nat):List (Str×Value):=(pNames (aX p.1)).zip (p5 (len p.2.ps - j) v++(jF P p.1).drop ((jF P p.1).length - j))
theorem P7(P:Params)(S:Setting)(v:Nat->Value):tasks.map (λt=>peek (K P) S (bindArgs (vP t.1.1) ⟨p5 (len t.1.2.ps - t.2) v,[]⟩))=tasks.map (λt=>some (bound P v t.1 t.2)):=by kernel_rfl
noncomputable def ve(a:AV)(v:Value):Value:=eq a v (no:=.none) (bo:=.bool) (it:=λe=>.int ((cZ e).getD 0) (tokV v)) (st:=λw=>.str ⟨((litS w).getD []).toArray⟩ (tokV v))
noncomputable def uJ(a:AV):Bool:=eq a false (no:=true) (bo:=λ_=>true) (it:=λe=>(cZ e).isSome) (st:=λw=>(litS w).isSome)
theorem Uv(P:Params):dg.map (λp=>(jF P p.1,p.2.defs.all uJ))=dg.map (λp=>(Cy ve p.2.defs (jF P p.1),true)):=by kernel_rfl
theorem Uw(P:Params):dg.map (λp=>(jF P p.1).length)=dg.map (λp=>p.2.defs.length):=by kernel_rfl
theorem Uc{J:G}{a:AV}{v:Value}(h:uJ a=true):VR J a (ve a v):=by
 cases a with
 |none=>exact .none
 |bool b=>exact .bool b
 |int e=>cases e with
  |lit i=>exact .int _ rfl
  |_=>exact aE h
 |str w=>cases w with
  |lit s=>exact .str _ rfl
  |_=>exact aE h
 |_=>exact aE h
theorem Ud{J:G}{as:List AV}:∀{vs:List Value},as.all uJ=true->vs.length=as.length->ay J as (Cy ve as vs):=by
 induction as with
 |nil=>exact λ_ _=>.nil
 |cons a r ih=>
  intro vs h hl;cases vs with
  |nil=>exact absurd hl (qi _).symm
  |cons v vs=>refine au (bq h) λh1 h2=>?_;exact .cons (Uc h1) (ih h2 (mC.inj hl))
theorem XU{Y:Type}{l:List (Nat×Y)}(hp:(l.all λp=>bh p.1 2048)=true):TM.WF 11 (mkT l)/\∀{i:Nat} {v:Y},i< 2048->(mkT l).get i=some v->(i,v)∈l:=by
 induction l with
 |nil=>exact ⟨.nil _,λ_ h=>aD h⟩
 |cons p r ih=>
  refine au (bq hp) λp1 p2=>?_;refine au (ih p2) λh1 h2=>?_;refine ⟨TM.iy _ _ _ _ h1,λ {i v} hi h=>?_⟩;have h:=(TM.mL _ 11 _ _ _ h1 (rl p1) hi).symm.trans h
  by_cases q:i=p.1
  ·rw [if_pos q] at h
   exact af h▸q▸ .head _
  ·rw [if_neg q] at h
   exact .tail _ (h2 hi h)
noncomputable def ua:Pos:=⟨847,4,850,81⟩
theorem xW:bY.st= .FunctionDef "told" (j6 bY) (dR bY) [] none [] (bK bY) none "told" ua:=by kernel_rfl
theorem UE:(eY.filter (λp=> !(ag p.1 1061))).map (λp=>p.2.body)=(eY.filter (λp=> !(ag p.1 1061))).map (λp=>sts (bK (aX p.1)) (dR (aX p.1))):=by kernel_rfl
theorem UD:(eY.filter (λp=>ag p.1 1061)).map (λp=>p.2.body)=(eY.filter (λp=>ag p.1 1061)).map (λp=>X.cons (.vy (nm "told")) (aK (bE 30 (bK (aX p.1))) ((dR (aX p.1)).drop 1))):=by kernel_rfl
theorem Rp:dR (aX 1061)=bY.st::(dR (aX 1061)).drop 1:=by kernel_rfl
theorem Qh{p:Nat×FX}(hp:p∈eY):p.2.body=sts (bK (aX p.1)) (dR (aX p.1)):=by
 cases c:ag p.1 1061 with
 |false=>exact map_at UE _ (Ni.mpr ⟨hp,c▸rfl⟩)
 |true=>have e:=map_at UD _ (Ni.mpr ⟨hp,c⟩);refine ae e (ae (aH c) (ae Rp ?_));show _=X.cons (bE 30 _ bY.st) _;refine ae xW ?_;show _=X.cons (bf (ag (nm "told") (nm "told")) (ny "told" _) .bad) _;refine ae (beq_refl (nm "told")) ?_;show _=X.cons (ny "told" _) _;unfold ny;exact ae (if_pos xW.symm) rfl
structure An(fd:FuncData)(x:FX)(ns:List Str)(sc:Scope)(body:List Stmt):Prop where
 Lz:fd.body= .stmts body
 scope:fd.scope=sc
 glob:fd.globals=mainGlobals
 blt:fd.builtins=builtinsNs
 kind:sc.kind= .function
 gen:sc.isGenerator=false
 co:sc.isCoroutine=false
 ps:ns.map (λn=>(qI (sc.names.lookup n),nm n))=x.ps
 cells:(cellNames sc.names).map nm=x.cells
 loc:(ns.all λn=>qv (sc.names.lookup n))=true
 IM:x.body=sts sc body
 nd:uq (cellNames sc.names)=true
noncomputable def sF(a:Nat):FuncData:={vP a with body:=.stmts (dR (aX a)),scope:=bK (aX a),globals:=mainGlobals,closure:=[],builtins:=builtinsNs,code:=.ref (aX a).cd,qualname:=(aX a).qual}
structure aaZ(P:Params)(a:Nat)(x:FX)(fd:FuncData):Prop where
 d:An fd x (pNames (aX a)) (bK (aX a)) (dR (aX a))
 at_:(K P).lookup a=some (fO a)
 data:(fO a).data= .func fd
 clos:fd.closure= []
 code:fd.code= .ref (aX a).cd
 qual:fd.qualname=(aX a).qual
 cd:(K P).lookup (aX a).cd=some {vU P (.ref (aX a).cd) with data:=.fields (pN P a)}
 q1:(pN P a)[1]?=some (.str (aX a).qual (tokV ((pN P a).getD 1 .none)))
 defs:∀J:G,ay J x.defs (jF P a)
 binds:∀(S:Setting) (v:Nat->Value) (j:Nat),j<=x.defs.length->peek (K P) S (bindArgs fd ⟨p5 (len x.ps - j) v,[]⟩)=some (bound P v (a,x) j)
theorem WO:Value.ref (aX 1061).cd= .ref 1060:=by kernel_rfl
theorem SS:(aX 1061).qual++(".<locals>.":Str)="_law_builtin.<locals>.":=by kernel_rfl
theorem Xp{a:Nat}{x:FX}(h:b6.get a=some x)(ha:a< 2048)(h0:a≠0):(a,x)∈eY/\(a,x)∈dg:=by
 have hm:(a,x)∈eY:=(XU RM).2 ha h;refine ⟨hm,?_⟩;have e0:eY=eY.take 1++dg:=(tq 1 eY).symm;rw [e0] at hm;refine (dZ.mp hm).resolve_left λq=>h0 ?_;have e1:(eY.take 1).map (·.1)= [0]:=by kernel_rfl
 have:a∈(eY.take 1).map (·.1):=jN q;rw [e1] at this;exact fe.mp this
theorem WT(P:Params){a:Nat}{x:FX}(h:b6.get a=some x)(ha:a< 2048)(h0:a≠0):aaZ P a x (sF a):=by
 refine au (Xp h ha h0) λm1 m=>?_;have h1:=map_at Uu (a,x) m;have h2:=map_at Ux (a,x) m;have h3:=map_at abs (a,x) m;have h4:=map_at (Uv P) (a,x) m;have h5:=map_at abt (a,x) m;have h6:=map_at RK (a,x) m;have h7:=map_at (Uy P) (a,x) m;have h8:=map_at (Ut P) (a,x) m;have h9:=map_at (Uz P) (a,x) m;have h10:=map_at (Uw P) (a,x) m;have hd:(fO a).data= .func (sF a):=h1;have e:vP a=sF a:=congrArg Bv hd;have k:((bK (aX a)).kind,(bK (aX a)).isGenerator,(bK (aX a)).isCoroutine)=(.function,false,false):=h2;have n:(uq (cellNames (bK (aX a)).names)&&(pNames (aX a)).all (λn=>qv ((bK (aX a)).names.lookup n)))=true:=h3;have z:(jF P a,x.defs.all uJ)=(Cy ve x.defs (jF P a),true):=h4;have b:x.body=sts (bK (aX a)) (dR (aX a)):=Qh m1
 exact {
  d:={Lz:=rfl,scope:=rfl,glob:=rfl,blt:=rfl,kind:=(bU.inj k).1,gen:=(bU.inj (bU.inj k).2).1,co:=(bU.inj (bU.inj k).2).2,ps:=h5,cells:=h6,loc:=(bq n).2,IM:=b,nd:=(bq n).1}
  at_:=h7
  data:=hd
  clos:=rfl
  code:=rfl
  qual:=rfl
  cd:=h8
  q1:=h9
  defs:=λJ=>(bU.inj z).1▸Ud (bU.inj z).2 (h10)
  binds:=λS v j hj=>e▸map_at (P7 P S v) ((a,x),j) (List.mem_flatMap.mpr ⟨_,m,oq.mpr ⟨j,Q7 (fg (len_eq x.defs▸hj)),rfl⟩⟩)}
noncomputable def G.r9(J:G)(a:Addr):G:={J with nf:=a::J.nf}
theorem G.Ey(J:G)(a:Addr):J.Le (J.r9 a):=⟨bT _,bT _,bT _,rfl,rfl,rfl,bT _,λ_ _ e=>e,rfl,λ_ h=>.tail _ h⟩
noncomputable def F7:Obj:={cls:=.type "frame",data:=.dict #[]}
section
variable{P:Pr}{J:G}{st:St}{s:Shared}{A:Around}{E:Value->Shared->Prop}
theorem Rel.r9(R:Rel P J st s){i:Nat}{a:Addr}{o:Obj}{ao:AO}(hi:J.aA[i]?=some a)(hg:st.get i=some ao)(hf:eg ao)(ho:s.heap.get? a=some o)(hd:∀vs,o.data≠ .fields vs):Rel P (J.r9 a) st s:=by have le:=J.Ey a;exact {R with gh:=P.gm le R.gh,x3:=R.x3.imp λvs h=>⟨h.1,h.2.mono le⟩,objs:=λj b9 hj e=>(R.objs j b9 hj e).imp λb h=>h.imp λo h=>⟨h.1,h.2.1,h.2.2.mono le⟩,exc:=λi e=>(R.exc i e).imp λb h=>⟨h.1,kx.like (J:=J) (J':=J.r9 a) rfl rfl h.2⟩,aU:=λp hp=>(R.aU p hp).mono le,nf:=cT.mpr ⟨⟨⟨o,ho,hd⟩,R.apart i ao _ (R.lt hi) hg hi,bx hi,λj b9 hj e hb=>af (hg.symm.trans (R.inj hi hb▸e))▸hf⟩,R.nf⟩}
noncomputable def tU:(Str×NameKind)->List (Str×Addr)->Sem (ForInStep (List (Str×Addr))):=λx c=>if (x.snd==NameKind.cell)=true then do
  let a<-alloc {cls:=Value.type "cell",data:=Data.cell none}
  pure (ForInStep.yield ((x.fst,a)::c))
 else pure (ForInStep.yield c)
structure Cells(J:G)(names:List Str)(base:Nat)(cells cells':List (Str×Addr)):Prop where
 out:∀x,x ∉ names->cells'.lookup x=cells.lookup x
 at_:∀j x,names[j]?=some x->∃a,cells'.lookup x=some a/\J.aA[base+j]?=some a
theorem Qs{Y:Type}{x y:Str}{a:Y}{l:List (Str×Y)}(h:x≠y):((y,a)::l).lookup x=l.lookup x:=by refine ae gP ?_;exact ae (beq_false_of_ne h) rfl
theorem Pt{Q:List (Str×Addr)->Shared->Prop}{st':St}{names:List (Str×NameKind)}:∀{cells:List (Str×Addr)} {st:St} {J:G} {s:Shared},(cellNames names).Nodup->pushCells ((cellNames names).map nm) st=some st'->Rel P J st s->
  (∀J' s' cells',J.Le J'->Rel P J' st' s'->Cells J' (cellNames names) st.n cells cells'->Q cells' s')->wpAny (Md P) A (forIn names cells tU) Q E s:=by
 induction names with
 |nil=>intro cells st J s _ hp R hk;have aa:=af hp;clear hp;subst aa;rw [Nu];exact aT (hk J s cells (.refl _) R ⟨λ_ _=>rfl,λj x h=>aD h⟩)
 |cons p r ih=>
  obtain ⟨n,kd⟩:=p;intro cells st J s nd hp R hk;rw [jP];cases c:lh kd with
  |false=>
   have en:cellNames ((n,kd)::r)=cellNames r:=by unfold cellNames;exact congrArg (List.map (·.1)) (List.filter_cons_of_neg (p:=λp:Str×NameKind=>lh p.2) (a:=(n,kd)) λq=>aE (c.symm.trans q))
   have eb:tU (n,kd) cells=pure (.yield cells):=by cases kd<;>first |rfl |exact cH c
   rw [en] at nd hp hk;rw [eb];exact az (aT (ih nd hp R hk))
  |true=>
   have en:cellNames ((n,kd)::r)=n::cellNames r:=by unfold cellNames;exact congrArg (List.map (·.1)) (List.filter_cons_of_pos (p:=λp:Str×NameKind=>lh p.2) (a:=(n,kd)) c)
   have eb:tU (n,kd) cells=(alloc {cls:=Value.type "cell",data:=Data.cell none}>>= λa=>pure (.yield ((n,a)::cells))):=by cases kd<;>first |rfl |exact aE c
   rw [en] at nd hp hk;obtain ⟨n1,n2⟩:=la.mp nd;refine ah (show ob (ca st (.cell none)) (pushCells ((cellNames r).map nm))=some st' from hp) λst1 h1 h2=>?_;obtain ⟨q,rfl⟩:=fD h1;obtain ⟨R1,ha⟩:=R.new (o:={cls:=.type "cell",data:=.cell none}) (ao:=.cell none) rfl rfl q;rw [eb];refine az (az (wpAny_alloc (aT ?_)));refine ih n2 h2 R1 λJ' s' cells' l1 R' C=>hk J' s' cells' ((J.d8 s.heap.objs.size).trans l1) R' ⟨λx hx=>?_,λj x hj=>?_⟩
   ·exact (C.out x λq=>hx (.tail _ q)).trans (Qs λq=>hx (q▸ .head _))
   ·cases j with
    |zero=>obtain rfl:n=x:=af hj;exact ⟨s.heap.objs.size,(C.out n n1).trans MD,aN l1.aA ha⟩
    |succ j=>exact (C.at_ j x hj).imp λa z=>⟨z.1,dx st.n 1 j▸GD st (.cell none)▸z.2⟩
theorem TS{fr:Fr}{n:Bool×Nm}{ns:List (Bool×Nm)}{v:AV}{q:List AV}{st st':St}(h:bindAll fr (n::ns) (v::q) st=some st'):ob (bf n.1 (kf fr n.2 v st) (fE fr n.2 v st)) (bindAll fr ns q)=some st':=by
 have h:(match bf n.1 (kf fr n.2 v st) (fE fr n.2 v st) with |some st'=>bindAll fr ns q st' |none=>none)=some st':=h;cases c:bf n.1 (kf fr n.2 v st) (fE fr n.2 v st) with
 |none=>rw [c] at h;exact aD h
 |some a=>rw [c] at h;exact h
theorem Pq{fr:Fr}{env:Env}{Q:PUnit->Shared->Prop}{st':St}{ns:List Str}:∀{bs:List AV} {us:List Value} {st:St} {s:Shared},(ns.all λn=>qv ((ak fr.e).names.lookup n))=true->ay J bs us->bs.length=ns.length->bindAll fr (ns.map λn=>(qI ((ak fr.e).names.lookup n),nm n)) bs st=some st'->Rel P J st s->cA J fr.e env->(∀s',Rel P J st' s'->Q ⟨⟩ s')->
  wpAny (Md P) A (forIn (ns.zip us) PUnit.unit λx _=>do storeName env x.fst x.snd;pure (ForInStep.yield PUnit.unit)) Q E s:=by
 induction ns with
 |nil=>intro bs us st s _ _ _ hb R _ hQ;have aa:=af hb;clear hb;subst aa;rw [List.zip_nil_left,Nu];exact aT (hQ s R)
 |cons n r ih=>
  intro bs us st s hl hv hlen hb R F hQ;cases bs with
  |nil=>exact absurd hlen (qi _).symm
  |cons a as=>
   refine bp hv.c λv vs ai h hr=>?_;have aa:=ai;clear hv ai;subst aa;refine au (bq hl) λl1 l2=>?_;refine am (cz (TS hb)) λst1 c hb=>?_;rw [List.zip_cons_cons,jP];refine az (az ?_);have l1:qv ((ak fr.e).names.lookup n)=true:=l1;have c:bf (qI ((ak fr.e).names.lookup n)) (kf fr (nm n) a st) (fE fr (nm n) a st)=some st1:=c;cases d:(ak fr.e).names.lookup n with
   |none=>rw [d] at l1;exact aE l1
   |some kd=>
    rw [d] at l1 c;cases kd with
    | «local» =>exact mQ R F d c h λs' R'=>aT (ih l2 hr (mC.inj hlen) hb R' F hQ)
    |cell=>exact xV R F (.inl d) c h λs' R'=>aT (ih l2 hr (mC.inj hlen) hb R' F hQ)
    |_=>exact aE l1
theorem XL{Y:Type}(n:Nm)(a b:List (Nm×Y)):lk n (app a b)=oe (lk n b) some (lk n a):=by
 induction a with
 |nil=>rfl
 |cons p r ih=>
  show bf (ag n p.1) (some p.2) (lk n (app r b))=oe (lk n b) some (bf (ag n p.1) (some p.2) (lk n r));cases ag n p.1 with
  |true=>rfl
  |false=>exact ih
theorem Ps{l:List Nm}{x:Nm}{c:cL}:∀{base:Nat},lk x (jh l base)=some c->∃j,l[j]?=some x/\c= .at (base+j):=by
 induction l with
 |nil=>exact λh=>aD h
 |cons n r ih=>
  intro base h;have h:bf (ag x n) (some (.at base)) (lk x (jh r (base+1)))=some c:=h;cases q:ag x n with
  |true=>rw [q] at h;exact ⟨0,congrArg some (aH q).symm,(af h).symm⟩
  |false=>rw [q] at h;exact (ih h).elim λj z=>⟨j+1,z.1,z.2.trans (congrArg _ (dx base 1 j))⟩
theorem Si{k:Kont}{r:bG}{st:St}(h:leave k r st=true):(r= .next/\k (.val .none) st=true)\/(∃v,r= .ret v/\k (.val v) st=true)\/ ∃v,r= .exc v/\k (.exc v) st=true:=by
 cases r with
 |next=>exact .inl ⟨rfl,h⟩
 |ret v=>exact .inr (.inl ⟨v,rfl,h⟩)
 |exc v=>exact .inr (.inr ⟨v,rfl,h⟩)
 |_=>exact aE h
noncomputable def AA(sc:Scope)(g:Addr)(q:Str)(f:Addr)(code:Value)(b L:Addr)(cells:List (Str×Addr)):Env:={scope:=sc,locals:=L,globals:=g,cells:=cells,qual:=q,func:=some f,code:=code,frame:=some L,builtins:=b}
theorem new_env{M:Model}{sc:Scope}{g f b:Addr}{q:Str}{code:Value}{clos:List (Str×Addr)}{binds:List (Str×Value)}{Q:Env->Shared->Prop}(h:wpAny M A (forIn sc.names clos tU) (λcells s2=>wpAny M A (forIn binds PUnit.unit λx _=>do storeName (AA sc g q f code b s.heap.objs.size cells) x.fst x.snd;pure (ForInStep.yield PUnit.unit)) (λ_=>Q (AA sc g q f code b s.heap.objs.size cells)) E s2) E {s with heap:=s.heap.push F7}):wpAny M A (newFunctionEnv sc g clos binds q (some f) code none b) Q E s:=by unfold newFunctionEnv;simp only [MR,k8,if_false];exact az (wpAny_alloc (az (da h (λcells s2 h2=>az (da h2 (λ_ s3 h3=>aT h3) λ_ _ h=>h)) λ_ _ h=>h)))
theorem dB.deep{c:Cx}{e:gA}{env:Env}(F:dB P J c A)(hE:cA J e env):bj P J ⟨e,⟨c.d+1,c.u+4,e::c.ups,c.hd⟩⟩ (A.deeper env) env:=by
 refine am F.frames λenvs g1 g2=>?_;have e1:(A.deeper env).frames=some (env::(envs++P.outer)):=by show A.frames.map (env:: ·)=_;exact ae g1 rfl
 exact ⟨⟨dx c.d 301 1▸jM F.depth 1,aI (jM F.units 3) (oz _),λq=>F.hd q,env::envs,e1,.cons hE g2⟩,hE,λ_=>⟨_,e1⟩⟩
structure mS(J:G)(clos:List (Str×Addr))(cl:List (Nm×cL))(names:List Str):Prop where
 at_:∀(y:Str) r,lk (nm y) cl=some r->ez J clos y (some r)
 no:∀(y:Str) r,lk (nm y) cl=some r->y ∉ names
theorem ez.like{l l':List (Str×Addr)}{x:Str}(e:l'.lookup x=l.lookup x){c:Option cL}(h:ez J l x c):ez J l' x c:=by
 cases c with
 |none=>trivial
 |some c=>cases c with
  | «at» i=>exact h.imp λa h=>⟨e.trans h.1,h.2⟩
  |con k v=>refine FS h λa o w h1 h2=>?_;exact ⟨a,o,w,e.trans h1,h2⟩
theorem Rv{cl:List (Nm×cL)}{x:FX}{names:List Str}{base:Nat}{clos cells:List (Str×Addr)}(hx:names.map nm=x.cells)(H:mS J clos cl names)(C:Cells J names base clos cells)(y:Str):ez J cells y (lk (nm y) (app cl (jh x.cells base))):=by
 refine ae (XL (nm y) cl (jh x.cells base)) ?_;cases c:lk (nm y) cl with
 |some r=>exact (H.at_ y r c).like (C.out y (H.no y r c))
 |none=>
  show ez J cells y (lk (nm y) (jh x.cells base));cases d:lk (nm y) (jh x.cells base) with
  |none=>trivial
  |some r=>refine am (Ps d) λj h1 ai=>?_;have aa:=ai;clear d ai;subst aa;rw [<-hx,ib] at h1;refine am (mo.mp h1) λw h2 h3=>?_;exact C.at_ j y (dM h3▸h2)
theorem mS.mono{J':G}(l:J.Le J'){clos:List (Str×Addr)}{cl:List (Nm×cL)}{names:List Str}(h:mS J clos cl names):mS J' clos cl names:=⟨λy r e=>(h.at_ y r e).mono l,h.no⟩
theorem EE{sf:Self}{c:Cx}{fi:Nat}{fn:AV}{cl:List (Nm×cL)}{x:FX}{bs:List AV}{us vs:List Value}{k:Kont}{fd:FuncData}{ns:List Str}{body:List Stmt}{f:Addr}{o:Obj}{RR:Result->Shared->Prop}(H:ep P sf)(D:An fd x ns (bK (aX fi)) body)(R:Rel P J st s)(F:dB P J c A)(hc:c.d<=100)(ho:s.heap.get? f=some o)(hd:o.data= .func fd)(hcr:s.heap.CodeRec fd.code fd.qualname)
  (hB:BindsTo s fd ⟨vs,[]⟩ (ns.zip us)) (hu:ay J bs us) (hl:bs.length=ns.length) (hC:mS J fd.closure cl (cellNames (bK (aX fi)).names)) (hq:fi=1061->fd.code= .ref 1060/\fd.qualname++(".<locals>.":Str)="_law_builtin.<locals>.") (hr:DU sf c x bs st k ⟨fi,none,st.n,fn,app cl (jh x.cells (st.n+1)),st.n⟩=true) (post:Post P k J (sx RR)):codeAny (Md P) A (.call (.ref f) ⟨vs,[]⟩) RR s:=by
 refine aF hr λst1 h3 h4=>?_;refine ah h3 λst2 h5 h6=>?_;refine ah h5 λst3 h7 h8=>?_;refine au (fD h7) λq0 aq=>?_;have aa:=aq;clear h7 aq;subst aa;have lt:st.n< 2048:=dy q0 (by decide);refine codeAny_call_function (dy F.depth (dy (jM hc 301) (by decide))) ho hd (D.scope▸D.co) (D.scope▸D.gen) D.Lz hcr (hB _ _ _ _ (new_env ?_));have hle:=J.d8 s.heap.objs.size;refine au (R.new (o:=F7) (ao:=.dict 100000 true []) rfl (Py rfl (by decide)) q0) λR1 ha1=>?_;have R2:=R1.r9 ha1 ((St.qH st R.wf _ lt lt).trans (if_pos rfl)) ⟨_,_,rfl,cG _⟩ (k7 _ rfl) (λvs q=>cQ PySem.Data.ctorIdx q rfl);have adc:=hle.trans ((J.push s.heap.objs.size).Ey s.heap.objs.size);rw [<-D.cells] at h8;refine ae D.scope (Pt (Qx D.nd) h8 R2 λJ3 s3 cells l3 R3 C=>?_);have l4:=adc.trans l3;have hE:cA J3 ⟨fi,none,st.n,fn,app cl (jh x.cells (st.n+1)),st.n⟩ (AA (bK (aX fi)) fd.globals (fd.qualname++".<locals>.") f fd.code fd.builtins s.heap.objs.size cells):=⟨λx c h=>.inl h,D.kind,aN l3.aA ha1,D.glob,D.blt,⟨_,aN l3.aA ha1,rfl,l3.nf _ (.head _)⟩,λy=>Rv D.cells (hC.mono l4) (GD st _▸C) y,λ_ h=>hq h⟩;rw [<-D.ps] at h6;refine Pq (fr:=⟨⟨fi,none,st.n,fn,app cl (jh x.cells (st.n+1)),st.n⟩,⟨c.d+1,c.u+4,_::c.ups,c.hd⟩⟩) D.loc (hu.mono l4) hl h6 R3 hE λs4 R4=>?_;refine ⟨R4.nolimit,codeAny_func ?_⟩;have F4:=(F.mono l4).deep hE;refine H.sts h4 rfl 30 body D.IM.symm J3 s4 _ _ _ _ R4 F4 λr st' J' s' q xo l5 R5=>?_;obtain ⟨rfl,q⟩ | ⟨v,rfl,q⟩ | ⟨v,rfl,q⟩:=Si q
 ·exact post _ _ _ _ q trivial (l4.trans l5) R5 _ .none
 ·exact λw hw=>post _ _ _ _ q trivial (l4.trans l5) R5 w hw
 ·refine am xo λi aq hxi=>?_
  have aa:=aq;clear q xo aq;subst aa;exact λw hw=>Pe R5 hxi rfl (F4.mono l5) hw λs6 R6 _=>post _ _ _ _ q ⟨i,rfl,hxi⟩ (l4.trans l5) R6 w hw
theorem DG{sf:Self}{c:Cx}{a:Nat}{x:FX}{args:List AV}{k:Kont}(H:ep P sf)(hx:b6.get a=some x)(ha:a< 2048)(h0:a≠0)(hd:c.d<=100)(hr:oJ sf c a (.glob a) [] x args st k=true):bZ P c a args st k:=λJ s A RR vs R F hvs post=>by
 have D:=WT P.W.w.params hx ha h0;refine aF hr λbs h1 h2=>?_;cases DF hvs (D.defs J) h1 with
 |mk j j1 j2 hb hl=>
  have lp:len x.ps=(pNames (aX a)).length:=(len_eq _).trans ((congrArg mx D.d.ps).symm.trans (dz _));have B:BindsTo s (sF a) ⟨vs,[]⟩ ((pNames (aX a)).zip (vs++(jF P.W.w.params a).drop ((jF P.W.w.params a).length - j))):=kp_binds R.k λS=>by have q:=D.binds S (λi=>vs.getD i .none) j ((D.defs J).length▸j1);unfold bound at q;rw [<-j2,GZ] at q;exact q
  have hC:mS J (sF a).closure ([]:List (Nm×cL)) (cellNames (bK (aX a)).names):=⟨λy r e=>aD (show none=some r from e),λy r e=>aD (show none=some r from e)⟩;exact EE H D.d R F hd (R.k _ _ D.at_) D.data ⟨_,_,_,_,D.code,R.k _ _ D.cd,rfl,D.q1⟩ B hb (hl.trans lp) hC (λe=>e▸⟨WO,SS⟩) h2 post
end
theorem Ds:iu=nm "name":=by kernel_rfl
noncomputable def lM:FX:=(b6.get 0).getD ⟨[],[],[],.bad⟩
noncomputable def Bw(cN:Addr)(cc:Addr)(doc pm ctv:Value):FuncData:=Bv (Ai cN cc doc pm ctv).data
theorem Tx:b6.get 0=some lM:=by kernel_rfl
theorem PS(P:Params)(S:Setting)(cN cc:Addr)(doc pm ctv:Value)(v:Nat->Value):peek (K P) S (bindArgs (Bw cN cc doc pm ctv) ⟨p5 (len lM.ps) v,[]⟩)=some ((pNames bY).zip (p5 (len lM.ps) v)):=by kernel_rfl
theorem aaI(cN cc:Addr)(doc pm ctv:Value):An (Bw cN cc doc pm ctv) lM (pNames bY) (bK (aX 0)) (dR bY):=⟨by kernel_rfl,by kernel_rfl,rfl,rfl,by kernel_rfl,by kernel_rfl,by kernel_rfl,by kernel_rfl,by kernel_rfl,by kernel_rfl,by kernel_rfl,by kernel_rfl⟩
theorem Wg:cellNames (bK (aX 0)).names= []:=by kernel_rfl
theorem Tz:(pNames bY).length=len lM.ps:=by kernel_rfl
theorem Wh:lM.defs= []:=by kernel_rfl
section
variable{P:Pr}{J:G}{st:St}{s:Shared}{A:Around}{E:Value->Shared->Prop}
theorem Wf{w:SW}{cN:Addr}{oc:Obj}{v:Value}(h1:J.fz cN=some oc)(h2:oc.data= .cell (some v))(hw:VR J (.str w) v):mS J [(("name":Str),cN)] [(iu,.con 0 (.str w))] []:=by refine ⟨λy r h=>?_,λy r h=>List.not_mem_nil⟩;refine au (fu (show bf (ag (nm y) iu) (some (cL.con 0 (.str w))) none=some r from h)) λe h=>?_;have aa:=af h;clear h;subst aa;obtain rfl:y="name":=dM ((aH e).trans Ds);exact ⟨cN,oc,v,MD,h1,h2,hw⟩
theorem P9{sf:Self}{c:Cx}{w:SW}{args:List AV}{k:Kont}(H:ep P sf)(hd:c.d<=100)(hr:F0 sf c w args st k=true):lB P c (.told w) args st k:=λJ s A Q E fv vs R F hf hvs post=>by
 refine am (bI hr) λx hx hr=>?_;obtain rfl:=af (Tx.symm.trans hx);cases hf.out with
 | @mk f cN cc oc oo doc pm ctv us t v fz1 fz2 fz3 fz4 LP fz6 hw=>
 refine fB (R.fz _ _ fz1) λ_ _ o' ho ho'=>?_;obtain rfl:=ho'.plain λen n q=>cQ PySem.Data.ctorIdx q rfl;refine fB (R.fz _ _ fz4) λ_ _ o2 z1 z2=>?_;obtain rfl:=z2.plain λen n q=>cQ PySem.Data.ctorIdx (LP.symm.trans q) rfl;refine aF hr λbs h1 h2=>?_;have hn:ay J lM.defs []:=Wh▸ .nil;cases DF hvs hn h1 with
 |mk j j1 j2 hb hl=>
  obtain rfl:j=0:=Nat.le_zero.mp j1;have hb:ay J bs vs:=by have e:vs++([]:List Value).drop 0=vs:=i8 vs;exact e▸hb
  have B:BindsTo s (Bw cN cc doc pm ctv) ⟨vs,[]⟩ ((pNames bY).zip vs):=kp_binds R.k λS=>by have q:=PS P.W.w.params S cN cc doc pm ctv λi=>vs.getD i .none;have e:len lM.ps=vs.length:=j2.symm;rw [e,GZ] at q;exact q
  exact wpAny_call (EE H (aaI cN cc doc pm ctv) R F hd ho rfl ⟨cc,_,us,t,rfl,z1,LP,fz6⟩ B hb (hl.trans Tz.symm) (Wg▸Wf fz2 fz3 hw) (λe=>absurd e (by decide)) h2 post)
end
section
variable{P:Pr}{J:G}{st:St}{s:Shared}{A:Around}{E:Value->Shared->Prop}
inductive Lr(J:G)(pre:Option Nat)(xs:List AV):Obj->Prop
 |mk {vs:Array Value} {n:Nat} (p q:List Value) (h1:vs.toList=p++q) (h2:ay J xs q) (h3:p.length<=8000000) (h4:∀vs' n' xs' q',vs'.toList=p++q'->ay J xs' q'->OR J (fI vs' n') (.list pre xs')):Lr J pre xs (fI vs n)
theorem xK{o:Obj}{pre:Option Nat}{xs:List AV}(h:OR J o (.list pre xs)):Lr J pre xs o:=by
 obtain ⟨vs,n,rfl,h⟩:=h;cases pre with
 |none=>exact .mk [] vs.toList rfl h (ig _) λvs' n' xs' q' e r=>⟨vs',n',rfl,show ay J xs' vs'.toList from e.symm▸r⟩
 |some k=>obtain ⟨N,p,q,h1,h2,h3,h4,h5⟩:=h;exact .mk p q h3 h5 (by rw [h4.length,dz];exact h2) λvs' n' xs' q' e r=>⟨vs',n',rfl,N,p,q',h1,h2,e,h4,r⟩
theorem CS:fb jT="list.append":=by kernel_rfl
theorem CT:fb jU="list.extend":=by kernel_rfl
theorem EZ:fb ko="list.pop":=by kernel_rfl
theorem EY:fb pq="dict.get":=by kernel_rfl
theorem Cp:fb tD="str.startswith":=by kernel_rfl
theorem Pg:jT=nm ("append":Str):=by kernel_rfl
theorem Ph:jU=nm ("extend":Str):=by kernel_rfl
theorem SB:ko=nm ("pop":Str):=by kernel_rfl
theorem SA:pq=nm ("get":Str):=by kernel_rfl
theorem Nq:tD=nm ("startswith":Str):=by kernel_rfl
theorem Ij{a b:Bool}(h:(a||b)=true):a=true\/b=true:=dw.mp h
theorem TR{m:Nm}(h:I2 m=true):m=jT\/m=jU\/m=ko:=gB (m:=λb=>b=true->m=jT\/m=jU\/m=ko) (λc _=>.inl (aH c)) (λ_=>gB (m:=λb=>b=true->m=jT\/m=jU\/m=ko) (λc _=>.inr (.inl (aH c))) λ_ h=>.inr (.inr (aH h))) h
theorem Rg{l:Bool}{m:Nm}(h:Hn l m=true):l=false/\I1 m=true:=by
 cases l with
 |true=>exact aE h
 |false=>exact ⟨rfl,h⟩
theorem rP{m x:Str}{n:Nat}(h:nm m=n)(e:n=nm x):m=x:=dM (h.trans e)
theorem UF{Q:Value×List Value->Shared->Prop}{v:AV}{m:Str}{ov:Value}{pl:Sem Bool}(h:vJ v (nm m) st=true)(R:Rel P J st s)(hv:VR J v ov)(hQ:∀t,Q (.builtin (fb (nm m)),[ov]) {s with toks:=t}):wpAny (Md P) A (getMethod ov m pl) Q E s:=by
 have hq:Q (.builtin (fb (nm m)),[ov]) s:=hQ s.toks;clear hQ;obtain h |h:=Ij h
 ·refine aF h λw e h=>?_
  rw [ft e] at hv;refine ba hv.str_inv λx t ai _=>?_;have aa:=ai;clear hv ai;subst aa;have e:=aH h;rw [e,Cp] at hq;refine ae (rP e Nq) ?_;exact PySem.GM.startswith hq
 ·refine aF h λi e h=>?_
  rw [fq e] at hv;refine aF h λo h1 h=>?_;obtain h |h:=Ij h
  ·refine aF h λp e h=>?_
   refine au (Rg h) λc h=>?_;have e2:=aH h;rw [e2,EY] at hq;refine ae (rP e2 SA) ?_;rw [qt e,c] at h1;refine tI (t8 R h1 hv) λd en ai hd hz hs hm hf=>?_;have aa:=ai;clear hv ai;subst aa;exact getMethod_builtin hm.typeIs PySem.F.plainAttrs_dict PySem.F.slot_dict_get PySem.F.type_dict_get hm.noDict hq
  ·refine aF h λp e h=>?_
   rw [mz e] at h1;obtain ⟨a,o,rfl,ha,ho,⟨vs,n,rfl, -⟩,hz⟩:=R.at_ h1 hv;have hT:s.TypeIs (.ref a) "list":=⟨_,ho,rfl⟩;have hd:∀b,Value.ref a= .ref b->∃o,s.heap.get? b=some o/\o.dict=none:=λb q=>Value.ref.inj q▸⟨_,ho,rfl⟩;obtain e |e |e:=TR h
   ·rw [e,CS] at hq
    refine ae (rP e Pg) ?_;exact getMethod_builtin hT PySem.F.plainAttrs_list PySem.F.slot_list_append PySem.F.type_list_append hd hq
   ·rw [e,CT] at hq
    refine ae (rP e Ph) ?_;exact getMethod_builtin hT PySem.F.plainAttrs_list PySem.F.slot_list_extend PySem.F.type_list_extend hd hq
   ·rw [e,EZ] at hq
    refine ae (rP e SB) ?_;exact getMethod_builtin hT PySem.F.plainAttrs_list PySem.F.slot_list_pop PySem.F.type_list_pop hd hq
theorem ke{Y:Type}{l:List Y}{a:Y}(h:one l=some a):l= [a]:=by
 cases l with
 |nil=>exact aD h
 |cons b l=>
  cases l with
  |nil=>exact af h▸rfl
  |cons c l=>exact aD h
theorem N8{Y:Type}{l:List Y}(h:dropLast l=none):l= []:=by
 cases l with
 |nil=>rfl
 |cons a l=>
  have h:(match dropLast l with |none=>some ([],a) |some (l,b)=>some (a::l,b))=none:=h;cases c:dropLast l with
  |none=>rw [c] at h;exact aD h.symm
  |some p=>rw [c] at h;exact aD h.symm
theorem CG{Y:Type}{l r:List Y}{x:Y}(h:dropLast l=some (r,x)):l=r++ [x]:=by
 induction l generalizing r x with
 |nil=>exact aD h
 |cons a l ih=>
  have h:(match dropLast l with |none=>some ([],a) |some (l,b)=>some (a::l,b))=some (r,x):=h;cases c:dropLast l with
  |none=>rw [c] at h;refine au (bU.inj (af h)) λaZ aq=>?_;have aa:=aZ;clear h aZ;subst aa;have aa:=aq;clear aq h;subst aa;refine ae (N8 c) ?_;rfl
  |some p=>rw [c] at h;refine au (bU.inj (af h)) λaZ aq=>?_;have aa:=aZ;clear h aZ;subst aa;have aa:=aq;clear aq h;subst aa;refine ae (ih c) ?_;rfl
theorem ay.split{J:G}{as bs:List AV}{us:List Value}(h:ay J (as++bs) us):∃u1 u2,us=u1++u2/\ay J as u1/\ay J bs u2:=by
 induction as generalizing us with
 |nil=>exact ⟨[],us,rfl,.nil,h⟩
 |cons a as ih=>refine bp h.c λu us ai h0 r=>?_;have aa:=ai;clear ai;subst aa;refine bp (ih r) λu1 u2 ai h1 h2=>?_;have aa:=ai;clear r ai;subst aa;exact ⟨u::u1,u2,rfl,.cons h0 h1,h2⟩
theorem list_set(R:Rel P J st s){i:Nat}{a:Addr}{pre:Option Nat}{xs:List AV}{vs vs':Array Value}{n n':Nat}{h':Heap}{b9:AO}(hg:st.get i=some (.list pre xs))(ha:J.aA[i]?=some a)(ho:s.heap.get? a=some (fI vs n))(hs:eJ a s.heap h')(ho':h'.get? a=some (fI vs' n'))(hor:OR J (fI vs' n') b9):Rel P J (st.set i b9) {s with heap:=h'}:=R.upd ha (R.apart i _ a (R.lt ha) hg ha) (R.jp ha ho (.inl λvs q=>by cases q)) hs ho' hor (.inr ⟨_,hg,λ ⟨c,e,q,h⟩=>by cases q⟩)
theorem Sj{Q:Value->Shared->Prop}{i:Nat}{pre:Option Nat}{xs:List AV}{ov:Value}{as:List AV}{us:List Value}{l:List (AV×St)}(hg:st.get i=some (.list pre xs))(h:HR i pre xs as st=some l)(R:Rel P J st s)(hv:VR J (.ref i) ov)(hus:ay J as us)(out:Out P J l Q):wpAny (Md P) A (c9 (.builtin "list.append") (ov::us)) Q E s:=by
 refine ah h λx h1 h2=>?_;refine bb h2 λz2 z3=>?_;have aa:=af z3;clear h h2 z3;subst aa;rw [ke h1] at hus;refine am hus.l1 λu aq hu=>?_;have aa:=aq;clear hus aq;subst aa;refine mF (R.at_ hg hv) λa o ai ha ho hor hz=>?_;have aa:=ai;clear hv ai;subst aa;cases xK hor with
 | @mk vs n p q hpq hq hp mk=>
  refine wpAny_list_append_plain ⟨n,ho⟩ (λh' ⟨n',ho'⟩ hs=>?_) ?_
  ·exact out _ (.head _) J _ _ (.refl _) (list_set R hg ha ho hs ho' (mk _ n' _ (q++ [u]) (by rw [MT,hpq,jO]) (cW xs [x]▸ay.append (.cons hu .nil) hq))) .none
  ·have e:=congrArg mx hpq
   have z2:=eK z2;rw [cJ,hq.length,dJ] at e;exact aI (ck e) (aI (i9 hp z2) (by decide:8000000+1000000<=sizeLine))
theorem Sk{Q:Value->Shared->Prop}{i:Nat}{pre:Option Nat}{xs:List AV}{ov:Value}{as:List AV}{us:List Value}{l:List (AV×St)}(hg:st.get i=some (.list pre xs))(h:HT i pre xs as st=some l)(R:Rel P J st s)(hv:VR J (.ref i) ov)(hus:ay J as us)(out:Out P J l Q):wpAny (Md P) A (c9 (.builtin "list.extend") (ov::us)) Q E s:=by
 refine ah h λx h1 h2=>?_;refine ah h2 λys h3 h4=>?_;refine bb h4 λz4 z5=>?_;have aa:=af z5;clear h h2 h4 z5;subst aa;refine aB z4 λz4 h6=>?_;refine aB z4 λz4 h7=>?_;rw [ke h1] at hus;refine am hus.l1 λu aq hu=>?_;subst aq;refine mF (R.at_ hg hv) λa o ai ha ho hor hz=>?_;have aa:=ai;clear hv ai;subst aa;refine mJ (qK R h3 h6 hu) λb ws n2 bC hws hb=>?_;have aa:=bC;clear hu bC;subst aa;cases xK hor with
 | @mk vs n p q hpq hq hp mk=>have e:=congrArg mx hpq;have e1:=hws.length;have z4:=eK z4;have h7:=eK h7;have hl:=sizeLine_eq;rw [cJ,hq.length,dJ] at e;rw [dJ] at e1;have hb2:vs.size+ws.size<=8000000+1000000+1000000:=i9 (aI (ck e) (i9 hp z4)) (aI (ck e1) h7);refine call_meets PySem.F.slot_list_extend ⟨_,ho,rfl⟩ PySem.F.entry_list_extend (PySem.F.args_list_extend_2 _ _) (PySem.AutoSeq1.list_extend_list_list_0 a vs n b ws n2 (PyProof.Rows.extend_door (aI hb2 (by decide))) (aI (aI (fh _ _) hb2) (by decide)) (aI hb2 (by decide))) ⟨ho,hb,?_⟩;have ho':=n8 (Obj.mapSeq λx=>x++ws) ho rfl;exact out _ (.head _) J _ _ (.refl _) (list_set R hg ha ho (.update ..) ho' (mk (vs++ws) _ _ (q++ws.toList) (by rw [we,hpq,jO]) (cW xs ys▸ay.append hws hq))) .none
theorem U3{vs:Array Value}{r:List Value}{w:Value}(h:vs.toList=r++ [w]):vs[vs.size - 1]?=some w/\(vs.eraseIdxIfInBounds (vs.size - 1)).toList=r:=by
 have e:vs.size - 1=r.length:=by rw [<-dJ,h,cJ];rfl
 refine ⟨?_,?_⟩
 ·rw [<-iY,h,e,iX (cG _),qm];rfl
 ·rw [Array.toList_eraseIdxIfInBounds,h,e,List.eraseIdx_append_of_length_le (cG _),qm]
  exact i8 r
theorem Sl{Q:Value->Shared->Prop}{i:Nat}{pre:Option Nat}{xs:List AV}{ov:Value}{as:List AV}{us:List Value}{l:List (AV×St)}(hg:st.get i=some (.list pre xs))(h:HU i pre xs as st=some l)(R:Rel P J st s)(hv:VR J (.ref i) ov)(hus:ay J as us)(out:Out P J l Q):wpAny (Md P) A (c9 (.builtin "list.pop") (ov::us)) Q E s:=by
 cases as with
 |cons=>exact aD h
 |nil=>
  refine ae hus.n ?_;refine bb h λz2 h=>?_;obtain ⟨⟨ys,y⟩,h3,h4⟩:=cz h;have aa:=af h4;clear h h4;subst aa;refine mF (R.at_ hg hv) λa o ai ha ho hor hz=>?_;have aa:=ai;clear hv;subst aa;cases xK hor with
  | @mk vs n p q hpq hq hp mk=>have e:=congrArg mx hpq;have z2:=eK z2;have hl:=sizeLine_eq;rw [cJ,hq.length,dJ] at e;rw [CG h3] at hq;refine bp hq.split λq1 q2 ai hq1 hq2=>?_;subst ai;refine am hq2.l1 λw aq hw=>?_;have aa:=aq;clear hq2 aq;subst aa;rw [<-jO] at hpq;refine au (U3 hpq) λuK e1=>?_;refine call_meets PySem.F.slot_list_pop ⟨_,ho,rfl⟩ PySem.F.entry_list_pop (PySem.F.args_list_pop_1 _) (PySem.MeetsSeq.list_pop_last a vs n w uK (aI (ck e) (aI (i9 hp z2) (by decide:8000000+1000000<=sizeLine)))) ⟨ho,?_⟩;have ho':=n8 (Obj.mapSeq λx=>x.eraseIdxIfInBounds (vs.size - 1)) ho rfl;exact out _ (.head _) J _ _ (.refl _) (list_set R hg ha ho (.update ..) ho' (mk _ _ _ q1 e1 hq1)) hw
theorem P8{Q:Value->Shared->Prop}{m:Nm}{i:Nat}{pre:Option Nat}{xs:List AV}{ov:Value}{as:List AV}{us:List Value}{l:List (AV×St)}(hg:st.get i=some (.list pre xs))(h:Kz pre xs i m as st=some l)(R:Rel P J st s)(hv:VR J (.ref i) ov)(hus:ay J as us)(out:Out P J l Q):wpAny (Md P) A (c9 (.builtin (fb m)) (ov::us)) Q E s:=by
 obtain ⟨c,h⟩ |h:=dj h
 ·exact aH c▸CS▸Sj hg h R hv hus out
 ·obtain ⟨c,h⟩ |h:=dj h
  ·exact aH c▸CT▸Sk hg h R hv hus out
  ·refine bb h λc h=>?_
   exact aH c▸EZ▸Sl hg h R hv hus out
end
theorem QY(x y:Str):starts x.cps.toList y.cps.toList=Txt.startswith x y:=by
 unfold starts Txt.startswith Builtin.Str.subAt;rw [len_eq,GX];have e1:y.length=y.cps.toList.length:=by show y.cps.size=_;simp
 have e2:x.length=x.cps.toList.length:=by show x.cps.size=_;simp
 rw [e1,e2,bJ]
 generalize hY:y.cps=Y0Y
 generalize hX:x.cps=X
 by_cases h:X.toList.take Y0Y.toList.length=Y0Y.toList
 ·rw [h,beq_refl]
  have hl:Y0Y.toList.length<=X.toList.length:=by have:=congrArg mx h;rw [Na] at this;exact this▸Nc _ _
  have e3:X.extract 0 Y0Y.toList.length=Y0Y:=by apply wn.mp;rw [MG,Mt];simpa using h
  rw [e3,decide_eq_true hl];simp
 ·have c:ag (enc (X.toList.take Y0Y.toList.length)) (enc Y0Y.toList)=false:=by
   cases q:ag (enc (X.toList.take Y0Y.toList.length)) (enc Y0Y.toList) with
   |false=>rfl
   |true=>exact absurd (mK (aH q)) h
  rw [c]
  symm
  rw [Bool.and_eq_false_iff]
  right
  rw [beq_eq_false_iff_ne];intro q;apply h;have:=congrArg qj q;rw [MG,Mt] at this;simpa using this
section
variable{P:Pr}{J:G}{st:St}{s:Shared}{A:Around}{E:Value->Shared->Prop}
theorem Sx{Q:Value->Shared->Prop}{w:SW}{m:Nm}{ov:Value}{vs:List AV}{us:List Value}{l:List (AV×St)}(h:H5 w m vs st=some l)(R:Rel P J st s)(hv:VR J (.str w) ov)(hus:ay J vs us)(out:Out P J l Q):wpAny (Md P) A (c9 (.builtin (fb m)) (ov::us)) Q E s:=by refine au (fu h) λh1 h=>?_;refine ah h λy h2 h=>?_;refine ah h λa h3 h=>?_;refine ah h λp h4 h=>?_;have aa:=af h;clear h;subst aa;rw [aH h1,Cp];rw [ij h2] at hv;rw [ke h3] at hus;refine am hus.l1 λu aq hu=>?_;subst aq;refine bp (qD h4 hu) λz t ai _ hz=>?_;have aa:=ai;clear hu ai;subst aa;refine ba hv.str_inv λx t' ai hx=>?_;subst ai;have hx:y=x.cps.toList:=af hx;refine PySem.SC.startswith (out _ (.head _) J _ _ (.refl _) R ?_);rw [hx, <-hz,QY];exact .bool _
theorem Vb{Q:Value->Shared->Prop}{i cap:Nat}{es:List (Nm×EV)}{m:Nm}{ov:Value}{vs:List AV}{us:List Value}{l:List (AV×St)}(h1:st.get i=some (.dict cap false es))(h:AM es i m vs st=some l)(R:Rel P J st s)(hv:VR J (.ref i) ov)(hus:ay J vs us)(out:Out P J l Q):wpAny (Md P) A (c9 (.builtin (fb m)) (ov::us)) Q E s:=by
 refine bb h λq1 h=>?_;refine ah h λa h3 h=>?_;refine ah h λn h4 h=>?_;refine ah h λl' h5 h=>?_;have aa:=af h;clear h;subst aa;refine ae (aH q1) (ae EY ?_);rw [ke h3] at hus;refine am hus.l1 λu aq hu=>?_;subst aq;refine bp (qD h4 hu) λx t ai hx _=>?_;have aa:=ai;clear hu ai;subst aa;refine tI (t8 R h1 hv) λd en ai hd hz hs hm hf=>?_;subst ai;refine EL (w6 R h5 (hx▸hf x)) λp hp J' hle R' hr=>?_;have key:Q ((nsFind en x).getD .none) {s with toks:=s.toks+1}:=by
  refine out (p.1.getD .none,p.2) (dD _ l'▸jN (f:=λp:Way=>(p.1.getD .none,p.2)) hp) J' _ _ hle (R'.toks _) ?_;obtain ⟨w,st'⟩:=p;cases w with
  |none=>refine ae (show nsFind en x=none from hr) ?_;exact .none
  |some w=>obtain ⟨v,e',q⟩:=hr;refine ae e' ?_;exact q
 exact call_meetsIn PySem.F.slot_dict_get hm.typeIs PySem.F.entry_dict_get (PySem.F.args_dict_get_2 _ _) (meets_dict_get (strKind pw _) d (strKind_is pw _ x t) hs) ⟨_,hm,key⟩
theorem Sw{c:Bool}{es:List (Nm×EV)}{i:Nat}{m:Nm}{vs:List AV}{l:List (AV×St)}(h:H4 c es i m vs st=some l):c=false/\AM es i m vs st=some l:=by
 cases c with
 |true=>exact aD h
 |false=>exact ⟨rfl,h⟩
theorem Rs{Q:Value->Shared->Prop}{v:AV}{m:Nm}{ov:Value}{vs:List AV}{us:List Value}{l:List (AV×St)}(h:yI v m vs st=some l)(R:Rel P J st s)(hv:VR J v ov)(hus:ay J vs us)(out:Out P J l Q):wpAny (Md P) A (c9 (.builtin (fb m)) (ov::us)) Q E s:=by
 obtain ⟨w,e,h⟩ |h:=cR h
 ·exact Sx h R (ft e▸hv) hus out
 ·refine ah h λi e h=>?_
  refine ah h λo h1 h=>?_;obtain ⟨q,e2,h⟩ |h:=cR h
  ·refine au (Sw h) λc h=>?_
   exact Vb (by exact ae h1 (ae (qt e2) (ae c rfl))) h R (fq e▸hv) hus out
  ·refine ah h λq e2 h=>?_
   exact P8 (mz e2▸h1) h R (fq e▸hv) hus out
end
section
variable{prog:Program}{w:World}{A:Around}{E:Value->Shared->Prop}{s:Shared}
theorem PV{t:Addr}{items:Array Value}{targets:List (Bool×(Value->Sem Unit))}{Q:Unit->Shared->Prop}(hh:A.handled=none)(ht:s.heap.IsTuple t items)
  (hn:targets.length=items.size) (hstar:targets.findIdx? (·.1)=none)
  (h:∀h',Gr (λ_=>False) s.heap h'->wpAny (model prog w) A (assignInOrder (targets.map (·.2)) items.toList) Q E {s with heap:=h'}):
  wpAny (model prog w) A (unpack (.ref t) targets) Q E s:=by
 have hlt:t≠s.heap.objs.size:=by obtain ⟨o,ho,_⟩:=ht;exact gR (cU ho)
 unfold unpack;refine ae hn (ae hstar ?_);refine az (fj ?_);unfold unpackItems;refine az ?_;unfold notIterableAtAll;refine az (wpAny_specialOf ht.typeIs F.slot_tuple_iter.lookup ?_);refine aT ?_;simp only [k8,if_false];refine az (fj (wpAny_pyIter_tuple ht ?_));refine az (fj (wpAny_draw_tuple hlt items.size 0 _ _ ⟨_,k7 _ rfl,rfl,rfl⟩ (ht.push _) (ck (bJ _)) λh₁ hit₁ hs₁=>?_));have hall:List.take items.size (List.drop 0 items.toList)=items.toList:=by refine ae List.drop_zero ?_;exact List.take_of_length_le (by simp)
 refine ae hall ?_;refine ae (if_neg (by simp)) ?_;have ht₁:h₁.IsTuple t items:=(ht.push _).extBut hs₁.extBut hlt;refine az (fj (DE hh hit₁ ht₁ (by simp) λh₂ he₂=>?_));simp only [MR,k8,if_false];have e1:h₁.objs.size=s.heap.objs.size+1:=hs₁.1.trans (gQ ..);have e2:h₁.objs.size<=h₂.objs.size:=he₂.1;refine aT (h h₂ ⟨by omega,λb o hb _=>?_⟩);have hne:b≠s.heap.objs.size:=gR (cU hb);exact he₂.2 b o ((hs₁.2 b hne).trans (gN _ hb)) hne
end
section
variable{P:Pr}{J:G}{st:St}{s:Shared}{fr:Fr}{A:Around}{E:Value->Shared->Prop}{env:Env}
theorem SE{x:Str}{w:AV}{v:Value}{st':St}{Q:Unit->Shared->Prop}(h:Af (xName (ak fr.e) x) fr w st=some st')(R:Rel P J st s)(F:bj P J fr A env)(hv:VR J w v)(hQ:∀s',Rel P J st' s'->Q () s'):wpAny (Md P) A (storeName env x v) Q E s:=by
 refine fP (t5 (C:=λx=>@decide (Af x fr w st=some st') (Classical.propDecidable _)) (@decide_eq_false _ (Classical.propDecidable _) λq=>aD q) (@decide_eq_true _ (Classical.propDecidable _) h)) λ_ _ K=>?_;cases K with
 |loc d hr=>exact mQ R F.e d (@of_decide_eq_true _ (Classical.propDecidable _) hr) hv hQ
 |gI d hr=>exact xV R F.e d (@of_decide_eq_true _ (Classical.propDecidable _) hr) hv hQ
 |jG v d g hr=>exact aD (@of_decide_eq_true _ (Classical.propDecidable _) hr)
theorem Pv{es:List ax}(h:allNames es=true):(assignEach es env).findIdx? (·.1)=none/\(assignEach es env).length=es.length:=by
 induction es with
 |nil=>exact ⟨rfl,rfl⟩
 |cons e r ih=>
  cases e with
  |Name x p=>refine au (ih h) λh1 h2=>?_;refine ⟨?_,congrArg (· +1) h2⟩;show (List.findIdx? (·.1) ((false,_)::assignEach r env))=none;refine ae (List.findIdx?_cons) (ae h1 ?_);rfl
  |_=>exact aE h
theorem PU{f:ax->X}{es:List ax}:∀{vs:List AV} {us:List Value} {st st':St},jW fr (aK f es) vs st=some st'->ay J vs us->us.length=es.length:=by
 induction es with
 |nil=>
  intro vs us st st' h hv;cases vs with
  |nil=>exact congrArg mx hv.n
  |cons=>exact aD h
 |cons e r ih=>
  intro vs us st st' h hv;cases vs with
  |nil=>exact aD h
  |cons a q=>refine bp hv.c λv us' ai _ h2=>?_;have aa:=ai;clear hv ai;subst aa;exact ah h λst1 _ h'=>congrArg (· +1) (ih h' h2)
theorem RS{n:Nat}{es:List ax}{Q:Unit->Shared->Prop}:∀{vs:List AV} {us:List Value} {st st':St} {s:Shared},allNames es=true->jW fr (aK (aw n (ak fr.e)) es) vs st=some st'->ay J vs us->Rel P J st s->bj P J fr A env->(∀s',Rel P J st' s'->Q () s')->wpAny (Md P) A (assignInOrder ((assignEach es env).map (·.2)) us) Q E s:=by
 induction es with
 |nil=>
  intro vs us st st' s _ h hv R F hQ;cases vs with
  |nil=>exact hv.n▸aT (hQ s (af h▸R))
  |cons=>exact aD h
 |cons e r ih=>
  intro vs us st st' s hn h hv R F hQ;cases e with
  |Name x p=>
   cases vs with
   |nil=>exact aD h
   |cons a q=>
    obtain ⟨v,us',rfl,hv,hvs⟩:=hv.c;refine ah h λst1 c h'=>?_;cases n with
    |zero=>exact aD c
    |succ n=>show wpAny (Md P) A (do holding us' (assign (.Name x p) env v);assignInOrder ((assignEach r env).map (·.2)) us') Q E s;refine az (fj (wpAny_assign_Name ?_));rw [xb] at c;exact SE c R F hv λs' R'=>ih hn h' hvs R' F hQ
  |_=>exact aE hn
theorem aaL{Q:Unit->Shared->Prop}{elts:List ax}{c:Nat}{pos:Pos}{n:Nat}{w:AV}{v:Value}{vs:List AV}{st':St}(hd:fr.c.hd=false)(hw:cy w=false)(h1:seqItems st w=some vs)(h2:jW fr (aK (aw n (ak fr.e)) elts) vs st=some st')(hn:allNames elts=true)(R:Rel P J st s)(F:bj P J fr A env)(hv:VR J w v)(hQ:∀J' s',J.Le J'->Rel P J' st' s'->Q () s'):wpAny (Md P) A (assign (.Tuple elts c pos) env v) Q E s:=by
 refine bp (ux R h1 hv) λl us ai hus hk=>?_;have aa:=ai;clear hv ai;subst aa;have ht:s.heap.IsTuple l us:=by
  rcases hk with ⟨q, -⟩ | ⟨-,q⟩
  ·rw [hw] at q;cases q
  ·exact q
 refine au (Pv (env:=env) hn) λe1 e2=>?_;rw [arm_assign_Tuple];refine az (ga (PV (F.c.hd hd) ht ?_ e1 λh' hg=>?_))
 ·exact e2.trans ((PU h2 hus).symm.trans dJ)
 ·exact RS hn h2 hus (R.grown hg) F λs' R'=>hQ J s' (.refl _) R'
end
theorem CL(k:Str)(v:Value)(x:Str):∀kvs:List (Str×Value),valueAt (kvs.map λkv=>if kv.1=k then (kv.1,v) else kv) x=if x=k then (valueAt kvs k).map (λ_=>v) else valueAt kvs x
 | []=>by unfold valueAt;simp
 | (y,u)::r=>by
  have ih:=CL k v x r;unfold valueAt at ih ⊢;refine ae om (ae (oh) (ae (oh) (ae (oh) ?_)))
  by_cases h1:y=k
  ·subst h1
   refine ae (if_pos rfl) ?_
   by_cases h2:y=x
   ·subst h2;simp
   ·have h3:¬ x=y:=λq=>h2 q.symm
    simp only [decide_eq_false h2,if_neg h3] at ih ⊢;exact ih
  ·refine ae (if_neg h1) ?_
   by_cases h2:y=x
   ·subst h2;simp [h1]
   ·simp only [decide_eq_false h2,decide_eq_false h1]
    exact ih
theorem CK(k:Str)(v:Value)(x:Str):∀kvs:List (Str×Value),valueAt kvs k=none->valueAt (kvs++ [(k,v)]) x=if x=k then some v else valueAt kvs x
 | [],_=>by
  unfold valueAt
  by_cases h:x=k
  ·subst h;simp
  ·have h2:¬ k=x:=λq=>h q.symm
   simp [h,h2]
 | (y,u)::r,h=>by
  have h':valueAt r k=none/\y≠k:=by
   unfold valueAt at h ⊢;rw [oh] at h
   by_cases q:y=k
   ·subst q;simp at h
   ·simp only [decide_eq_false q] at h
    exact ⟨h,q⟩
  have ih:=CK k v x r h'.1;unfold valueAt at ih ⊢;refine ae wo (ae (oh) (ae (oh) ?_))
  by_cases h2:y=x
  ·subst h2;simp [h'.2]
  ·simp only [decide_eq_false h2]
   exact ih
set_option tactic.hygienic true in
theorem Cr(kvs:List (Str×Value))(k:Str)(v:Value)(x:Str):valueAt (stored kvs k v) x=if x=k then some v else valueAt kvs x:=by
 unfold stored
 split
 ·rename_i h
  rw [CL]
  by_cases q:x=k
  ·rw [if_pos q,if_pos q]
   refine am (tB.mp h) λkv h1 h2=>?_;have h2:=of_decide_eq_true h2;cases c:valueAt kvs k with
   |some _=>rfl
   |none=>exfalso;unfold valueAt at c;have:=MP.mp (MA.mp c) kv h1;exact this (decide_eq_true h2)
  ·rw [if_neg q,if_neg q]
 ·rename_i h
  refine CK k v x kvs ?_;unfold valueAt;rw [MA,MP];intro kv h1 h2;exact h (tB.mpr ⟨kv,h1,h2⟩)
section
variable{W:World}
theorem Eg:∀{l:List DictEntry},(∀e∈l,∃n t,e.key= .str n t)->Pairs (strKind pw W) l (l.map λe=>(e.name,e.val))
 | [],_=>.nil
 |e::r,h=>by refine .cons ?_ rfl (Eg λe' he=>h e' (.tail _ he));refine jz (h e (.head _)) λn t hk=>?_;show Value.isStrOf e.name e.key=true;unfold DictEntry.name;refine ae hk ?_;show (n==n)=true;simp
theorem QE{l:List DictEntry}{kvs:List (Str×Value)}(h:Pairs (strKind pw W) l kvs):∀e∈l,∃kv∈kvs,Value.isStrOf kv.1 e.key=true:=by
 induction h with
 |nil=>intro e he;cases he
 |cons h1 h2 h3 ih=>
  intro e he;rcases jQ.mp he with rfl |he
  ·exact ⟨_,.head _,h1⟩
  ·obtain ⟨kv,q1,q2⟩:=ih e he;exact ⟨kv,.tail _ q1,q2⟩
theorem CZ{l:List DictEntry}{kvs:List (Str×Value)}(h:Pairs (strKind pw W) l kvs)(hn:(kvs.map (·.1)).Nodup):l.Pairwise λa b=>∀n,a.key.isStr n=true->b.key.isStr n=true->False:=by
 induction h with
 |nil=>exact .nil
 | @cons e kv es kvs h1 h2 h3 ih=>rw [om,la] at hn;refine .cons (λe' he n p q=>?_) (ih hn.2);refine am (QE h3 e' he) λkv' z1 z2=>?_;rw [<-CV] at p q;have a1:kv.1=n:=Value.isStrOf_inj _ _ _ h1 p;have a2:kv'.1=n:=Value.isStrOf_inj _ _ _ z2 q;exact hn.1 (a1.trans a2.symm▸jN z1)
end
theorem ay.set{J:G}{w:AV}{v:Value}(hw:VR J w v){xs:List AV}{vs:List Value}(h:ay J xs vs)(n:Nat):ay J (m8 xs w n) (vs.set n v):=by
 induction xs generalizing vs n with
 |nil=>exact h.e0 (m:=λvs=>ay J (m8 [] w n) (vs.set n v)) (ou (motive:=λn=>ay J (m8 [] w n) (([]:List Value).set n v)) n .nil λ_=>.nil)
 |cons x xs ih=>exact h.e (m:=λvs=>ay J (m8 (x::xs) w n) (vs.set n v)) λu us h r=>ou (motive:=λn=>ay J (m8 (x::xs) w n) ((u::us).set n v)) n (.cons hw r) λn=>.cons h (ih r n)
section
variable{P:Pr}{J:G}{st:St}{s:Shared}{A:Around}{E:Value->Shared->Prop}
inductive Hh(P:Pr)(J:G)(s:Shared)(a:Addr)(cap:Nat)(es:List (Nm×EV)):Prop
 |mk (o:Obj) (en:Array DictEntry) (n:Nat) (h1:s.heap.get? a=some o) (h2:o.data= .dict en n) (h3:s.heap.DictOf (strKind pw P.W.w) a (en.toList.map λe=>(e.name,e.val))) (h4:∀x,valueAt (en.toList.map λe=>(e.name,e.val)) x=nsFind en x) (h5:en.size<=es.length) (h6:es.length+cap<=1000000) (h7:∀x:Str,DR J (lk (nm x) es) (nsFind en x)):Hh P J s a cap es
theorem CJ(R:Rel P J st s){i cap:Nat}{es:List (Nm×EV)}{a:Addr}(h:st.get i=some (.dict cap false es))(ha:J.aA[i]?=some a):Hh P J s a cap es:=by
 obtain ⟨a',o,ha',ho,en,n,h0,h1,h2,h3,h4,h5⟩:=R.objs i _ (R.lt ha) h;obtain rfl:=af (ha.symm.trans ha');refine au (h2 rfl) λq1 q2=>?_;rw [R.wd] at q2;have hp:=Eg (W:=P.W.w) (l:=en.toList) λe he=>h3 e (by simpa using he);refine ⟨o,en,n,ho,h1,⟨o,en,n,ho,q1,h1,q2,hp,?_⟩,λx=>?_,size_le h3 h4 λx hx=>(h5 x).some_of hx,h0,h5⟩
 ·rw [List.map_map];exact names_nodup h3 h4
 ·rw [<-hp.find x, <-tO (P:=P)]
  unfold findBy;exact bH (mq) rfl
theorem TG{n:Nm}{w:AV}{v:Value}{es:List (Nm×EV)}{f f':Str->Option Value}{x:Str}(hn:n=nm x)(hf:∀y:Str,DR J (lk (nm y) es) (f y))(hf':∀y,f' y=if y=x then some v else f y)(hv:VR J w v)(y:Str):DR J (lk (nm y) (c7 n (.val w) es)) (f' y):=by
 rw [oL,hf' y,hn]
 by_cases e:y=x
 ·rw [if_pos e,if_pos (congrArg nm e)];exact ⟨v,rfl,hv⟩
 ·rw [if_neg e,if_neg λq=>e (dM q)];exact hf y
theorem S4{st':St}{Q:Unit->Shared->Prop}{d:Nat}{n:List Nat}{w:AV}{u v:Value}{x:Str}{t:Nat}(h:IA d n w st=some st')(hx:n=x.cps.toList)(R:Rel P J st s)(hu:VR J (.ref d) u)(hv:VR J w v)(hQ:∀J' s',J.Le J'->Rel P J' st' s'->Q () s'):wpAny (Md P) A (setItem u (.str x t) v) Q E s:=by
 refine ba (C4 h) λcap es h3 bC=>?_;have aa:=bC;clear h bC;subst aa;refine am hu.mP λb aq hb=>?_;have aa:=aq;clear hu aq;subst aa;obtain ⟨o,en,m,ho,hd,hof,hval,hsz,hcap,hf⟩:=CJ R h3 hb;refine wpAny_setItem_pairs (strKind_is pw _ x t) hof (λh' AB hs=>?_) (by rw [dz,dJ];exact I5 hsz hcap);refine CP AB λo' en' m' ho' hex hd' hko hp hnd=>?_;have hsk:StrKeys en':=λe he=>by refine am (hko e he) λk q _=>?_;refine aQ (Value.isStrOf_shape q) λt q=>?_;exact ⟨k,t,q⟩
 have hf':∀y,nsFind en' y=if y=x then some v else nsFind en y:=λy=>by rw [<-tO (P:=P)];unfold findBy;rw [<-mq];refine (hp.find y).trans ?_;rw [Cr,hval]
 have r:OR J o' (.dict cap false (c7 (enc n) (.val w) es)):=⟨en',m',Aw (tX (enc n) (.val w) es) hcap,hd',(λ_=>⟨hex,R.wd▸hko⟩),hsk,CZ hp hnd,TG (congrArg enc hx) hf hf' hv⟩;exact hQ J _ (.refl _) ((R.upd hb (R.apart _ _ b (R.lt hb) h3 hb) (R.jp hb ho (.inl λvs q=>cQ Data.ctorIdx (hd.symm.trans q) rfl)) hs ho' r (.inr ⟨_,h3,λ ⟨c,e,q,h⟩=>cH (bU.inj (bU.inj (af (congrArg dU q))).2).1.symm⟩)).toks _)
theorem SZ{st':St}{Q:Unit->Shared->Prop}{d:Nat}{e:AI}{i:Int}{t:Nat}{w:AV}{u v:Value}(h:Iz d e w st=some st')(hi:e.ev J=some i)(R:Rel P J st s)(hu:VR J (.ref d) u)(hv:VR J w v)(hQ:∀J' s',J.Le J'->Rel P J' st' s'->Q () s'):wpAny (Md P) A (setItem u (.int i t) v) Q E s:=by
 refine ah h λk h1 h2=>?_;refine ah h2 λn h3 h2=>?_;refine ah h2 λxs h4 h2=>?_;refine bb h2 λh5 h2=>?_;have aa:=af h2;clear h h2;subst aa;have h4:=Ej h4;obtain rfl:=o6 h1 hi;have aa:=mG h3;clear h1 h3 h2;subst aa;obtain ⟨b,o,rfl,hb,ho,⟨vs,m,rfl,hvs⟩, -⟩:=R.at_ h4 hu;refine au (bq h5) λh5 h6=>?_;have h5:n< len xs:=bt h5;have h6:=eK h6;rw [len_eq, <-ay.length hvs,dJ] at h5;rw [<-ay.length hvs,dJ] at h6;refine ki_setAt ho (by omega) (by omega) (by omega) ?_;have ho':=n8 (Obj.mapSeq (·.setIfInBounds (n:Int).toNat v)) ho rfl;have hr:ay J (m8 xs w n) (vs.setIfInBounds (n:Int).toNat v).toList:=by rw [Array.toList_setIfInBounds,wl];exact ay.set hv hvs n
 exact hQ J _ (.refl _) (R.upd hb (R.apart _ _ b (R.lt hb) h4 hb) (R.jp hb ho (.inl λvs q=>cQ Data.ctorIdx q rfl)) (.update ..) ho' ⟨_,_,rfl,hr⟩ (.inr ⟨_,h4,λ ⟨c,e,q,h⟩=>cQ AO.ctorIdx q rfl⟩))
theorem PQ{st':St}{Q:Unit->Shared->Prop}{a i w:AV}{u j v:Value}(h:qC a i w st=some st')(R:Rel P J st s)(hu:VR J a u)(hj:VR J i j)(hv:VR J w v)(hQ:∀J' s',J.Le J'->Rel P J' st' s'->Q () s'):wpAny (Md P) A (setItem u j v) Q E s:=by
 refine ah h λd h0 h=>?_;rw [fq h0] at hu;obtain ⟨e,h1,h⟩ |h:=cR h
 ·rw [dl h1] at hj
  refine ba hj.int_inv λi t ai hi=>?_;have aa:=ai;clear hj ai;subst aa;exact SZ h hi R hu hv hQ
 ·refine ah h λz h1 h=>?_
  refine ah h λn h2 h=>?_;rw [ft h1,ij h2] at hj;refine ba hj.str_inv λx t ai hx=>?_;have aa:=ai;clear hj ai;subst aa;exact S4 h (af hx) R hu hv hQ
theorem parts:Parts:=⟨aaL,PQ⟩
end
section
variable{P:Pr}{self:Self}{fr:Fr}{J:G}{st:St}{s:Shared}{k:Kont}{A:Around}{E:Value->Shared->Prop}{env:Env}
theorem aae{d:Nat}{x:Str}{t:Tok}{w:AV}{v:Value}{b:Addr}{st':St}{Q:Unit->Shared->Prop}(R:Rel P J st s)(h2:re st d (nm x) (.val w)=some st')(hb:J.aA[d]?=some b)(hv:VR J w v)
  (hQ:∀s',Rel P J st' s'->Q () s'):wpAny (Md P) A (dictSet b (.str x t) v) Q E s:=by
 refine ba (C4 h2) λcap es h3 bC=>?_;subst bC;obtain ⟨o,en,m,ho,hd,hof,hval,hsz,hcap,hf⟩:=CJ R h3 hb;refine wpAny_dictSet_pairs (strKind_is pw _ x t) hof (λh' AB hs=>?_) (by rw [dz,dJ];exact I5 hsz hcap);refine CP AB λo' en' m' ho' hex hd' hko hp hnd=>?_;have hsk:StrKeys en':=λe he=>by refine am (hko e he) λk q _=>?_;refine aQ (Value.isStrOf_shape q) λt q=>?_;exact ⟨k,t,q⟩
 have hf':∀y,nsFind en' y=if y=x then some v else nsFind en y:=λy=>by rw [<-tO (P:=P)];unfold findBy;rw [<-mq];refine (hp.find y).trans ?_;rw [Cr,hval]
 have hlen:=tX (nm x) (.val w) es
 have r:OR J o' (.dict cap false (c7 (nm x) (.val w) es)):=⟨en',m',Aw hlen hcap,hd',(λ_=>⟨hex,by rw [R.wd];exact hko⟩),hsk,CZ hp hnd,λy=>by
  rw [oL,hf' y];show DR J _ (if y=x then some v else nsFind en y)
  by_cases e:y=x
  ·rw [if_pos e,if_pos (by rw [e])];exact ⟨v,rfl,hv⟩
  ·rw [if_neg e,if_neg (show ¬ nm y=nm x from λq=>e (dM q))];exact hf y⟩
 exact hQ _ ((R.upd hb (R.apart _ _ b (R.lt hb) h3 hb) (R.jp hb ho (.inl λvs q=>by rw [hd] at q;cases q)) hs ho' r (.inr ⟨_,h3,λ ⟨c,e,q,h⟩=>by cases q⟩)).toks _)
inductive Pairs(J:G):List Nm->List AV->List (Value×Value)->Prop
 |nil:Pairs J [] [] []
 |cons {x:Str} {t:Tok} {w:AV} {v:Value} {ns ws ps}:VR J w v->Pairs J ns ws ps->Pairs J (nm x::ns) (w::ws) ((.str x t,v)::ps)
theorem EP{d:Nat}{b:Addr}:∀{ns:List Nm} {ws:List AV} {ps:List (Value×Value)} {st st':St} {s:Shared} {Q:PUnit->Shared->Prop},Pairs J ns ws ps->Rel P J st s->fill d ns ws st=some st'->J.aA[d]?=some b->(∀s',Rel P J st' s'->Q ⟨⟩ s')->wpAny (Md P) A (storeAll b ps) Q E s
 |_,_,_,st,st',s,Q,.nil,R,h,hb,hQ=>by cases h;exact aT (hQ _ R)
 |_,_,_,st,st',s,Q,.cons (x:=x) (w:=w) (v:=v) (ns:=ns) (ws:=ws) hv hp,R,h,hb,hQ=>by refine am (cz (show ob (re st d (nm x) (.val w)) (fill d ns ws)=some st' from h)) λst1 h1 h2=>?_;unfold storeAll;rw [jP];exact az (az (aae R h1 hb hv λs' R'=>aT (EP hp R' h2 hb hQ)))
theorem TY{c:Const}{x:Str}(h:cStr c=some x):c= .str x:=by cases c<;>first |exact aD h |exact congrArg _ (af h)
theorem CH{e:Option ax}{ks:List (Option ax)}{ns:List Nm}(h:m0 (e::ks)=some ns):∃x k pos ns',e=some (.Constant (.str x) k pos)/\m0 ks=some ns'/\ns=nm x::ns':=by
 refine ah h λe1 h1 h4=>?_;refine ah h4 λx h2 h5=>?_;refine ah h5 λl h3 h6=>?_;clear h4 h5 h;cases e1 with
 |Constant c kd cp=>exact ⟨x,kd,cp,l,TY h2▸h1,h3,(af h6).symm⟩
 |_=>exact aD h2
variable(H:EOk P self)
include H
theorem Eh{n:Nat}{pos:Pos}{J₀:G}(hexc:∀v st' J' s',k (.exc v) st'=true->hG (.exc v) st'->J₀.Le J'->Rel P J' st' s'->∀u,VR J' v u->E u s'):∀{ks:List (Option ax)} {vs:List ax} {ns:List Nm} {kk:List AV->St->Bool} {J:G} {st:St} {s:Shared} {Q:List (Value×Value)->Shared->Prop},
  m0 ks=some ns->ks.length=vs.length->vN self fr k ns (aK (aw n (ak fr.e)) vs) kk st=true->J₀.Le J->Rel P J st s->bj P J fr A env->
  (∀ws ps st' J' s',kk ws st'=true->J.Le J'->Rel P J' st' s'->Pairs J' ns ws ps->Q ps s')->wpAny (Md P) A (evalPairs (pairTrees ks vs env pos)) Q E s
 | [],[],ns,kk,J,st,s,Q,hn,hl,hr,l0,R,F,hQ=>by cases hn;exact aT (hQ _ _ _ _ _ (show kk [] st=true from hr) (.refl _) R .nil)
 | [],_::_,ns,kk,J,st,s,Q,hn,hl,hr,l0,R,F,hQ=>by cases hl
 |_::_,[],ns,kk,J,st,s,Q,hn,hl,hr,l0,R,F,hQ=>by cases hl
 |e::ks,v::vs,ns,kk,J,st,s,Q,hn,hl,hr,l0,R,F,hQ=>by refine DN (CH hn) λx kd cp ns' jJ hn' s7=>?_;subst jJ;subst s7;have hr:self (.ex fr (aw n (ak fr.e) v)) st (kv k λw st1=>vN self fr k ns' (aK (aw n (ak fr.e)) vs) (λws st2=>kk (w::ws) st2) st1)=true:=hr;refine az (wpAny_Constant_str (az (fj (az ?_))));refine bV (λ_=>H.ex) hr (R.toks _) F rfl (rq hexc l0) λw st1 J1 s1 h1 l1 R1 F1 u hu=>?_;refine az (ga (aT (az (fj ?_))));exact Eh hexc hn' (by simpa using hl) h1 (l0.trans l1) R1 F1 λws ps st' J' s' q l2 R' hp=>aT (hQ _ _ _ _ _ q (l1.trans l2) R' (.cons (hu.mono l2) hp))
theorem Tb{n:Nat}{ks:List (Option ax)}{vs:List ax}{ns:List Nm}{pos:Pos}(hn:m0 ks=some ns)(hc:(gq ns&&ag ks.length vs.length)=true)(hr:zx ns (aK (aw n (ak fr.e)) vs) self fr st k=true):GE P fr (.Dict ks vs pos) st k:=λJ s A Q E env R F post=>by
 have hl:=aH (b7.mp hc).2;refine au (ii (show bf (aM (len ns) 15) (aj (ca st (.dict 100000 false [])) λst0=>vN self fr k ns (aK (aw n (ak fr.e)) vs) (λws st1=>aj (fill st.n ns ws st1) λst2=>k (.val (.ref st.n)) st2) st0) false=true from hr)) λh15 hr=>?_;refine aF hr λst0 h1 h2=>?_;refine au (fD h1) λq1 aq=>?_;subst aq;obtain ⟨R2,ha⟩:=R.new (o:={cls:=.type "dict",data:=.dict #[]}) (ao:=.dict 100000 false []) rfl ⟨#[],0,by decide,rfl,(λ_=>⟨⟨rfl,rfl,rfl⟩,by intro e he;simp at he⟩),(by intro e he;simp at he),(by unfold UniqKeys;simp),λx=>rfl⟩ q1;have l0:=J.d8 s.heap.objs.size;have adx:∀{ks:List (Option ax)} {ns:List Nm},m0 ks=some ns->len ns=ks.length/\ks.all (·.isSome)=true:=by
  intro ks
  induction ks with
  |nil=>intro ns h;cases h;exact ⟨rfl,rfl⟩
  |cons e ks ih=>intro ns h;refine DN (CH h) λx kd cp ns' jJ hn' s7=>?_;subst jJ;subst s7;refine au (ih hn') λi1 i2=>?_;exact ⟨congrArg (· +1) i1,by refine ae NC (ae i2 ?_);rfl⟩
 refine au (adx hn) λk1 k2=>?_;cases ks with
 |nil=>
  cases hn;cases vs with
  |cons _ _=>cases hl
  |nil=>refine wpAny_Dict_empty ?_;have h2:k (.val (.ref st.n)) (st.push (.dict 100000 false []))=true:=h2;exact post _ _ _ _ h2 trivial l0 R2 _ (.ref ha)
 |cons e ks=>refine wpAny_Dict_any k2 hl (by simp) (by refine bH k1 ?_;exact bt h15) ?_;refine Eh H (k:=k) (J₀:=J) (dA post) hn hl h2 l0 R2 (F.mono l0) λws ps st' J' s' q l R' hp=>?_;refine aF q λst2 h3 h4=>?_;exact EP hp R' h3 (aN l.aA ha) λs'' R''=>post _ _ _ _ h4 trivial (l0.trans l) R'' _ (.ref (aN l.aA ha))
end
section
variable{P:Pr}{J:G}{st:St}{s:Shared}
theorem Rel.freeze(R:Rel P J st s){i:Nat}{a:Addr}{o:Obj}(hi:J.aA[i]?=some a)(hn:st.get i=none)(ho:s.heap.get? a=some o)(hz:J.fz a=none)(hnf:a ∉ J.nf)(hx:st.x≠some i):Rel P (J.cF a o) st s:=by
 have le:=G.oU o hz;have hin:=bx hi;have other:∀{j b},J.aA[j]?=some b->j≠i->(J.cF a o).fz b=J.fz b:=λh q=>if_neg λz=>q (R.inj (z▸h) hi);have nz:∀b o',(J.cF a o).fz b=some o'->(J.fz b=some o'/\¬ False)\/((J.fz b=some o'\/b∈J.aA\/s.heap.objs.size<=b)/\Ao P s.heap b o'):=λb o' e=>by
  obtain ⟨rfl,rfl⟩ |q:=G.xw e
  ·exact .inr ⟨.inr (.inl hin),(R.range _ hin).1,(R.range _ hin).2,o',ho,.refl _⟩
  ·exact .inl ⟨q,id⟩
 exact R.step le (λ_=>False) (λ_ _ h _=>h) (cG _) (λ_ h=>h.elim) (.refl st) R.wf R.room ⟨rfl,rfl,rfl,rfl⟩ R.bR R.nodup (λb h=>.inl h) nz
  (λj ao hj e=>R.keep le hj e λb o' h1 h2 h3=>⟨h2,(other h1 λz=>aD (hn.symm.trans (z▸e))).trans h3⟩)
  (λj b e hb=>⟨id,(other hb λz=>hx (z▸e)).trans (R.excAt e hb).fz⟩) R.fly λb hb=>⟨(if_neg λz:b=a=>hnf (z▸hb)).trans (R.nf b hb).2.1,False.elim⟩
structure Kept(st st':St):Prop where
 n:st'.n=st.n
 x:st'.x=st.x
 sub:∀j ao,j< st.n->st'.get j=some ao->st.get j=some ao
theorem Kept.refl(st:St):Kept st st:=⟨rfl,rfl,λ_ _ _ e=>e⟩
theorem Kept.trans{a b c:St}(x:Kept a b)(y:Kept b c):Kept a c:=⟨y.n.trans x.n,y.x.trans x.x,λj ao hj e=>x.sub j ao hj (y.sub j ao (by refine ae x.n ?_;exact hj) e)⟩
theorem Kept.drop(R:Rel P J st s){i:Nat}(hi:i< st.n):Kept st (st.drop i):=⟨rfl,rfl,λj ao hj e=>(R.je hi hj e).2⟩
theorem Kept.none{st st':St}(K:Kept st st'){i:Nat}(hi:i< st.n)(h:st.get i=none):st'.get i=none:=by
 cases c:st'.get i with
 |none=>rfl
 |some ao=>exact aD (h.symm.trans (K.sub i ao hi c))
theorem Rel.Qi(R:Rel P J st s){i:Nat}(hi:i< st.n):(st.drop i).get i=none:=by
 cases c:(st.drop i).get i with
 |none=>rfl
 |some ao=>exact ((R.je hi hi c).1 rfl).elim
inductive dG(P:Pr)(s:Shared)(st:St)(J:G)(T:G->Prop)(st':St):Prop
 |mk (J':G) (l:J.Le J') (R:Rel P J' st' s) (v:T J') (K:Kept st st') (f:J'.nf=J.nf) (e:J'.aA=J.aA) (z:∀i a,J.aA[i]?=some a->st.get i=none->J'.fz a=J.fz a):dG P s st J T st'
theorem dG.keep{T:G->Prop}(R:Rel P J st s)(h:T J):dG P s st J T st:=⟨J,.refl _,R,h,.refl _,rfl,rfl,λ_ _ _ _=>rfl⟩
theorem dG.imp{T U:G->Prop}{st':St}(F:dG P s st J T st')(k:∀J',J.Le J'->T J'->U J'):dG P s st J U st':=by obtain ⟨J1,l1,R1,v1,K1,f1,e1,z1⟩:=F;exact ⟨J1,l1,R1,k J1 l1 v1,K1,f1,e1,z1⟩
theorem dG.trans{T U:G->Prop}{st1 st':St}(R:Rel P J st s)(F:dG P s st J T st1)(k:∀J1,J.Le J1->Rel P J1 st1 s->T J1->dG P s st1 J1 U st'):dG P s st J U st':=by obtain ⟨J1,l1,R1,v1,K1,f1,e1,z1⟩:=F;obtain ⟨J2,l2,R2,v2,K2,f2,e2,z2⟩:=k J1 l1 R1 v1;exact ⟨J2,l1.trans l2,R2,v2,K1.trans K2,f2.trans f1,e2.trans e1,λi a hi hn=>(z2 i a (e1▸hi) (K1.none (R.lt hi) hn)).trans (z1 i a hi hn)⟩
theorem dG.frozen{T:G->Prop}{st':St}{i:Nat}{a:Addr}{o:Obj}{ao:AO}(R:Rel P J st s)(e:st.get i=some ao)(ha:J.aA[i]?=some a)(ho:s.heap.get? a=some o)(hz:J.fz a=none)(hk:¬ eg ao)(hx:st.x≠some i)(mono:∀{J1 J2:G},J1.Le J2->T J1->T J2)(F:dG P s (st.drop i) J T st'):dG P s st J (λJ'=>J'.fz a=some o/\T J') st':=by obtain ⟨J1,l1,R1,v1,K1,f1,e1,z1⟩:=F;have hin:=R.lt ha;have gi:=R.Qi hin;have za:J1.fz a=none:=(z1 i a ha gi).trans hz;have l2:=G.oU o za;have K0:=Kept.drop R hin;have K:=K0.trans K1;exact ⟨J1.cF a o,l1.trans l2,R1.freeze (e1▸ha) (K1.none hin gi) ho za (λq=>hk ((R.nf a (f1▸q)).2.2.2 i ao hin e ha)) (K.x▸hx),⟨if_pos rfl,mono l2 v1⟩,K,f1,e1,λj c hj hn=>(if_neg λq=>aD (hn.symm.trans (R.inj hj (q▸ha)▸e))).trans (z1 j c hj (K0.none (R.lt hj) hn))⟩
noncomputable def jt(P:Pr)(s:Shared)(st:St)(J:G)(w:AV)(u:Value)(st':St):Prop:=dG P s st J (λJ'=>VR J' w u) st'
theorem xv{f:AV->St->Option (AV×St)}(H:∀{v w:AV} {st st':St} {J:G} {u:Value},f v st=some (w,st')->Rel P J st s->VR J v u->jt P s st J w u st'){l l':List AV}{us:List Value}{st st':St}{J:G}(h:vh f l st=some (l',st'))(R:Rel P J st s)(hv:ay J l us):dG P s st J (λJ'=>ay J' l' us) st':=by
 induction l generalizing l' us st J with
 |nil=>refine au (bU.inj (af h)) λaZ aq=>?_;have aa:=aZ;clear aZ;subst aa;have aa:=aq;clear aq;subst aa;exact hv.e0 (m:=λus=>dG P s st J (λJ'=>ay J' [] us) st) (.keep R .nil)
 |cons v r ih=>refine ah h λp h1 h=>?_;refine ah h λq h3 h=>?_;refine au (bU.inj (af h)) λaZ aq=>?_;have aa:=aZ;clear h aZ;subst aa;have aa:=aq;clear aq h;subst aa;obtain ⟨x,us,rfl,hv,hr⟩:=hv.c;exact dG.trans R (H h1 R hv) λJ1 l1 R1 v1=>(ih h3 R1 (hr.mono l1)).imp λJ2 l2 v2=>.cons (v1.mono l2) v2
theorem DW{ao:AO}(h:pn ao=true):∃cap es,ao= .dict cap true es/\100000< cap:=by obtain ⟨⟨cap,loc,es⟩,h1,h2⟩:=bI h;refine au (bq h2) λh2 aq=>?_;subst aq;exact ⟨cap,es,qt h1,bt h2⟩
theorem noB{i d:Nat}(h:(!(ag i d))=true)(q:d=i):False:=by rw [q,beq_refl] at h;exact aE h
theorem Rel.Pd(R:Rel P J st s){i j:Nat}(hi:i< st.n)(hj:j< st.n)(ne:j≠i):(st.drop i).get j=st.get j:=(St.je st R.wf (R.kF hi) (R.kF hj)).trans (if_neg ne)
inductive Ent(en:Array DictEntry):List Nm->List Value->Prop
 |nil:Ent en [] []
 |cons {n:Nm} {ns:List Nm} {x:Str} {u:Value} {us:List Value} (hx:nm x=n) (hu:nsFind en x=some u) (r:Ent en ns us):Ent en (n::ns) (u::us)
theorem qx{l:List Nm}(h:gq l=true):l.Nodup:=by
 induction l with
 |nil=>exact .nil
 |cons a r ih=>
  have h:bf (r.any (ag a)) false (gq r)=true:=h;cases c:r.any (ag a) with
  |true=>rw [c] at h;exact aE h
  |false=>rw [c] at h;refine la.mpr ⟨λq=>?_,ih h⟩;exact aE (c.symm.trans (tB.mpr ⟨a,q,beq_refl a⟩))
theorem Vs{n:Nm}(h:AR n=true):∃x:Str,nm x=n:=⟨⟨(dec n).toArray⟩,by
 have:=aH h;show enc (dec n).toArray.toList=n;refine ae List.toList_toArray ?_
 exact this⟩
theorem Uk{en:Array DictEntry}{all:List (Nm×EV)}(hf:∀x:Str,DR J (lk (nm x) all) (nsFind en x)){es:List (Nm×EV)}{vs:List AV}(hl:∀p∈es,lk p.1 all=some p.2)(hn:∀n∈es.map (·.1),AR n=true)(h:yw es=some vs):∃us,ay J vs us/\Ent en (es.map (·.1)) us:=by
 induction es generalizing vs with
 |nil=>exact ⟨[],af h▸ .nil,.nil⟩
 |cons p r ih=>refine ah (show ob (kh p.2) (λb=>ob (yw r) λl=>some (b::l))=some vs from h) λv c1 h=>?_;refine ah h λl c2 h=>?_;have aa:=af h;clear h;subst aa;refine am (ih (λp hp=>hl p (.tail _ hp)) (λm hm=>hn m (.tail _ hm)) c2) λus h1 h2=>?_;refine aQ (Vs (hn p.1 (.head _))) λx hx=>?_;have q:=hf x;rw [hx,hl _ (.head _),jR c1] at q;refine am q λu hu hr=>?_;exact ⟨u::us,.cons hr h1,.cons hx hu h2⟩
theorem E8:∀{es:List (Nm×EV)},(es.map (·.1)).Nodup->∀p∈es,lk p.1 es=some p.2
 | [],_,p,h=>by cases h
 | (n,e)::r,hn,p,h=>by
  rw [om,la] at hn;rw [jZ];rcases jQ.mp h with rfl |h
  ·rw [beq_refl];rfl
  ·have hne:p.1≠n:=λq=>hn.1 (by refine bH q ?_;exact oq.mpr ⟨p,h,rfl⟩)
   have:ag p.1 n=false:=by
    cases c:ag p.1 n with
    |false=>rfl
    |true=>exact absurd (aH c) hne
   refine ae this ?_;exact E8 hn.2 p h
theorem Pz{n:Nm}{w:AV}{u:Value}(c:rs (n,w)=true)(hv:VR J w u):((n=fp\/n=fy)->(∃b,u= .bool b)->flagged n w= .bM)/\VR J (flagged n w) u:=by
 cases q:(ag n fp||ag n fy) with
 |true=>have c:isBool w=true:=kN q c;have ef:flagged n w= .bM:=(cf q).trans (cf c);refine aQ (wJ c hv) λb aq=>?_;have aa:=aq;clear hv aq;subst aa;exact ⟨λ_ _=>ef,ef▸ .bM b⟩
 |false=>have ef:flagged n w=w:=cu q;refine au (jL.mp q) λq1 q2=>?_;exact ⟨λz=>(z.elim (λz=>dC q1 z) λz=>dC q2 z).elim,ef.symm▸hv⟩
theorem RJ{en:Array DictEntry}{ns:List Nm}{us:List Value}(r:Ent en ns us){lw:List AV}(hv:ay J lw us)(h:bF (zp ns lw) rs=true):df J en ns (mp (λp=>flagged p.1 p.2) (zp ns lw)):=by
 induction r generalizing lw with
 |nil=>exact (show zp ([]:List Nm) lw= [] by cases lw<;>rfl)▸ .nil
 | @cons n ns x u us hx hu r ih=>
  cases lw with
  |nil=>exact cQ List.ctorIdx hv.n rfl
  |cons w lw=>refine bp hv.c λv us' e hv hr=>?_;refine au (jS.inj e) λaZ aq=>?_;subst aZ;subst aq;refine au (mV (show bf (rs (n,w)) (bF (zp ns lw) rs) false=true from h)) λc h=>?_;refine au (Pz c hv) λf1 f2=>?_;exact .cons hx hu f1 f2 (ih hr h)
theorem UC{f:AV->St->Option (AV×St)}(H:∀{v w:AV} {st st':St} {J:G} {u:Value},f v st=some (w,st')->Rel P J st s->VR J v u->jt P s st J w u st'){i:Nat}{xs:List AV}{w:AV}{u:Value}{st':St}(h:Kr f i xs st=some (w,st'))(e:st.get i=some (.list none xs))(R:Rel P J st s)(hv:VR J (.ref i) u):jt P s st J w u st':=by refine bb h λh1 h=>?_;refine ah h λq h5 h=>?_;refine au (bU.inj (af h)) λaZ aq=>?_;have aa:=aZ;clear h aZ;subst aa;have aa:=aq;clear aq h;subst aa;obtain ⟨a,o,rfl,ha,ho,⟨vs,m,rfl,hvs⟩,hz⟩:=R.at_ e hv;exact (dG.frozen R e ha ho hz (λ ⟨_,_,q,_⟩=>cQ AO.ctorIdx q rfl) (mN h1) (λl h=>h.mono l) (xv H h5 (R.dropped (R.lt ha)) hvs)).imp λJ' _ q=>.bw (n:=m) q.1 q.2
theorem UB{f:AV->St->Option (AV×St)}(H:∀{v w:AV} {st st':St} {J:G} {u:Value},f v st=some (w,st')->Rel P J st s->VR J v u->jt P s st J w u st'){vec:Bool}{i C d:Nat}{w:AV}{u:Value}{st':St}(h:Ko vec f i C d st=some (w,st'))(e:st.get i=some (.inst C d))(R:Rel P J st s)(hv:VR J (.ref i) u):jt P s st J w u st':=by
 obtain ⟨-,h⟩ |h:=dj h
 ·refine bb h λh1 h=>?_
  refine ah h λes h2 h=>?_;refine bb h λh3 h=>?_;refine ah h λvs h4 h=>?_;refine ah h λq h5 h=>?_;refine bb h λh6 h=>?_;refine au (bU.inj (af h)) λaZ aq=>?_;have aa:=aZ;clear h aZ;subst aa;have aa:=aq;clear aq h;subst aa;refine aB h1 λh1 h7=>?_;refine aB h1 λh1 h8=>?_;refine aB h1 λh1 h9=>?_;refine aB h3 λh3 h10=>?_;refine aF h7 λaod h11 h12=>?_;refine ba (DW h12) λcap es' ai hcap=>?_;have aa:=ai;clear h12 ai;subst aa;obtain ⟨a,o,rfl,ha,ho,⟨b,q1,q2,q3,q4⟩,hz⟩:=R.at_ e hv;obtain ⟨acG,loc,g1,od,en,m,g2,g3,g4, -,g5,g6,g7,g8⟩:=qr R h2 q4;rw [dD] at h3 h10 h6 ⊢;refine am (Uk g7 (E8 (qx h3)) (λm hm=>dm h10 m hm) h4) λus hus hent=>?_;have hin:=R.lt ha;have R1:=R.dropped hin;have ed:(st.drop i).get d=some (.dict cap true es'):=(R.Pd hin (R.lt q4) λq=>noB h8 q).trans h11;have F:=xv H h5 (R1.dropped (R.lt q4)) hus;have F:=dG.frozen R1 ed q4 g3 g8 (λ ⟨_,_,q,q'⟩=>cV.mpr q' ((bU.inj (af (congrArg dU q))).1▸hcap)) (mN h9) (λl h=>h.mono l) F;refine (dG.frozen R e ha ho hz (λ ⟨_,_,q,_⟩=>cQ AO.ctorIdx q rfl) (mN h1) (λl h=>⟨l.fz _ _ h.1,h.2.mono l⟩) F).imp λJ' _ q=>?_;exact .inst q.1 q1 q3 q2 q.2.1 g4 g5 g6 (aI (size_le g5 g6 λx hx=>(g7 x).some_of hx) (aI (fh _ acG) (k9 g2))) (RJ hent q.2.2 h6)
 ·refine au (bU.inj (af h)) λaZ aq=>?_
  have aa:=aZ;clear h aZ;subst aa;have aa:=aq;clear aq h;subst aa;exact .keep R hv
theorem yA(vec:Bool)(n:Nat){v w:AV}{st st':St}{J:G}{u:Value}(h:cF vec n v st=some (w,st'))(R:Rel P J st s)(hv:VR J v u):jt P s st J w u st':=by
 induction n generalizing v w st st' J u with
 |zero=>exact aD h
 |succ n ih=>
  have keep:some (v,st)=some (w,st')->jt P s st J w u st':=λe=>by refine au (bU.inj (af e)) λaZ aq=>?_;have aa:=aZ;clear aZ;subst aa;have aa:=aq;clear aq;subst aa;exact .keep R hv
  refine kG (m:=λo=>o=some (w,st')->jt P s st J w u st') (λ_=>keep) (λi c=>kG (m:=λo=>o=some (w,st')->jt P s st J w u st') (λ_=>keep) λao e h0=>?_) (show oe (some (v,st)) (λi=>oe (some (v,st)) (λo=>Kq vec (cF vec n) i o st) (st.get i)) (refOf v)=some (w,st') from h);obtain rfl:=fq c;obtain ⟨p,c,h⟩ |h:=cR h0
  ·exact UB ih h (wQ c▸e) R hv
  ·exact kG (m:=λo=>o=some (w,st')->jt P s st J w u st') (λ_=>keep) (λxs c h=>by
    refine ah c λq c1 c2=>?_
    exact UC ih h (by exact ae e (ae (mz c1) (ae (Dx c2) rfl))) R hv) h
end
section
variable{P:Pr}{self:Self}{fr:Fr}{J:G}{st:St}{s:Shared}{k:Kont}{A:Around}{E:Value->Shared->Prop}{env:Env}
theorem Hm{b:Bool}{x v:X}{op:Operator}(h:ju (gd b x) op v self fr st k=true):b=true/\ju x op v self fr st k=true:=nj (C:=λx=>ju x op v self fr st k) rfl h
theorem auX{n:Nat}{sc:Scope}{e:ax}{v:X}{op:Operator}(h:ju (aw (n+1) sc e) op v self fr st k=true):ju (kZ (aw n) sc e) op v self fr st k=true:=(Hm (b:= !(gD (kZ (aw n) sc e))||nH e) h).2
variable(H:ep P self)
include H
theorem VP{t e:ax}{op:Operator}{pos:Pos}(X:dT)(Y0Y:Parts)(J0J:nB)(ht:Gd t=true)(hr:ju (aw 30 (ak fr.e) t) op (aw 30 (ak fr.e) e) self fr st k=true):GS P fr (.AugAssign t op e pos) st k:=by
 have hr:=auX (n:=29) hr;cases t with
 |Name x p=>
  refine fP (t5 (C:=λx=>ju x op (aw 30 (ak fr.e) e) self fr st k) rfl hr) λ_ _ K=>?_;cases K with
  |loc d hr=>exact Pj H J0J d hr
  |gI d hr=>exact aE hr
  |jG v d g hr=>exact aE hr
 |Attribute o a p=>refine au (Hm hr) λb hr=>?_;refine am (gW (C:=λx=>ju x op (aw 30 (ak fr.e) e) self fr st k) rfl hr) λu d hr=>?_;exact NS H X J0J (qX d) hr
 |Subscript o i p=>refine au (GW (C:=λx=>ju x op (aw 30 (ak fr.e) e) self fr st k) rfl (λ_ _ _ _=>rfl) hr) λhr hi=>?_;exact NT H (n:=29) (m:=30) Y0Y J0J hi hr
 |_=>exact aE ht
end
theorem CY:∀{es:List ax},allNames es=true->noStar es=true
 | [],_=>rfl
 |e::r,h=>by
  cases e with
  |Name x p=>exact CY (es:=r) h
  |_=>cases h
structure y8(P:Pr)(sf:Self):Prop where
 WE:∀{fr:Fr} {st:St} {k:Kont} {n m:Nat} {es:List ax} {c:Nat} {p pos:Pos} {e:ax},allNames es=true->gX e=false->o4 e=false->lL (.tup (aK (aw n (ak fr.e)) es)) (aw m (ak fr.e) e) sf fr st k=true->GS P fr (.Assign [.Tuple es c p] e pos) st k
 TN:∀{fr:Fr} {st:St} {k:Kont} {t e:ax} {pos:Pos},uL t=true->zr (ak fr.e) t e=true->lL (.cons (ex (ak fr.e) t) .nil) (ex (ak fr.e) e) sf fr st k=true->GS P fr (.Assign [t] e pos) st k
 raise:∀{fr:Fr} {st:St} {k:Kont} {e:ax} {pos:Pos},xN (ex (ak fr.e) e) sf fr st k=true->GS P fr (.Raise (some e) none pos) st k
 try_:∀{fr:Fr} {st:St} {k:Kont} {n:Nat} {b fin:List Stmt} {hs:List ExceptHandler} {pos:Pos},(hs.isEmpty&&fin.isEmpty)=false->Ab (aK (bE n (ak fr.e)) b) (aK (xH (bE n) (ak fr.e)) hs) (aK (bE n (ak fr.e)) fin) sf fr st k=true->GS P fr (.Try b hs [] fin pos) st k
section
variable{P:Pr}{self:Self}{fr:Fr}{J:G}{st:St}{s:Shared}{k:Kont}{A:Around}{E:Value->Shared->Prop}{env:Env}
variable(H:ep P self)
include H
theorem NQ{n m:Nat}{o i e:ax}{p pos:Pos}(Y0Y:Parts)(hr:self (.ex fr (aw m (ak fr.e) e)) st (kv k λw st1=>dc (aw (n+1) (ak fr.e) (.Subscript o i p)) self fr w st1 k)=true)(hc:gX e=false):GS P fr (.Assign [.Subscript o i p] e pos) st k:=λs0 J s A Q E env R F post=>
 wpAny_Assign_Subscript (bV (λ_=>H.ex) hr R F rfl (dL post) λw st1 J1 s1 h1 l1 R1 F1 u hu=>by
  refine bV (λ_=>H.ex) (show self (.ex fr (aw n (ak fr.e) o)) st1 (kv k λz st1=>self (.ex fr (aw n (ak fr.e) i)) st1 (kv k λj st2=>aj (qC z j w st2) λst3=>k .next st3))=true from (GW (C:=λx=>dc x self fr w st1 k) rfl (λ_ _ _ _=>rfl) (asX h1)).1) R1 F1 rfl (dL (post.le l1)) λz st2 J2 s2 h2 l2 R2 F2 ov hov=>?_;refine bV (λ_=>H.ex) h2 R2 F2 rfl (dL (post.le (l1.trans l2))) λj st3 J3 s3 h3 l3 R3 F3 iv hiv=>?_;refine aF h3 λbc h4 h5=>?_
  exact Y0Y.setItem h4 R3 (hov.mono l3) hiv (hu.mono (l2.trans l3)) λJ' s' l' R'=>post _ _ _ _ h5 trivial ((l1.trans l2).trans (l3.trans l')) R') (tZ hc)
section
omit H
variable{b:Bool}{x:X}{Y:Type}{o:Option Y}{l:List Y}{f:Y->X}
theorem rp(h:dp (gd b x) self fr st k=true):b=true/\dp x self fr st k=true:=nj (C:=λx=>dp x self fr st k) rfl h
theorem Xl(h:dp (go o f) self fr st k=true):∃a,o=some a/\dp (f a) self fr st k=true:=gW (C:=λx=>dp x self fr st k) rfl h
theorem Up(h:dp (nu l f) self fr st k=true):∃a,l= [a]/\dp (f a) self fr st k=true:=xJ (C:=λx=>dp x self fr st k) rfl h
theorem xu(h:dp (pG l x) self fr st k=true):l= []/\dp x self fr st k=true:=Gq (C:=λx=>dp x self fr st k) rfl h
end
theorem P4{t e:ax}{pos:Pos}(X:dT)(Y0Y:Parts)(M:y8 P self)(c:gX e=false)(c2:(!(o4 t&&o4 e))=true)(c3:uL t=true)(c4:vv (ex (ak fr.e) t)=true)(hr:lL (ex (ak fr.e) t) (ex (ak fr.e) e) self fr st k=true):GS P fr (.Assign [t] e pos) st k:=by
 have h:=aaq c4 hr;cases t with
 |Name x p=>exact NR H (n:=29) (m:=30) h c
 |Attribute o a p=>exact NO H X (n:=29) (m:=30) h c
 |Subscript o i p=>exact NQ H (n:=29) (m:=30) Y0Y h c
 |Tuple es c' p=>
  have q:ex (ak fr.e) (.Tuple es c' p)= .tup (aK (aw 29 (ak fr.e)) es):=by show bf (!(gD (gd (noStar es) _))||_) (gd (noStar es) _) .bad=_;rw [CY (es:=es) c3];rfl
  exact M.WE c3 c (fJ c2) (q▸hr)
 |_=>exact aE c3
theorem Tl{n:Nat}{c:Stmt}(X:dT)(Z0Z:Stat)(I:kg)(Y0Y:Parts)(J0J:nB)(M:y8 P self)(hdef:∀{c:Stmt},(∃a b d e f g h i j l,c= .FunctionDef a b d e f g h i j l)->dp (bE n (ak fr.e) c) self fr st k=true->GS P fr c st k)(hr:dp (bE n (ak fr.e) c) self fr st k=true):GS P fr c st k:=by
 cases n with
 |zero=>exact aE hr
 |succ n=>
  cases c with
  |Pass pos=>exact Ti H hr
  |Expr e pos=>refine au (rp hr) λc hr=>?_;exact Tc H (n:=30) hr (fJ c)
  |Return e pos=>
   cases e with
   |none=>exact Tj H hr
   |some e=>exact Fs H (n:=30) hr
  |If t b o pos=>exact aaz H (n:=30) hr
  |Assign ts e pos=>
   refine am (Up hr) λt aq hr=>?_;have aa:=aq;clear hr aq;subst aa;refine au (rp hr) λc hr=>?_;refine au (b7.mp c) λc1 c2=>?_;refine au (b7.mp c2) λc2 c4=>?_;refine au (b7.mp c2) λc2 c3=>?_;cases z:gX e with
   |true=>rw [z] at hr c1;exact M.TN c3 (b7.mp c1).2 hr
   |false=>rw [z] at hr;exact P4 H X Y0Y M z c2 c3 c4 hr
  |AugAssign t op e pos=>refine au (rp hr) λc hr=>?_;exact VP H X Y0Y J0J c hr
  |For t e b o pos=>refine au (xu hr) λaZ hr=>?_;have aa:=aZ;clear hr aZ;subst aa;refine au (rp hr) λc hr=>?_;refine au (b7.mp c) λc1 c2=>?_;exact VU H (n:=30) Z0Z I hr c1 c2
  |While t b o pos=>refine au (xu hr) λaZ hr=>?_;have aa:=aZ;clear hr aZ;subst aa;exact QV H (n:=30) Z0Z hr
  |Raise e c pos=>
   refine am (Xl hr) λe aq hr=>?_;have aa:=aq;clear hr aq;subst aa;cases c with
   |some=>exact aE hr
   |none=>exact M.raise hr
  |Try b hs o fin pos=>refine au (xu hr) λaZ hr=>?_;have aa:=aZ;clear hr aZ;subst aa;refine au (rp hr) λc hr=>?_;exact M.try_ (fJ c) hr
  |FunctionDef=>exact hdef ⟨_,_,_,_,_,_,_,_,_,_,rfl⟩ hr
  |_=>exact aE hr
end
section
noncomputable def Goal(ek:Fr->X->X->X->Nat->Nat->St->Kont->Prop)(P:Pr)(tk:Tk)(st:St)(k:Kont):Prop:=match tk with
 | .ex fr e=>y0 P fr e st k
 | .test fr e=>y6 P fr e st k
 | .bools fr op x=>Hc P fr op x st k
 | .tests fr op x=>FE P fr op x st k
 | .args fr x=>yZ P fr x st k
 | .sts fr x=>ng P fr x st k
 | .loop fr t it b=>ye P fr t it b st k
 | .gY fr t b=>y7 P fr t b st k
 | .comp fr elt t ifs it acc=>ek fr elt t ifs it acc st k
 | .call c f vs=>lB P c f vs st k/\∀a x,f= .glob a->b6.get a=some x->bZ P c a vs st k
structure Rest(ek:Fr->X->X->X->Nat->Nat->St->Kont->Prop)(P:Pr)(vec:Bool):Prop where
 X:dT
 Z0Z:Stat
 I:kg
 Y0Y:Parts
 J0J:nB
 more:∀{sf:Self},(∀tk st k,sf tk st k=true->Goal ek P tk st k)->More P sf
 H7:∀{sf:Self},(∀tk st k,sf tk st k=true->Goal ek P tk st k)->y8 P sf
 def_:∀{sf:Self} {fr:Fr} {st:St} {k:Kont} {n:Nat} {c:Stmt},(∀tk st k,sf tk st k=true->Goal ek P tk st k)->(∃a b d e f g h i j l,c= .FunctionDef a b d e f g h i j l)->dp (bE n (ak fr.e) c) sf fr st k=true->GS P fr c st k
 call:∀{sf:Self} {c:Cx} {f:AV} {vs:List AV} {st:St} {k:Kont},(∀tk st k,sf tk st k=true->Goal ek P tk st k)->z0 c f vs vec sf st k=true->lB P c f vs st k/\∀a x,f= .glob a->b6.get a=some x->bZ P c a vs st k
 comp:∀{sf:Self} {fr:Fr} {elt t ifs:Mine.X} {it acc:Nat} {st:St} {k:Kont},(∀tk st k,sf tk st k=true->Goal ek P tk st k)->z9 fr elt t ifs it acc vec sf st k=true->ek fr elt t ifs it acc st k
variable{ek:Fr->X->X->X->Nat->Nat->St->Kont->Prop}{P:Pr}{vec:Bool}
theorem jK{sf:Self}(h:∀tk st k,sf tk st k=true->Goal ek P tk st k):ep P sf where
 ex:=λq=>h (.ex _ _) _ _ q
 test:=λq=>h (.test _ _) _ _ q
 bools:=λq=>h (.bools _ _ _) _ _ q
 tests:=λq=>h (.tests _ _ _) _ _ q
 args:=λq=>h (.args _ _) _ _ q
 call:=λq=>(h (.call _ _ _) _ _ q).1
 code:=λq hx=>(h (.call _ _ _) _ _ q).2 _ _ rfl hx
 sts:=λq=>h (.sts _ _) _ _ q
 loop:=λq=>h (.loop _ _ _ _) _ _ q
 gY:=λq=>h (.gY _ _ _) _ _ q
theorem V6(T:Rest ek P vec){sf:Self}(h:∀tk st k,sf tk st k=true->Goal ek P tk st k)(tk:Tk)(st:St)(k:Kont)(hr:step1 tk vec sf st k=true):Goal ek P tk st k:=by
 have H:=jK h;cases tk with
 |ex fr e=>intro n e' hx;subst hx;exact aay H.toEOk T.X (T.more h) hr
 |test fr e=>intro n e' hx;subst hx;exact Tm H.toEOk hr
 |bools fr op x=>intro n es hx J s A Q E env pos R F post;exact QO H.toEOk hr hx R F post
 |tests fr op x=>intro n es hx J s A Q E env R F post;exact QT H.toEOk hr hx R F post
 |args fr x=>intro n es hx hs;exact S7 H.toEOk n es hr hx hs
 |sts fr x=>intro s0 n l hx;exact V1 H hr hx (λq=>Tl H T.X T.Z0Z T.I T.Y0Y T.J0J (T.H7 h) (λd q=>T.def_ h d q) q) s0
 |loop fr t it b=>exact Tf H T.I T.Y0Y hr
 |gY fr t b=>exact QW H hr
 |comp fr elt t ifs it acc=>exact T.comp h hr
 |call c f vs=>exact T.call h hr
theorem rF(T:Rest ek P vec){hR:iO}(O0O:∀tk st k,hR tk st k=some true->Goal ek P tk st k):∀n tk st k,run vec hR n tk st k=true->Goal ek P tk st k
 |0,_,_,_,h=>by cases h
 |n+1,tk,st,k,h=>by
  have h:oe (step1 tk vec (run vec hR n) st k) (λb=>b) (hR tk st k)=true:=h;cases c:hR tk st k with
  |some b=>rw [c] at h;exact O0O tk st k (by refine ae c ?_;exact congrArg some h)
  |none=>rw [c] at h;exact V6 T (rF T O0O n) tk st k h
end
noncomputable def eN(P:Pr)(fr:Fr)(elt t ifs:Mine.X)(it acc:Nat)(st:St)(k:Kont):Prop:=(∀v st',k (.exc v) st'=false)->∀n e tg es iter scope pos,km tg=true->aw n (ak fr.e) e=elt->aw n (ak fr.e) tg=t->aK (aw n (ak fr.e)) es=ifs->
 ∀J s A R env a b,Rel P J st s->bj P J fr A env->J.aA[it]?=some a->J.aA[acc]?=some b->Post P k J (λ_ r s=>r= .next->R (.ok .next) s)->
 codeAny (Md P) A (.compLoop (.ListComp e [⟨tg,iter,es,0⟩] scope pos) 0 (.ref a) (.ref b) env) R s
section
variable{P:Pr}{self:Self}{fr:Fr}{J:G}{st:St}{s:Shared}{k:Kont}{A:Around}{E:Value->Shared->Prop}{env:Env}
theorem Tu(env:Env):∀(ifs:List ax),(forIn ifs true λc r=>if r=true then do let ok<-isTrue c env (eval c env);pure (ForInStep.yield ok) else pure (ForInStep.yield r))=allTrue .And ifs env:=by
 have no:∀(l:List ax),(forIn l false λc r=>if r=true then do let ok<-isTrue c env (eval c env);pure (ForInStep.yield ok) else pure (ForInStep.yield r))=(pure false:Sem Bool):=by
  intro l
  induction l with
  |nil=>rfl
  |cons c l ih=>rw [jP,if_neg (by decide)];show (pure (ForInStep.yield false):Sem (ForInStep Bool))>>= _=_;rw [pure_bind];exact ih
 intro l
 induction l with
 |nil=>rfl
 |cons c l ih=>
  rw [jP,if_pos rfl,bind_assoc];show _=(do match ey.And, <-isTrue c env (eval c env) with | .And,false=>pure false | .Or,true=>pure true |_,_=>allTrue .And l env);refine bind_congr λok=>?_;rw [pure_bind];cases ok with
  |false=>exact no l
  |true=>exact ih
theorem Qt{elt target iter:ax}{ifs:List ax}{scope:Scope}{pos:Pos}{it acc:Value}{R:Result->Shared->Prop}
  (h:wpAny (Md P) A (pyNext it) (λr s₁=>match r with
   |none=>R (.ok .next) s₁
   |some v=>wpAny (Md P) A (letOwnedTupleGo target it v) (λ_ s₁'=>wpAny (Md P) A (assign target env v) (λ_ s₂=>
     wpAny (Md P) A (allTrue .And ifs env) (λok s₃=>
      if ok=true then wpAny (Md P) A (eval elt env) (λx s₄=>
       wpAny (Md P) A (call (.builtin "list.append") [acc,x]) (λ_ s₅=>codeAny (Md P) A (.compLoop (.ListComp elt [⟨target,iter,ifs,0⟩] scope pos) 0 it acc env) R s₅) (notedBy (Md P) A env λe s'=>R (.error e) s') s₄) (notedBy (Md P) A env λe s'=>R (.error e) s') s₃
      else codeAny (Md P) A (.compLoop (.ListComp elt [⟨target,iter,ifs,0⟩] scope pos) 0 it acc env) R s₃) (notedBy (Md P) A env λe s'=>R (.error e) s') s₂) (notedBy (Md P) A env λe s'=>R (.error e) s') s₁') (notedBy (Md P) A env λe s'=>R (.error e) s') s₁) (notedBy (Md P) A env λe s'=>R (.error e) s') s):
  codeAny (Md P) A (.compLoop (.ListComp elt [⟨target,iter,ifs,0⟩] scope pos) 0 it acc env) R s:=by
 refine codeAny_of_tree ?_;show wpAny _ A ((compTurn (.ListComp elt [⟨target,iter,ifs,0⟩] scope pos) 0 it acc env).onRaise (λx=>do noteFrame x env;theTreesLotGoes x)) _ _ s;refine wpAny_noted ?_;rw [compTurn_list];refine az (ga (az (da h (λr s₁ h₁=>?_) λ_ _ h'=>h')));cases r with
 |none=>exact aT h₁
 |some v=>
  refine az (da h₁ (λ_ s₁' h₁'=>?_) λ_ _ h'=>h');refine az (da h₁' (λ_ s₂ h₂=>az ?_) λ_ _ h'=>h');show wpAny _ _ (forIn ifs true λc r=>if r=true then do let ok<-isTrue c env (eval c env);pure (ForInStep.yield ok) else pure (ForInStep.yield r)) _ _ _;rw [Tu];refine da h₂ (λok s₃ h₃=>?_) λ_ _ h'=>h';cases ok with
  |false=>exact aT ⟨rfl,h₃⟩
  |true=>exact az (az (da h₃ (λx s₄ h₄=>az (da h₄ (λ_ s₅ h₅=>aT (aT ⟨rfl,h₅⟩)) λ_ _ h'=>h')) λ_ _ h'=>h'))
theorem QM{it:Nat}{a:Addr}{o:AO}{Q:Value->Shared->Prop}(R:Rel P J st s)(hg:st.get it=some o)(hi:zI o=true)(ha:J.aA[it]?=some a)(hQ:Q (.ref a) s):wpAny (Md P) A (pyIter (.ref a)) Q E s:=by
 refine bp (R.objs it o (R.lt ha) hg) λa' ob h1 h2 h3=>?_;rw [ha] at h1;cases h1;cases o with
 |rng cur stop=>refine am h3 λleft aq _=>?_;have aa:=aq;clear h3 aq;subst aa;exact wpAny_pyIter_rangeiter (x:=cur) (left:=left) (step:=1) h2 hQ
 |du src pos=>
  have hi:HM src=true:=hi;cases src with
  |tup xs=>refine bP ((show ∃v,VR J (.tup xs) v/\ob.data= .fields #[v,.int pos 0]/\ob.cls= .type (fc (.tup xs) v) from h3)) λv hv hd hc=>?_;cases hv;exact wpAny_pyIter_tupleiter ⟨_,h2,hc,hd⟩ hQ
  |str w=>
   refine bP ((show ∃v,VR J (.str w) v/\ob.data= .fields #[v,.int pos 0]/\ob.cls= .type (fc (.str w) v) from h3)) λv hv hd hc=>?_;cases hv with
   | @str _ x t h=>
    have hc:ob.cls= .type (strIterType x):=hc;unfold strIterType at hc
    split at hc
    ·exact wpAny_pyIter_striter_ascii ⟨_,h2,hc,hd⟩ hQ
    ·exact wpAny_pyIter_striter_wide ⟨_,h2,hc,hd⟩ hQ
  |ref i=>refine bP ((show ∃v,VR J (.ref i) v/\ob.data= .fields #[v,.int pos 0]/\ob.cls= .type (fc (.ref i) v) from h3)) λv hv hd hc=>?_;cases hv;exact wpAny_pyIter_listiter ⟨_,h2,hc,hd⟩ hQ
  |bw xs=>refine bP ((show ∃v,VR J (.bw xs) v/\ob.data= .fields #[v,.int pos 0]/\ob.cls= .type (fc (.bw xs) v) from h3)) λv hv hd hc=>?_;cases hv;exact wpAny_pyIter_listiter ⟨_,h2,hc,hd⟩ hQ
  |_=>cases hi
 |_=>cases hi
end
section
variable{P:Pr}{self:Self}{fr:Fr}{J:G}{st:St}{s:Shared}{k:Kont}{A:Around}{E:Value->Shared->Prop}{env:Env}
variable(h:∀tk st k,self tk st k=true->Goal (eN P) P tk st k)
include h
set_option tactic.hygienic true in
theorem Tn{elt t ifs:Mine.X}{it acc:Nat}{vec:Bool}(I:kg)(Y0Y:Parts)(hr:z9 fr elt t ifs it acc vec self st k=true):eN P fr elt t ifs it acc st k:=λhk n e tg es iter scope pos sO he ht adb J s A R env a b Rl F ha hb post=>by
 subst he ht adb;have H:=jK h;have hr:bf fr.c.hd false (aj (kb it st) (zt fr (aw n (ak fr.e) e) (aw n (ak fr.e) tg) (aK (aw n (ak fr.e)) es) it acc self k))=true:=hr;cases hd:fr.c.hd with
 |true=>rw [hd] at hr;cases hr
 |false=>
 rw [hd] at hr;refine aF (show aj (kb it st) (zt fr (aw n (ak fr.e) e) (aw n (ak fr.e) tg) (aK (aw n (ak fr.e)) es) it acc self k)=true from hr) λp h1 h2=>?_;obtain ⟨r,st1⟩:=p;refine Qt (I.next h1 (F.c.hd hd) Rl ha λJ1 s1 l1 R1=>?_);cases r with
 |none=>exact post _ _ _ _ (show k .next st1=true from h2) trivial l1 R1 rfl
 |some w=>
  intro u hu;have F1:=F.mono l1;have ha1:=aN l1.aA ha;have hb1:=aN l1.aA hb;refine Gy h1 Rl R1 ha1 ?_
  refine EC H (n:=n) Y0Y sO (show dc (aw n (ak fr.e) tg) self fr w st1 (nextK k λst1=>self (.tests fr .And (aK (aw n (ak fr.e)) es)) st1 (kt k λb st2=>bf b
     (self (.ex fr (aw n (ak fr.e) e)) st2 (kv k (uH fr (aw n (ak fr.e) e) (aw n (ak fr.e) tg) (aK (aw n (ak fr.e)) es) it acc self k))) (self (.comp fr (aw n (ak fr.e) e) (aw n (ak fr.e) tg) (aK (aw n (ak fr.e)) es) it acc) st2 k)))=true from h2) R1 F1 hu (Q:=λf s₂=>match f with | .next=>wpAny (Md P) A (allTrue .And es env) _ _ s₂ |_=>True) λz st2 J2 s2 q x l2 R2=>?_
  have kQ:=l1.trans l2;have F2:=F1.mono l2;cases z with
  |next=>
   refine H.tests (show self (.tests fr .And (aK (aw n (ak fr.e)) es)) st2 (kt k λb st2=>bf b
     (self (.ex fr (aw n (ak fr.e) e)) st2 (kv k (uH fr (aw n (ak fr.e) e) (aw n (ak fr.e) tg) (aK (aw n (ak fr.e)) es) it acc self k))) (self (.comp fr (aw n (ak fr.e) e) (aw n (ak fr.e) tg) (aK (aw n (ak fr.e)) es) it acc) st2 k))=true from q) n es rfl J2 s2 A _ _ env R2 F2 λz st3 J3 s3 q3 x3 l3 R3=>?_
   have kR:=kQ.trans l3;rcases HQ q3 with ⟨b,rfl,q3⟩ | ⟨b,rfl,q4⟩
   ·cases b with
    |false=>have q3:self (.comp fr (aw n (ak fr.e) e) (aw n (ak fr.e) tg) (aK (aw n (ak fr.e)) es) it acc) st3 k=true:=q3;show codeAny _ _ _ _ _;exact h _ _ _ q3 hk n e tg es iter scope pos sO rfl rfl rfl J3 s3 A R env a b R3 (F.mono kR) (aN kR.aA ha) (aN kR.aA hb) (post.le kR)
    |true=>
     have q3:self (.ex fr (aw n (ak fr.e) e)) st3 (kv k (uH fr (aw n (ak fr.e) e) (aw n (ak fr.e) tg) (aK (aw n (ak fr.e)) es) it acc self k))=true:=q3;show wpAny _ _ _ _ _ _;refine bV (λ_=>H.ex) q3 R3 (F.mono kR) rfl (λv st' J' s' q=>by rw [hk] at q;cases q) λy bc J4 s4 h4 l4 R4 F4 yv hyv=>?_;have nR:=kR.trans l4
     have h4:(match bc.get acc with
      |some (.list none xs)=>bf (short xs) (self (.comp fr (aw n (ak fr.e) e) (aw n (ak fr.e) tg) (aK (aw n (ak fr.e)) es) it acc) (bc.set acc (.list none (app xs [y]))) k) false
      |_=>false)=true:=h4
     split at h4
     ·rename_i xs hg
      obtain ⟨h5,h6⟩:=ii h4;have hb4:=aN nR.aA hb;obtain ⟨b',o,hb',ho,hor⟩:=R4.objs acc _ (R4.lt hb4) hg;rw [hb4] at hb';cases hb';obtain ⟨vs,m,rfl,hvs⟩:=hor;have h5:=eK h5;have hlen:vs.size=xs.length:=by refine bH hvs.length ?_;simp
      refine wpAny_list_append_plain ⟨m,ho⟩ (λh' ⟨n',ho'⟩ hs=>?_) (aI (ck hlen) (v5 h5));have R5:=list_set R4 hg hb4 ho hs ho' (b9:=.list none (app xs [y])) ⟨_,_,rfl,by show ay J4 (app xs [y]) (vs.push yv).toList;rw [MT,cW];exact ay.append (.cons hyv .nil) hvs⟩;exact h _ _ _ h6 hk n e tg es iter scope pos sO rfl rfl rfl J4 _ A R env a b R5 (F.mono nR) (aN nR.aA ha) hb4 (post.le nR)
     ·cases h4
   ·exact λv hv=>by rw [hk] at q4;cases q4
  |brk=>trivial
  |cont=>trivial
  |ret b=>exact λ_ _=>trivial
  |exc b=>exact λv hv=>by rw [show nextK k _ (.exc b) st2=k (.exc b) st2 from rfl,hk] at q;cases q
  |_=>trivial
end
section
variable{P:Pr}{self:Self}{fr:Fr}{J:G}{st:St}{s:Shared}{k:Kont}{A:Around}{E:Value->Shared->Prop}{env:Env}
theorem Cq{env:Env}:∀{names:List (Str×NameKind)} {x:Str} {c:NameKind},names.lookup x=some c->
  let l:=(names.map λ (n,k)=>if (k==NameKind.free&&env.scope.kind== .function&&env.kindOf n==some .cell) then (n,NameKind.cell) else (n,k))
  l.lookup x=some c\/(c= .free/\l.lookup x=some .cell)
 | [],_,_,h=>by simp at h
 | (n,k)::r,x,c,h=>by
  have ih:=@Cq env r x c;dsimp only at ih ⊢;show NY x ((if (k==NameKind.free&&env.scope.kind== .function&&env.kindOf n==some .cell)=true then (n,NameKind.cell) else (n,k))::_)=_\/(_/\NY x ((if (k==NameKind.free&&env.scope.kind== .function&&env.kindOf n==some .cell)=true then (n,NameKind.cell) else (n,k))::_)=_);cases hx:x==n with
  |true=>
   simp only [gP,hx] at h;cases h
   by_cases hc:(k==NameKind.free&&env.scope.kind== .function&&env.kindOf n==some .cell)=true
   ·refine ae (if_pos hc) ?_
    simp only [gP,hx];simp only [i0,beq_iff_eq] at hc;exact .inr ⟨hc.1.1,trivial⟩
   ·refine ae (if_neg hc) ?_;simp only [gP,hx];exact .inl trivial
  |false=>
   simp only [gP,hx] at h
   by_cases hc:(k==NameKind.free&&env.scope.kind== .function&&env.kindOf n==some .cell)=true
   ·refine ae (if_pos hc) ?_;simp only [gP,hx];exact ih h
   ·refine ae (if_neg hc) ?_;simp only [gP,hx];exact ih h
theorem CB:∀{l:List (Str×NameKind)} {x:Str×NameKind},(l.map λp=>nm p.1).Nodup->x∈l->l.lookup x.1=some x.2
 | [],_,_,h=>by cases h
 |p::l,x,hn,h=>by
  refine au (la.mp (show (nm p.1::l.map λp=>nm p.1).Nodup from hn)) λh1 h2=>?_;rcases jQ.mp h with rfl |h
  ·obtain ⟨a,b⟩:=x
   rw [gP,beq_self_eq_true]
  ·rw [gP]
   have:(x.1==p.1)=false:=by
    cases d:x.1==p.1 with
    |false=>rfl
    |true=>rw [<-eq_of_beq d] at h1;exact absurd (oq.mpr ⟨x,h,rfl⟩) h1
   refine ae this ?_;exact CB h2 h
noncomputable def rJ(env:Env)(x:Str×NameKind)(r:List (Str×Addr)):Sem (ForInStep (List (Str×Addr))):=if (x.2==NameKind.free)=true then cellOf env x.1>>= λa=>pure (ForInStep.yield ((x.1,a)::r)) else pure (ForInStep.yield r)
theorem PA{cells:List (Nm×cL)}{p:Str×NameKind}{r:List (Str×NameKind)}:frees cells (p::r)=bf (zC p.2) (ob (lk (nm p.1) cells) λc=>ob (frees cells r) λl=>some ((nm p.1,c)::l)) (frees cells r):=rfl
theorem xp{e:gA}(F:cA J e env):∀(names:List (Str×NameKind)) {cs:List (Nm×cL)} (acc:List (Str×Addr)),frees e.cells names=some cs->∃cl,(forIn names acc (rJ env):Sem (List (Str×Addr)))=pure cl/\
  ∀x,(∀c,lk (nm x) cs=some c->lk (nm x) e.cells=some c/\cl.lookup x=env.cells.lookup x)/\(lk (nm x) cs=none->cl.lookup x=acc.lookup x)
 | [],cs,acc,h=>by cases h;exact ⟨acc,rfl,λx=>⟨λc q=>(by cases q),λ_=>rfl⟩⟩
 | (n,k)::r,cs,acc,h=>by
  rw [PA] at h;cases hk:zC k with
  |false=>
   rw [hk] at h;refine am (xp F r acc (show frees e.cells r=some cs from h)) λcl h1 h2=>?_;refine ⟨cl,?_,h2⟩;rw [jP];have:(k==NameKind.free)=false:=by cases k<;>first |rfl |cases hk
   unfold rJ;simp only [this,k8,if_false,pure_bind];exact h1
  |true=>
   rw [hk] at h;refine am (cz (show (ob (lk (nm n) e.cells) λc=>ob (frees e.cells r) λl=>some ((nm n,c)::l))=some cs from h)) λc h1 h2=>?_;refine am (cz h2) λl h3 h4=>?_;cases h4;have hc:=F.cells n;rw [h1] at hc;have:∃a,env.cells.lookup n=some a:=by
    cases c with
    | «at» i=>obtain ⟨a,q, -⟩:=hc;exact ⟨a,q⟩
    |con _ v=>obtain ⟨a,o,w,q, -⟩:=hc;exact ⟨a,q⟩
   refine aQ this λa ha=>?_;refine am (xp F r ((n,a)::acc) h3) λcl h5 h6=>?_;refine ⟨cl,?_,λx=>?_⟩
   ·rw [jP]
    have hk:(k==NameKind.free)=true:=by cases k<;>first |rfl |cases hk
    show rJ env (n,k) acc>>= _=_;unfold rJ cellOf;simp only [hk,if_true,ha,pure_bind];exact h5
   ·rw [jZ]
    cases d:ag (nm x) (nm n) with
    |true=>
     have:=dM (aH d);subst this;refine ⟨λc' q=>?_,λq=>(by cases q)⟩;cases q;refine ⟨h1,?_⟩;cases z:lk (nm x) l with
     |none=>rw [(h6 x).2 z,ha];simp [gP]
     |some c'=>exact ((h6 x).1 c' z).2
    |false=>
     refine ⟨λc' q=>(h6 x).1 c' q,λq=>?_⟩;rw [(h6 x).2 q,gP];have:(x==n)=false:=by
      cases d':x==n with
      |false=>rfl
      |true=>rw [eq_of_beq d'] at d;exact absurd rfl (dC d)
     rw [this]
theorem T6{scope:Scope}:closureFor scope env=forIn scope.names [] (rJ env)>>= pure:=rfl
theorem Ul{scope:Scope}{g:Addr}{cl:List (Str×Addr)}{q:Str}(hc:∀y∈scope.names,y.2≠ .cell):newFunctionEnv scope g cl [] q none .none (some env)=alloc emptyDict>>= λL=>pure {scope,locals:=L,globals:=g,cells:=cl,qual:=q,func:=none,code:=env.code,frame:=env.frame,builtins:=env.builtins}:=by
 unfold newFunctionEnv;refine bind_congr λL=>?_;have z:∀(l:List (Str×NameKind)),(∀y∈l,y.2≠ .cell)->(forIn l cl λ (x:Str×NameKind) (r:List (Str×Addr))=>if (x.2==NameKind.cell)=true then alloc {cls:=.type "cell",data:=.cell none}>>= λa=>pure (ForInStep.yield ((x.1,a)::r)) else pure (ForInStep.yield r))=(pure cl:Sem _):=by
  intro l hl
  induction l with
  |nil=>rfl
  |cons p l ih=>
   have:(p.2==NameKind.cell)=false:=by simpa using hl p (.head _)
   rw [jP];simp only [this,k8,if_false,pure_bind];exact ih λy hy=>hl y (.tail _ hy)
 show (forIn scope.names cl λ (x:Str×NameKind) (r:List (Str×Addr))=>if (x.2==NameKind.cell)=true then alloc {cls:=.type "cell",data:=.cell none}>>= λa=>pure (ForInStep.yield ((x.1,a)::r)) else pure (ForInStep.yield r))>>= _=_;rw [z _ hc];rfl
theorem CX(R:Rel P J st s){L:Nat}{C:Addr}{ao:AO}(hg:st.get L=some ao)(hi:pn ao=true)(hC:J.aA[L]?=some C):(∃m,s.heap.Ns C m)/\∀h',eJ C s.heap h'->Rel P J (st.drop L) {s with heap:=h'}:=by refine ba (DW hi) λcap es ai hcap=>?_;subst ai;have hL:=R.lt hC;have hr:=R.room;obtain ⟨C',o,h1,ho,en,n,h0,hd,h3,h4,h5,h6⟩:=R.objs L _ hL hg;obtain rfl:=af (hC.symm.trans h1);refine ⟨⟨_,o,en,n,ho,hd,h4,λ_=>rfl⟩,λh' hs=>(R.dropped hL).gr (B:=(· =C)) (Gr.X6 hs) λb hb=>hb▸⟨bx hC,R.apart L _ _ hL hg hC,λq=>?_,λi ao e q=>(R.je hL (R.lt q) e).1 (R.inj q hC),λi e q=>R.jp hC ho (.inl λvs z=>cQ Data.ctorIdx (hd.symm.trans z) rfl) (R.inj q hC▸e)⟩⟩;refine ba ((R.nf _ q).2.2.2 L _ hL hg hC) λc e q1 q2=>?_;exact cV.mpr q2 ((bU.inj (af (congrArg dU q1))).1▸hcap)
end
section
variable{P:Pr}{self:Self}{fr:Fr}{J:G}{st:St}{s:Shared}{k:Kont}{A:Around}{E:Value->Shared->Prop}{env:Env}
variable(h:∀tk st k,self tk st k=true->Goal (eN P) P tk st k)
include h
theorem EH{n:Nat}{elt tg it:ax}{ifs:List ax}{scope:Scope}{cs:List (Nm×cL)}{pos pos':Pos}{use:Option (Value->Sem Unit)}{kk:Nat->Nat->St->Bool}{Q:Value->Shared->Prop}(I:kg)(sO:km tg=true)(hs:o7 it=true)(hok:uh scope=true)(hcs:frees fr.e.cells scope.names=some cs)
  (hr:self (.ex fr (aw n (ak fr.e) it)) st (kv k λv st1=>aj (mZ v st1) (ui scope cs (aw n scope elt) (aw n scope tg) (aK (aw n scope) ifs) self fr kk))=true) (R:Rel P J st s) (F:bj P J fr A env)
  (hexc:∀v st' J' s',k (.exc v) st'=true->hG (.exc v) st'->J.Le J'->Rel P J' st' s'->∀u,VR J' v u->E u s')
  (fin:∀acc L st' J' s' b C,kk acc L st'=true->J.Le J'->Rel P J' st' s'->J'.aA[acc]?=some b->J'.aA[L]?=some C->bj P J' fr A env->compPost (Md P) A E use Q (.ref b) C (.ok .next) s'):
  wpAny (Md P) A (comprehension (.ListComp elt [⟨tg,it,ifs,0⟩] scope pos) scope env pos' (newList []) false (eval it env) use) Q E s:=by
 have H:=jK h;refine aB hok λhf hcl=>?_;refine aB hf λhf hnd=>?_;have hcell:∀y∈scope.names,y.2≠ .cell:=λy hy q=>by have:=be.mp hcl y hy;rw [q] at this;cases this
 have hkind:scope.kind= .function:=by cases q:scope.kind<;>rw [q] at hf<;>first |rfl |cases hf
 have hnames:∀x∈scope.names,x.2= .local->scope.names.lookup x.1=some .local:=λx hx hl=>by have:=CB (qx hnd) hx;exact ae this (ae hl rfl)
 refine am (xp F.e scope.names [] hcs) λcl c1 c2=>?_;refine wpAny_comprehension_free (cl:=cl) (g:=⟨tg,it,ifs,0⟩) rfl (λx=>by cases it<;>first |rfl |cases hs) (by refine ae T6 (ae c1 ?_);rfl) hkind hnames ?_;refine bV (λ_=>H.ex) hr R F rfl hexc λw st1 J1 s1 h1 l1 R1 F1 u hu=>?_;refine aF h1 λp h2 h3=>?_;refine I.iter h2 R1 hu λJ2 s2 a l2 R2 ha=>?_;refine aF (show aj (p.2.get p.1) (λo=>bf (zI o) (aj (ca p.2 (.list none [])) λst1=>aj (ca st1 (.dict 500000 true [])) λst2=>self (.comp (yl fr scope cs st1.n) (aw n scope elt) (aw n scope tg) (aK (aw n scope) ifs) p.1 p.2.n) st2 (Hv (kk p.2.n st1.n))) false)=true from h3) λo h4 h5=>?_;refine au (ii h5) λh6 h7=>?_;refine aF h7 λst3 h8 h9=>?_;refine aF h9 λbc h10 h11=>?_;refine au (fD h8) λn3 aq=>?_;subst aq;refine au (fD h10) λn4 aq=>?_;subst aq;refine au (R2.new (o:={cls:=.type "list",dict:=none,data:=.seq #[] 0,slots:= #[]}) (ao:=.list none []) rfl ⟨#[],0,rfl,.nil⟩ n3) λR3 a3=>?_;obtain ⟨R4,a4⟩:=R3.new (o:=emptyDict) (ao:=.dict 500000 true []) rfl ⟨#[],0,by decide,rfl,(λq=>by cases q),(by intro e he;simp at he),(by unfold UniqKeys;simp),λx=>rfl⟩ n4;have l3:=J2.d8 s2.heap.objs.size;have l4:=(J2.push s2.heap.objs.size).d8 (s2.heap.push {cls:=.type "list",dict:=none,data:=.seq #[] 0,slots:= #[]}).objs.size;have BL:=l3.trans l4;have nR:=(l1.trans l2).trans BL;refine wpAny_newObj_type ?_ (by size_fits);refine ae (Ul hcell) ?_;refine az (wpAny_alloc (aT ?_));have b4:=aN l4.aA a3;have F4:=F.mono nR;have hg:(((p.2.push (.list none [])).push (.dict 500000 true [])).get p.1)=some o:=by have q1:=R2.lt ha;refine ae (St.qH _ R3.wf _ (r48 n4) (wv q1 (r48 n3))) (ae (if_neg (gR (qh q1))) (ae (St.qH _ R2.wf _ (r48 n3) (wv q1 (r48 n3))) (ae (if_neg (gR q1)) ?_)));exact h4
 have FC:bj P _ (yl fr scope cs (p.2.push (.list none [])).n) A {scope:=relabel scope env,locals:=(s2.heap.push {cls:=.type "list",dict:=none,data:=.seq #[] 0,slots:= #[]}).objs.size,globals:=env.globals,cells:=cl,qual:=env.qual,func:=none,code:=env.code,frame:=env.frame,builtins:=env.builtins}:=
  ⟨F4.c,⟨λx c q=>Cq q,hkind,a4,F.e.glob,F.e.blt,F4.e.frm,λx=>by
   refine au (c2 x) λz1 z2=>?_;have q:=F4.e.cells x;show ez _ cl x (lk (nm x) cs);cases d:lk (nm x) cs with
   |none=>trivial
   |some c=>
    refine au (z1 c d) λz3 z4=>?_;rw [z3] at q;cases c with
    | «at» i=>obtain ⟨a,y1,y2⟩:=q;exact ⟨a,z4.trans y1,y2⟩
    |con _ v=>obtain ⟨a,o,w,y1,y2⟩:=q;exact ⟨a,o,w,z4.trans y1,y2⟩,(λq=>by cases q)⟩,λq=>by cases q⟩
 have loop:=h _ _ _ h11 (λ_ _=>rfl) n elt tg ifs it scope pos sO rfl rfl rfl _ _ A (compPost (Md P) A E use Q (.ref s2.heap.objs.size) (s2.heap.push {cls:=.type "list",dict:=none,data:=.seq #[] 0,slots:= #[]}).objs.size) _ a _ R4 FC (aN BL.aA ha) b4
  (λr st' J' s' q xo l R' er=>by
   subst er
   exact fin _ _ _ _ _ _ _ (show kk p.2.n (p.2.push (.list none [])).n st'=true from q) (nR.trans l) R' (aN l.aA b4) (aN l.aA a4) (F4.mono l))
 exact codeAny_compStart_list loop (QM R4 hg h6 (aN BL.aA ha) loop)
theorem Ta{n:Nat}{elt:ax}{g:Comprehension}{scope:Scope}{pos:Pos}(I:kg)(hc:(km g.target&&o7 g.iter&&ieq g.is_async 0&&uh scope)=true)
  (hr:zv scope (aw n scope elt) (aw n scope g.target) (aK (aw n scope) g.ifs) (aw n (ak fr.e) g.iter) self fr st k=true):GE P fr (.ListComp elt [g] scope pos) st k:=λJ s A Q E env R F post=>by
 refine aB hc λhc c4=>?_;refine aB hc λhc c3=>?_;refine aB hc λc1 c2=>?_;obtain ⟨tg,it,ifs,Bm⟩:=g;have c3:Bm=0:=(io _ _).mp c3;subst c3;refine am (bI hr) λcs h1 h2=>?_;rw [eval_ListComp];refine EH h (k:=k) (use:=none) I c1 c2 c4 h1 h2 R F (dA post) λacc L st' J' s' b C q l R' hb hC F'=>?_;refine aF (show aj (st'.get L) (λao=>bf (pn ao) (k (.val (.ref acc)) (st'.drop L)) false)=true from q) λao h3 h4=>?_;obtain ⟨h5,h6⟩:=ii h4;obtain ⟨g1,g2⟩:=CX R' h3 h5 hC;obtain ⟨m,g1⟩:=g1;exact ⟨m,g1,λh' hs=>post _ _ _ _ h6 trivial l (g2 h' hs) _ (.ref hb)⟩
theorem NP{t e:ax}{pos:Pos}(I:kg)(ht:uL t=true)(hc:zr (ak fr.e) t e=true)(hr:lL (.cons (ex (ak fr.e) t) .nil) (ex (ak fr.e) e) self fr st k=true):GS P fr (.Assign [t] e pos) st k:=λs0 J s A Q E env R F post=>by
 cases t with
 |Name y p=>
  cases e with
  |ListComp elt gens scope pos2=>
   refine aB hc λhc c3=>?_;refine aB hc λc1 c2=>?_;rw [yG] at c1;have hy:(ak fr.e).names.lookup y=some .local:=aF c1 λkd q1 q2=>q1.trans (congrArg some (by cases kd<;>first |rfl |exact aE q2));have hsw:swapsWith (.ListComp elt gens scope pos2) (some (.Name y p)) pos.line env=pure true:=by
    have e1:env.blockKind= .function:=by unfold Env.blockKind;rw [F.e.kind];rfl
    have e2:env.kindOf y=some .local:=F.e.here hy (by decide);have e3:(scope.names.any λ (n,k)=>n==y&&(k==NameKind.local||k==NameKind.cell))=false:=by rw [List.any_eq_false];rintro ⟨n,kd⟩ hq z;have:=be.mp c3 _ hq;simp only [i0,beq_iff_eq] at z;obtain ⟨rfl,z⟩:=z;dsimp only at this;rw [beq_refl] at this;cases kd<;>first |exact absurd this (by decide) |exact absurd z (by decide)
    show (pure (env.blockKind== .function&&env.kindOf y==some .local&&p.line==pos2.line&& !(scope.names.any λ (n,k)=>n==y&&(k== .local||k== .cell))):Sem Bool)=pure true;refine ae e1 (ae e2 (ae e3 (ae (aH c2) ?_)));simp
   refine ae (exec_Assign_Name_used _ _ _ _ hsw) ?_;refine au (nj (C:=λx=>rU (aw 30 (ak fr.e) (.Name y p)) x self fr st k) rfl (show rU (aw 30 (ak fr.e) (.Name y p)) (gd (!(gD (kZ (aw 29) (ak fr.e) (.ListComp elt gens scope pos2)))||false) (kZ (aw 29) (ak fr.e) (.ListComp elt gens scope pos2))) self fr st k=true from hr)) λ_ hr=>?_;refine am (xJ (C:=λx=>rU (aw 30 (ak fr.e) (.Name y p)) x self fr st k) rfl hr) λg aq hr=>?_;subst aq;refine au (nj (C:=λx=>rU (aw 30 (ak fr.e) (.Name y p)) x self fr st k) rfl hr) λhok hr'=>?_;obtain ⟨tg,it,ifs,Bm⟩:=g;refine aB hok λhok b4=>?_;refine aB hok λhok b3=>?_;refine aB hok λb1 b2=>?_;have b3:Bm=0:=(io _ _).mp b3;subst b3;refine aF (show aj (frees fr.e.cells scope.names) (λcs=>self (.ex fr (aw 29 (ak fr.e) it)) st (kv k λv st1=>aj (mZ v st1) (ui scope cs (aw 29 scope elt) (aw 29 scope tg) (aK (aw 29 scope) ifs) self fr λacc L st=>dc (aw 30 (ak fr.e) (.Name y p)) self fr (.ref acc) st (nextK k (zu L (k .next))))))=true from hr') λcs h1 h2=>?_;refine az (ga (az ?_));show wpAny _ A (do let _<-comprehension (.ListComp elt [⟨tg,it,ifs,0⟩] scope pos2) scope env _ (newList []) false (eval it env) (some (assign (.Name y p) env))) _ _ s;refine az (da (EH h (k:=k) (use:=some (assign (.Name y p) env)) (Q:=λ_ s'=>Q .next s') I b1 b2 b4 h1 h2 R F (dL post) λacc L st' J' s' b C q l R' hb hC F'=>?_) (λ_ s' hq=>aT (aT hq)) λ_ _ e=>e);refine wpAny_assign_Name (wR (jK h) (n:=29) q R' F' (.ref hb) (Q:=λf s''=>match f with | .next=>∃m,s''.heap.Ns C m/\∀h',eJ C s''.heap h'->Q .next {s'' with heap:=h'} |_=>True) λz st2 J2 s2 q2 x l2 R2=>?_);cases z with
   |next=>refine aF (show aj (st2.get L) (λao=>bf (pn ao) (k .next (st2.drop L)) false)=true from q2) λao h3 h4=>?_;obtain ⟨h5,h6⟩:=ii h4;obtain ⟨⟨m,g1⟩,g2⟩:=CX R2 h3 h5 (aN l2.aA hC);exact ⟨m,g1,λh' hs=>post _ _ _ _ h6 trivial (l.trans l2) (g2 h' hs)⟩
   |exc b=>exact λv hv=>post _ _ _ _ (show k (.exc b) st2=true from q2) x (l.trans l2) R2 v hv
   |ret b=>exact λ_ _=>trivial
   |brk=>trivial
   |cont=>trivial
   |_=>trivial
  |_=>exact aE hc
 |_=>exact aE hc
end
noncomputable def Fd(P:Params)(C:Nat):Bool:=match gp C jo with
 |some a=>makesIn (K P) C&&(findIn (K P) (.ref C) "__init__"==some (some (.ref a)))&&(typeIn (K P) (.ref a)==some (.type "function"))&&(b6.get a).isSome&& !(isExc C)
 |none=>false
theorem XW(P:Params):(fN.all λC=>Fd P C)=true:=by kernel_rfl
theorem RY{a:AV}(h:dq a=true):a= .none:=by cases a<;>first |rfl |cases h
theorem Tr(args:Args):(Code.builtin "type.__call__" args).cUnits=1:=by kernel_rfl
theorem Q2(a:Addr)(vs:List Value)(kw:List (Str×Value)):(Code.builtin "type.__call__" ⟨.ref a::vs,kw⟩).weight=1:=by kernel_rfl
section
variable{P:Pr}{J:G}{st:St}{s:Shared}{A:Around}{E:Value->Shared->Prop}
theorem dB.tc{c:Cx}(F:dB P J c A)(a:Addr)(vs:List Value)(kw:List (Str×Value)):dB P J ⟨c.d+1,c.u+4,c.ups,c.hd⟩ (A.under (.builtin "type.__call__" ⟨.ref a::vs,kw⟩)):=⟨by show A.depth+_<=c.d+1+301;rw [Q2,dx];exact i7 F.depth,by show A.units+_<=c.u+4;rw [Tr];exact i9 F.units (by decide),F.hd,F.frames⟩
theorem E9{vec:Bool}{C i:Nat}{k:Kont}{v:AV}{w x:Value}{Q:Value->Shared->Prop}{J₀:G}(h:j0 vec C i k v st=true)(R:Rel P J st s)(l:J₀.Le J)(post:Post P k J₀ (iP Q E))(hw:VR J v w)(hx:VR J (.ref i) x):w= .none/\Q x s:=by
 have h:bf (dq v) (bf (qW vec C) (aj (cF vec 40 (.ref i) st) λp=>k (.val p.1) p.2) (k (.val (.ref i)) st)) false=true:=h;cases c:dq v with
 |false=>rw [c] at h;cases h
 |true=>
  rw [c] at h;obtain rfl:=RY c;cases hw;refine ⟨rfl,?_⟩;have h:bf (qW vec C) (aj (cF vec 40 (.ref i) st) λp=>k (.val p.1) p.2) (k (.val (.ref i)) st)=true:=h;cases d:qW vec C with
  |false=>rw [d] at h;exact post _ _ _ _ (show k (.val (.ref i)) st=true from h) trivial l R x hx
  |true=>rw [d] at h;refine aF (show aj (cF vec 40 (.ref i) st) (λp=>k (.val p.1) p.2)=true from h) λp h1 h2=>?_;obtain ⟨J',l',R',hv', -⟩:=yA vec 40 (show cF vec 40 (.ref i) st=some (p.1,p.2) from h1) R hx;exact post _ _ _ _ h2 trivial (l.trans l') R' x hv'
theorem call_cls{vec:Bool}{sf:Self}{c:Cx}{C:Nat}{args:List AV}{k:Kont}(H:ep P sf)(hC:cn C=true)(hr:lD vec sf c C args st k=true):lB P c (.glob C) args st k:=λJ s A Q E fv vs R F hf hvs post=>by
 cases hf;have q:=be.mp (XW P.W.w.params) C (jf hC);unfold Fd at q;cases hm:gp C jo with
 |none=>rw [hm] at q;cases q
 |some a=>
  rw [hm] at q;simp only [i0,beq_iff_eq,MU] at q;obtain ⟨⟨⟨⟨q1,q2⟩,q3⟩,q4⟩,q5⟩:=q;obtain ⟨fx,hfx⟩:=n6.mp q4
  have hr:bf (cn C||isExc C) (aj (gp C jo) λa=>bf (isExc C)
   (bf (aM 1000 (len args)) false (aj (ca st (.exc C 0)) λst2=>sf (.call ⟨c.d+1,c.u+4,c.ups,c.hd⟩ (.glob a) (.ref st.n::args)) st2 (kv k (j0 vec C st.n k))))
   (aj (ca st (.dict 500000 true [])) λst1=>aj (ca st1 (.inst C st.n)) λst2=>sf (.call ⟨c.d+1,c.u+4,c.ups,c.hd⟩ (.glob a) (.ref st1.n::args)) st2 (kv k (j0 vec C st1.n k)))) false=true:=hr
  rw [hC,hm,q5] at hr
  obtain ⟨st1,h1,h2⟩:=bI (show aj (ca st (.dict 500000 true [])) (λst1=>aj (ca st1 (.inst C st.n)) λst2=>
   sf (.call ⟨c.d+1,c.u+4,c.ups,c.hd⟩ (.glob a) (.ref st1.n::args)) st2 (kv k (j0 vec C st1.n k)))=true from hr)
  refine aF h2 λst2 h3 h4=>?_;obtain ⟨n1,rfl⟩:=fD h1;obtain ⟨n2,rfl⟩:=fD (show ca (st.push (.dict 500000 true [])) (.inst C st.n)=some st2 from h3);obtain ⟨hh,g,d,t,os⟩:=s;refine wpAny_call (make_core (makes_of R.k q1) (looks_findIn R.k q2) (λself=>bind_fn R.k self q3) (.inl rfl) ?_);obtain ⟨R1,a1⟩:=R.new (o:=emptyDict) (ao:=.dict 500000 true []) rfl ⟨#[],0,by decide,rfl,(λq=>by cases q),(by intro e he;simp at he),(by unfold UniqKeys;simp),λx=>rfl⟩ n1;have l1:=J.d8 hh.objs.size;have l2:=(J.push hh.objs.size).d8 (hh.push emptyDict).objs.size;obtain ⟨R2,a2⟩:=R1.new (o:=instObj C hh.objs.size) (ao:=.inst C st.n) rfl ⟨hh.objs.size,rfl,rfl,rfl,aN l2.aA a1⟩ n2;have e1:(st.push (.dict 500000 true [])).n=st.n+1:=by obtain ⟨objs,m,ni,nv,bnd,sub,aU,x⟩:=st;rfl
  have hsz:(hh.push emptyDict).objs.size=hh.objs.size+1:=gQ ..;have kQ:=l1.trans l2;have nL:=a2;rw [hsz] at nL;refine H.code h4 hfx _ _ _ _ _ R2 ((F.mono kQ).tc _ _ _) (.cons (.ref (by refine ae hsz ?_;exact nL)) (hvs.mono kQ)) λr st' J' s' q xo l3 R3=>?_;rcases zL q with ⟨v,rfl,q⟩ | ⟨v,rfl,q⟩
  ·intro w hw
   have:=E9 (x:=.ref (hh.objs.size+1)) q R3 (kQ.trans l3) post hw (.ref (aN l3.aA (by refine ae hsz ?_;exact nL)));exact ⟨this.1,this.2⟩
  ·exact λw hw=>post _ _ _ _ q xo (kQ.trans l3) R3 w hw
end
section
open PySem.Builtin PySem.Builtin.ObjectAttr
theorem EW:Slot "BaseException" "__getattribute__" "BaseException.__getattribute__":=.of (owner:="BaseException") (n:="__getattribute__") (by rw [typeLookup_type,builtinLookup_eq_fast];kernel_rfl) (by decide+kernel) (by decide+kernel) (by decide+kernel)
  (by first |exact .inl (by decide+kernel) |exact .inr (by decide+kernel)) (by rw [isSubtype_type];kernel_rfl)
section
variable{prog:Program}{w:World}{A:Around}{E:Value->Shared->Prop}{s:Shared}{K:Frag}{x C:Addr}{ox:Obj}{od:Option Obj}{name:Str}{expr:Bool}{Q:Value->Shared->Prop}
theorem Ur{v:Value}(X:K.In s.heap)(I:InstAt s.heap x ox C od)(hga:findIn K (.ref C) "__getattribute__"=some (some (.builtin "BaseException.__getattribute__")))
  (hgt:findIn K (.ref C) "__getattr__"=some none) (hm:mroIn K C (.type "BaseException")=some true)
  (hf:findObj K C od name=some (.value v)) (hh:handedIn v=true) (h:Q v {s with toks:=s.toks+1}):wpAny (model prog w) A (getAttr (.ref x) name expr) Q E s:=by
 obtain ⟨hh',g,d,t,os⟩:=s;have L0:=I.type (M:=model prog w);have L1:=looks_findIn (M:=model prog w) X hga;have L2:=looks_findIn (M:=model prog w) X hgt;have L3:=looks_find (M:=model prog w) X I hf;have L4:=looks_mroIn (M:=model prog w) X hm;have f3:=EW.bind (.ref x);have hx2:(Value.builtin "BaseException.__getattribute__"==Value.builtin "object.__getattribute__")=false:=by decide+kernel
 have hx1:(onTheHeap (Value.ref C)&&Value.builtin "BaseException.__getattribute__"==Value.builtin "object.__getattribute__")=false:=by refine ae hx2 ?_;rfl
 have hx0:(expr&&onTheHeap (Value.builtin "BaseException.__getattribute__"))=false:=by cases expr<;>rfl
 unfold getAttr getAttrBy;refine az (wpAny_mkText (fj (az (L0.at (az (L1.at ?_))))));simp only [hx1,k8,if_false];unfold getAttrByItsOwn;refine az ?_;unfold hookBefore
 repeat (any_goals (first |assumption | (with_reducible refine L2.at ?_) |wp_step))
 refine codeAny_call_builtin EW.plain F.entry_bexc_ga ?_;have hk:builtinKind "BaseException.__getattribute__"=some .slot:=by decide+kernel
 have hsplit:splitId "BaseException.__getattribute__"=some ("BaseException","__getattribute__"):=by decide+kernel
 have ha:=F.args_bexc_ga (.ref x) (.str name t);simp only [wo,Cm,checkBuiltinCall,hk,hsplit];refine az ?_;unfold isInstance
 first |refine az (L0.at (az (L4.at ?_))) |refine az (L0.at (L4.at ?_))
 repeat (any_goals (first |assumption | (with_reducible refine L0.at ?_) | (with_reducible refine L3.at ?_) |wp_step))
 show wpAny _ _ (handedOut v) _ _ _;refine ae (handedOut_of hh) ?_;exact aT h
theorem PO(self:Value):refuseLoop self "__setattr__" [.type "Exception",.type "BaseException",.type "object"]=pure ():=by kernel_rfl
theorem Fl{c1 c2:Addr}{cd:ClassData}{R:Result->Shared->Prop}{tk:Tok}{v:Value}(X:K.In s.heap)(I:InstAt s.heap x ox C od)(hc:clsIn K C=some cd)(hmro:cd.mro= [.ref c1,.ref c2,.type "Exception",.type "BaseException",.type "object"])(ht:takerIn K C name=some none)
  (h:∀b,wpAny (model prog w) A.in1 (storeInOwnDict (.ref x) (.ref C) (.str name tk) name v b)
   (λfin s'=>match fin with | .done f=>R (.ok f) s' | .again c'=>c'.quiet=true/\codeAny (model prog w) A c' R s') (λe s'=>R (.error e) s') s):
  codeAny (model prog w) A (.call (.builtin "object.__setattr__") ⟨[.ref x,.str name tk,v],[]⟩) R s:=by
 have SF:=PySem.F.store_object;have sub:Looks (model prog w) s.heap (isInstance (.ref x) (.type "object")) true:=I.type.andThen (looks_mroIn X (by unfold mroIn;rw [hc,Option.bind_some,if_neg (by rw [hmro];exact tu),hmro];rfl));refine codeAny_call_builtin SF.slot.plain SF.entry (@check_slot (model prog w) _ _ s "object.__setattr__" "object" "__setattr__" (.ref x) [.str name tk,v] [] _ SF.kind SF.split sub (SF.args (.ref x) (.str name tk) v) ?_);refine am (Mz.mp ht) λattr ha hr=>?_;have hm:Looks (model prog w) s.heap (mroOf (.ref C)) cd.mro:=(looks_clsIn X hc).andThen .now;have L3:Looks (model prog w) s.heap (storeTaker? attr) none:=by
  cases attr with
  |none=>cases hr;exact .now
  |some a=>
   refine am (mo.mp hr) λb hb q=>?_;refine (looks_takesIn X hb).andThen ?_;cases b with
   |true=>cases q
   |false=>exact .now
 rw [osa_eq,refuse_eq];refine az (az (I.type.here (az (hm.here ?_))));rw [hmro,refuseLoop_ref,refuseLoop_ref,PO];refine aT (az (I.type.here (az ((looks_findIn X ha).here (az (L3.here ?_))))));exact h _
end
noncomputable def DP(P:Params)(C:Nat)(a:Str):Bool:=
 (findIn (K P) (.ref C) "__getattribute__"==some (some (.builtin "BaseException.__getattribute__")))&&(findIn (K P) (.ref C) "__getattr__"==some none)&&(mroIn (K P) C (.type "BaseException")==some true)&&hasDictIn (K P) C&&(findIn (K P) (.ref C) a).any (noGet (K P))
  &&(findIn (K P) (.ref C) "__setattr__"==some (some (.builtin "object.__setattr__")))&&(takerIn (K P) C a==some none)&&(clsIn (K P) C).any (λcd=>cd.mro== [.ref C,.ref 31,.type "Exception",.type "BaseException",.type "object"])
theorem NM(P:Params):([70,51].all λC=>([("message":Str),("call":Str),("condition":Str)]).all λa=>DP P C a)=true:=by kernel_rfl
theorem wZ{C:Nat}(h:isExc C=true):C∈ [70,51]:=by
 unfold isExc at h;rcases dw.mp h with h |h
 ·refine ae (aH h) ?_;decide
 ·refine ae (aH h) ?_;decide
theorem X7{a:Str}(h:iT (nm a)=true):a∈ [("message":Str),("call":Str),("condition":Str)]:=by
 unfold iT at h;have e1:tM=nm ("message":Str):=by kernel_rfl
 have e2:rx=nm ("call":Str):=by kernel_rfl
 have e3:tG=nm ("condition":Str):=by kernel_rfl
 cases c1:ag (nm a) tM with
 |true=>have:=aH c1;rw [e1] at this;refine ae (dM this) ?_;exact .head _
 |false=>
  rw [c1] at h;cases c2:ag (nm a) rx with
  |true=>have:=aH c2;rw [e2] at this;refine ae (dM this) ?_;exact .tail _ (.head _)
  |false=>rw [c2] at h;have:=aH (show ag (nm a) tG=true from h);rw [e3] at this;refine ae (dM this) ?_;exact .tail _ (.tail _ (.head _))
section
variable{P:Pr}{J:G}{st:St}{s:Shared}{A:Around}{E:Value->Shared->Prop}
theorem wG(P:Params){C:Nat}{a:Str}(hC:isExc C=true)(ha:iT (nm a)=true):findIn (K P) (.ref C) "__getattribute__"=some (some (.builtin "BaseException.__getattribute__"))/\findIn (K P) (.ref C) "__getattr__"=some none/\mroIn (K P) C (.type "BaseException")=some true/\hasDictIn (K P) C=true/\(findIn (K P) (.ref C) a).any (noGet (K P))=true
  /\findIn (K P) (.ref C) "__setattr__"=some (some (.builtin "object.__setattr__"))/\takerIn (K P) C a=some none/\∃cd,clsIn (K P) C=some cd/\cd.mro= [.ref C,.ref 31,.type "Exception",.type "BaseException",.type "object"]:=by
 have q:=be.mp (be.mp (NM P) C (wZ hC)) a (X7 ha);unfold DP at q;simp only [i0,beq_iff_eq] at q;obtain ⟨⟨⟨⟨⟨⟨⟨q1,q2⟩,q3⟩,q4⟩,q5⟩,q6⟩,q7⟩,q8⟩:=q;refine am (any_some q8) λcd h1 h2=>?_;exact ⟨q1,q2,q3,q4,q5,q6,q7,cd,h1,beq_iff_eq.mp h2⟩
theorem F5(R:Rel P J st s){i C d:Nat}{ov:Value}{es:List (Nm×EV)}(ho:st.get i=some (.exc C d))(hz:d≠0)(hd:dictAt st d=some es)(hv:VR J (.ref i) ov):∃a b o od en n,isExc (eu C)=true/\ov= .ref a/\o.dict=some b/\J.aA[d]?=some b/\InstAt s.heap a o (eu C) (some od)/\od.data= .dict en n/\∀x:Str,DR J (lk (nm x) es) (nsFind en x):=by
 obtain ⟨a,o,rfl,ha,hob,⟨vs,q0,q1,q4, -, -,⟨e, -⟩ | ⟨-,b,q2,q3⟩⟩, -⟩:=R.at_ ho hv
 ·exact absurd e hz
 obtain ⟨-,loc, -,od,en,n, -,r1,r2, -,r3,r4,r5, -⟩:=qr R hd q3;exact ⟨a,b,o,od,en,n,q0,rfl,q2,q3,jn hob q1 (by unfold notCls;exact ae q4 rfl) q2 r1,r2,r5⟩
theorem Xm:yc:=by intro P J st s A E Q i C d a w ov b R ho ha hz h hv hQ;refine ah h λes h1 h2=>?_;refine ah h2 λe h3 h4=>?_;obtain rfl:=jR h4;refine Nz (F5 R ho hz h1 hv) λx b' o od en n hC vZ q1 q2 I q3 q4=>?_;have aa:=vZ;clear hv vZ;subst aa;have q:=q4 a;rw [h3] at q;refine am q λu hu hr=>?_;refine Pa (wG P.W.w.params hC ha) λf1 f2 f3 f4 f5 f6 f7 cd f8 f9=>?_;refine am (any_some f5) λat' c4 c5=>?_;exact Ur R.k I f1 f2 f3 (findObj_own f4 c4 c5 (Do q3 hu)) (tK hr) (hQ u hr)
theorem woken(R:Rel P J st s){i C:Nat}{a:Addr}{o:Obj}{vs:Array Value}(ho:st.get i=some (.exc C 0))(ha:J.aA[i]?=some a)(hob:s.heap.get? a=some o)(hC:isExc (eu C)=true)(hc:o.cls= .ref (eu C))(hd:o.data= .fields vs)(hfr:isExc C=true->vs[1]?=some .none)(hlf:lG C=true->∃T,vs[1]?=some (.ref T))(hn:st.n<=2000)(h0:st.n≠0)(hx:st.x≠some i)(hz:J.fz a=none):
  Rel P (J.push s.heap.objs.size) ((st.push (.dict 500000 true [])).set i (.exc C st.n)) {s with heap:=(s.heap.push emptyDict).update a λo=>{o with dict:=some s.heap.objs.size}}/\(J.push s.heap.objs.size).aA[st.n]?=some s.heap.objs.size:=by
 obtain ⟨R1,a1⟩:=R.new (o:=emptyDict) (ao:=.dict 500000 true []) rfl ⟨#[],0,by decide,rfl,(λq=>by cases q),(by intro e he;simp at he),(by unfold UniqKeys;simp),λx=>rfl⟩ hn;have l1:=J.d8 s.heap.objs.size;have ade:=gN emptyDict hob;have hne:a≠s.heap.objs.size:=gR (cU hob);have hi:i< st.n:=R.lt ha;have hx1:(st.push (.dict 500000 true [])).x=st.x:=by obtain ⟨objs,m,ni,nv,bnd,sub,aU,x⟩:=st;rfl
 have hg:(st.push (.dict 500000 true [])).get i=some (.exc C 0):=by refine ae (St.qH st R.wf _ (r48 hn) (wv hi (r48 hn))) (ae (if_neg (gR hi)) ?_);exact ho
 refine ⟨R1.upd (o':={o with dict:=some s.heap.objs.size}) (aN l1.aA ha) (R1.apart i _ a (R1.lt (aN l1.aA ha)) hg (aN l1.aA ha)) (by refine ae hx1 ?_;exact hx) (eJ.update ..) (n8 _ ade (by unfold Obj.isFreed;exact ae hd rfl)) ⟨vs,hC,hc,hd,hfr,hlf,.inr ⟨h0,_,rfl,a1⟩⟩ (.inr ⟨_,hg,λ ⟨c,e,q,h⟩=>by cases q⟩),a1⟩
theorem Xn:yd:=by
 intro P J st st' s A E Q i C d a w ov v R ho ha h hv hw hQ;obtain ⟨f1,f2,f3,f4,f5,f6,f7,cd,f8,f9⟩:=wG P.W.w.params (by obtain ⟨_,_,_,_,_,⟨_,q0,_⟩,_⟩:=R.at_ ho hv;exact q0) ha;cases hd0:ag d 0 with
 |false=>rw [cu hd0] at h;refine ba (qJ h) λcap es h1 _=>?_;obtain ⟨x,b,o,od,en,n,hC,rfl,q1,q2,I,q3,q4⟩:=F5 R ho (λq=>by rw [q] at hd0;cases hd0) (show dictAt st d=some es by unfold dictAt;refine ae h1 ?_;rfl) hv;refine set_plain R.k I f6 ?_;have X:(K P.W.w.params).In ({s with toks:=s.toks+1}:Shared).heap:=R.k;have I':InstAt ({s with toks:=s.toks+1}:Shared).heap x o (eu C) (some od):=I;refine Fl X I' f8 f9 f7 λb'=>?_;refine am (any_some f4) λcd hc hd'=>?_;obtain ⟨hx,hcl,hn, -⟩:=I;obtain ⟨oc,odi,oda,osl⟩:=o;dsimp only at hcl q1;subst hcl q1;refine az (aT (az (az (wpAny_loadPart hx (az ((looks_clsIn X hc).here ?_))))));refine ae hd' ?_;refine aT (a:=some b) (az (aT (az ?_)));refine da (ur (A:=A.in1) (E:=λ_ _=>False) (R.toks (s.toks+1)) q2 h hw λs' od' en' n' e1 e2 e3 R'=>?_) (λ_ _ z=>z) λ_ _ z=>z.elim;refine az (wpAny_lookBehind e1 (by refine ae e2 ?_;exact pastItsLine_dict (aI e3 (by decide))) ?_);exact aT (hQ _ _ (.refl _) R')
 |true=>
  have hd0:=aH hd0;subst hd0;have h:bf (gG st i&& !(ag st.n 0)) (ob (ca st (.dict 500000 true [])) λst1=>putAt (st1.set i (.exc C st.n)) st.n (nm a) (.val w)) none=some st':=h;cases c:gG st i&& !(ag st.n 0) with
  |false=>rw [c] at h;cases h
  |true=>
   rw [c] at h;refine ah (show (ob (ca st (.dict 500000 true [])) λst1=>putAt (st1.set i (.exc C st.n)) st.n (nm a) (.val w))=some st' from h) λst1 h1 h2=>?_;refine au (fD h1) λn1 aq=>?_;subst aq;refine au (b7.mp c) λc1 c2=>?_;obtain ⟨x,o,rfl,hx,hob,⟨vs,q0,q1,q4,qf,ql,⟨-,q5⟩ | ⟨e, -⟩⟩,hz⟩:=R.at_ ho hv
   ·obtain ⟨R2,a2⟩:=woken R ho hx hob q0 q1 q4 qf ql n1 (λq=>by rw [q] at c2;cases c2) (mN c1) hz
    have I:InstAt s.heap x o (eu C) none:=⟨hob,q1,by unfold notCls;exact ae q4 rfl,by refine ae q5 ?_;trivial⟩;refine set_plain R.k I f6 ?_;have X:(K P.W.w.params).In ({s with toks:=s.toks+1}:Shared).heap:=R.k;have I':InstAt ({s with toks:=s.toks+1}:Shared).heap x o (eu C) none:=I;refine Fl X I' f8 f9 f7 λb'=>?_;refine am (any_some f4) λcd hc hd'=>?_;obtain ⟨oc,odi,oda,osl⟩:=o;dsimp only at q1 q4 q5;subst q1 q4 q5;refine az (aT (az (az (wpAny_loadPart hob (az ((looks_clsIn X hc).here ?_))))));refine ae hd' ?_;show wpAny _ _ (alloc emptyDict>>= λd=>update x (λo=>{o with dict:=some d})>>= λ_=>pure (some d)) _ _ _;refine az (wpAny_alloc (az (wpAny_update (gN _ hob) ?_)));refine aT (a:=some s.heap.objs.size) (az (aT (az ?_)));have l1:=J.d8 s.heap.objs.size;refine da (ur (A:=A.in1) (E:=λ_ _=>False) (R2.toks (s.toks+1)) a2 h2 (hw.mono l1) λs' od' en' n' e1 e2 e3 R'=>?_) (λ_ _ z=>z) λ_ _ z=>z.elim;refine az (wpAny_lookBehind e1 (by refine ae e2 ?_;exact pastItsLine_dict (aI e3 (by decide))) ?_);exact aT (hQ _ _ l1 R')
   ·exact absurd rfl e
theorem ab1:dT:=⟨Xm,Xn,WR,WH,UY,S6,UF,Rs⟩
end
end
section
open PySem.Builtin
section
variable{prog:Program}{w:World}{A:Around}{R:Result->Shared->Prop}{E:Value->Shared->Prop}{h:Heap}{g:Array GenState}{d:Drawn}{t:Nat}{os:OsState}
variable{nm q:Str}{C N:Addr}{bs bm bmB:List Value}{hdct:Bool}{sn:List Str}{sub:List Value}{ab:Bool}{col:Option Bool}{dd:Option Addr}{k0 k1 k2 k3 k5:Option Value}{B newId initId:String}
abbrev nF(C t:Addr):Obj:={cls:=.ref C,data:=.fields #[.ref t,.none,.none,.none,.bool false,.none]}
abbrev lY(vs:List Value):Obj:={cls:=.type "tuple",data:=.seq vs.toArray}
theorem new_exc(F:ExcBaseFacts B newId initId bmB)(hB:bm.contains (.type B)=true)(hA:bm.contains (.type "AttributeError")=false)(hN:bm.contains (.type "NameError")=false){rest:List Value}(hC:h.get? C=some (excClassObj nm q C N bs bm hdct sn sub ab col dd k0 k1 k2 k3 k5 newId))
  (hq:R (.ok (.ret (.ref (h.objs.size+1)))) ⟨(h.push (lY rest)).push (nF C h.objs.size),g,d,t,os⟩) (hrest:rest.length<=sizeLine):
  codeAny (model prog w) A (.call (.builtin newId) ⟨.ref C::rest,[]⟩) R ⟨h,g,d,t,os⟩:=by
 have hends:=F.ends;have hcB:(Value.ref C::bm).contains (.type B)=true:=by rw [Ci,hB,NG]
 have hcA:(Value.ref C::bm).contains (.type "AttributeError")=false:=by refine ae Ci (ae hA ?_);rfl
 have hcN:(Value.ref C::bm).contains (.type "NameError")=false:=by refine ae Ci (ae hN ?_);rfl
 have hstar:=F.noStar;refine codeAny_call_builtin_code (Code.quiet_builtin _ F.quiet) ?_;simp only [checkBuiltinCall,F.newKind,F.newSplit,F.newRow]
 repeat (first |refine wpAny_loadPart_at hC ?_ | (refine wpAny_isSubtype_exc hC ?_;rw [hcB]) |refine wpAny_staticBase_exc hC ?_ |refine wpAny_madeBy_exc hC ?_ |simp only [bne_self_eq_false,k8,if_false] |wp_step)
 refine codeAny_builtinAt F.entry ?_;unfold Builtin.«BaseException.__new__»;refine No ?_;show PySem.wpAt _ _ _ (PySem.stack>>= _) _ _ _;refine No (PySem.wpAt_stack λp below=>MO ?_)
 wp_walk
 refine MO ?_;rw [F.owner]
 repeat (first |with_reducible refine wpAny_madeHere_exc F.canon hC ?_ |with_reducible refine wpAny_loadPart_at hC ?_ | (with_reducible refine wpAny_isSubtype_exc hC ?_;first |rw [hcB] |rw [hcA] |rw [hcN]) |wp_step)
 show R _ _;rw [gQ];exact hq
theorem Sr(F:ExcBaseFacts B newId initId bmB)(hB:bm.contains (.type B)=true)(hA:bm.contains (.type "AttributeError")=false)(hN:bm.contains (.type "NameError")=false){rest:List Value}{init:Value}(hC:h.get? C=some (excClassObj nm q C N bs bm hdct sn sub ab col dd k0 k1 k2 k3 k5 newId))
  (hi:Looks (model prog w) h (typeLookup (.ref C) "__init__") (some init)) (hb:∀self,Looks (model prog w) h (bindSpecial init self) (init,[self]))
  (hq:codeAny (model prog w) (A.under (.builtin "type.__call__" ⟨.ref C::rest,[]⟩)) (.call init ⟨.ref (h.objs.size+1)::rest,[]⟩) (InitBack (h.objs.size+1) R) ⟨(h.push (lY rest)).push (nF C h.objs.size),g,d,t,os⟩) (hrest:rest.length<=sizeLine):
  codeAny (model prog w) A (.call (.ref C) ⟨rest,[]⟩) R ⟨h,g,d,t,os⟩:=by
 have f1:=tc_lookup;have f2:=tc_bind (.ref C);have hT:(⟨h,g,d,t,os⟩:Shared).TypeIs (.ref C) "type":=⟨_,hC,rfl⟩;refine codeAny_of_tree ?_;show wpAny _ _ (callAny (.ref C) _) _ _ _
 repeat (any_goals (first |assumption |with_reducible refine wpAny_loadPart_at hC ?_ |wp_step))
 refine ⟨rfl,?_⟩;refine codeAny_call_builtin_at (Code.quiet_builtin _ (by decide+kernel)) PySem.entry_typeCall (wpAny_check_type_call_sub hC ?_)
 repeat (first |with_reducible refine wpAny_loadPart_at hC ?_ |with_reducible refine wpAny_madeBy_exc hC ?_ |wp_step)
 refine new_exc F hB hA hN hC ?_ hrest;show wpAny _ _ _ _ _ _;have k:∀b o,h.get? b=some o->((h.push (lY rest)).push (nF C h.objs.size)).get? b=some o:=λb o e=>gN _ (gN _ e);have hC₁:=k _ _ hC;have hget:((h.push (lY rest)).push (nF C h.objs.size)).get? (h.objs.size+1)=some (nF C h.objs.size):=by heap_get
 have hcC:(Value.ref C::bm).contains (.ref C)=true:=by simp
 have i1:=hi.keeps k;have b1:=(hb (.ref (h.objs.size+1))).keeps k;have t1:Looks (model prog w) ((h.push (lY rest)).push (nF C h.objs.size)) (typeOf (.ref (h.objs.size+1))) (.ref C):=(Looks.ld hget).andThen .now;unfold isInstance
 repeat (first |with_reducible refine wpAny_loadPart_at hget ?_ | (with_reducible refine wpAny_isSubtype_exc hC₁ ?_;exact ae hcC rfl) |wp_step)
 show wpAny _ _ (isSubtype (.ref C) (.ref C)) _ _ _;refine wpAny_isSubtype_exc hC₁ ?_;refine ae hcC ?_;refine ae (if_neg (by decide)) ?_;refine az (fj ?_);show wpAny _ _ (callSpecial? (.ref (h.objs.size+1)) "__init__" rest []) _ _ _;unfold callSpecial? specialOf
 repeat (first |with_reducible refine wpAny_call ?_ | (with_reducible refine t1.here ?_) | (with_reducible refine i1.here ?_) | (with_reducible refine b1.here ?_) |wp_step)
 refine codeAny_mono hq λr s' z=>?_;rcases r with e | (v |_ |_ |_)<;>first |exact z |exact z.elim |skip
 obtain ⟨rfl,z⟩:=z;exact aT (aT z)
end
noncomputable def acF(bm:List Value):Bool:=bm.contains (.type "Exception")&& !(bm.contains (.type "AttributeError"))&& !(bm.contains (.type "NameError"))
noncomputable def I9(d:Data):Option ClassData:=match d with
 | .cls c=>some c
 |_=>none
theorem T7{d:Data}{c:ClassData}(h:I9 d=some c):d= .cls c:=by cases d<;>first |exact aD h |exact congrArg _ (af h)
noncomputable def VL(l:List (Option Value)):Bool:=l== [l.getD 0 none,l.getD 1 none,l.getD 2 none,l.getD 3 none,some (.builtin "Exception.__new__"),l.getD 5 none]
noncomputable def Ge(C:Nat)(o:Obj):Bool:=aj (I9 o.data) λc=>o.cls== .type "type"&&(c.mro== .ref C::c.mro.drop 1&&(!c.hasDel&&(acF (c.mro.drop 1)&&VL o.slots.toList)))
inductive Am(C:Nat)(o:Obj):Prop
 |mk (nm q:Str) (N:Addr) (bs bm:List Value) (hdct:Bool) (sn:List Str) (sub:List Value) (ab:Bool) (col:Option Bool) (dd:Option Addr) (k0 k1 k2 k3 k5:Option Value) (h:o=excClassObj nm q C N bs bm hdct sn sub ab col dd k0 k1 k2 k3 k5 "Exception.__new__") (h1:bm.contains (.type "Exception")=true) (h2:bm.contains (.type "AttributeError")=false) (h3:bm.contains (.type "NameError")=false):Am C o
theorem X5{x T:Value}{dd:Option Addr}{a1:Str}{a2 a3 m:List Value}{a4:Addr}{a5:Str}{a6:Bool}{a7:List Str}{a8:List Value}{a9:Bool}{a10:Option Bool}{a11:Bool}{s:Array (Option Value)}{l:List (Option Value)}(e1:x=T)(e2:a3=m)(e3:a11=false)(e4:s.toList=l):Obj.mk x dd (.cls ⟨a1,a2,a3,a4,a5,a6,a7,a8,a9,a10,a11⟩) s=Obj.mk T dd (.cls ⟨a1,a2,m,a4,a5,a6,a7,a8,a9,a10,false⟩) ⟨l⟩:=by subst e1 e2 e3 e4;rfl
theorem Dn{C:Nat}{o:Obj}(h:Ge C o=true):Am C o:=by obtain ⟨x,dd,d,s⟩:=o;refine aF h λc h1 h=>?_;obtain rfl:d= .cls c:=T7 h1;refine aB h λh2 h=>?_;refine aB h λh3 h=>?_;refine aB h λh4 h=>?_;refine aB h λh5 h6=>?_;refine aB h5 λh5 h7=>?_;refine aB h5 λh5 h8=>?_;obtain ⟨a1,a2,a3,a4,a5,a6,a7,a8,a9,a10,a11⟩:=c;exact .mk a1 a5 a4 a2 (a3.drop 1) a6 a7 a8 a9 a10 dd _ _ _ _ _ (X5 (beq_iff_eq.mp h2) (beq_iff_eq.mp h3) (fJ h4) (beq_iff_eq.mp h6)) h5 (fJ h8) (fJ h7)
noncomputable def wz(P:Params)(C:Nat):Bool:=match gp C jo with
 |some a=>((K P).lookup C).any (Ge C)&&(findIn (K P) (.ref C) "__init__"==some (some (.ref a)))&&(typeIn (K P) (.ref a)==some (.type "function"))&&(b6.get a).isSome
 |none=>false
theorem Dr(P:Params):([70,51].all λC=>wz P C)=true:=by kernel_rfl
section
variable{P:Pr}{J:G}{st:St}{s:Shared}{A:Around}{E:Value->Shared->Prop}
theorem XI{C:Nat}(h:isExc C=true):lG C=false:=by
 unfold isExc at h;rcases dw.mp h with h |h
 ·refine ae (aH h) ?_;rfl
 ·refine ae (aH h) ?_;rfl
theorem yx{C:Nat}(h:isExc C=true):eu C=C:=by unfold eu;refine ae h ?_;rfl
theorem ay.len{J:G}{as:List AV}{vs:List Value}(h:ay J as vs):vs.length=len as:=h.length.trans (len_eq as).symm
inductive Lq(P:Params)(C:Nat):Prop
 |mk (a:Nat) (fx:FX) (oc:Obj) (h1:gp C jo=some a) (h2:(K P).lookup C=some oc) (h3:Am C oc) (h4:findIn (K P) (.ref C) "__init__"=some (some (.ref a))) (h5:typeIn (K P) (.ref a)=some (.type "function")) (h6:b6.get a=some fx):Lq P C
theorem XV(P:Params){C:Nat}(hC:isExc C=true):Lq P C:=by
 have q:=be.mp (Dr P) C (wZ hC);unfold wz at q;cases hm:gp C jo with
 |none=>rw [hm] at q;exact aE q
 |some a=>rw [hm] at q;refine aB q λq q4=>?_;refine aB q λq q3=>?_;refine aB q λq1 q2=>?_;refine aQ (n6.mp q4) λfx hfx=>?_;refine am (any_some q1) λoc hoc q5=>?_;exact ⟨a,fx,oc,hm,hoc,Dn q5,beq_iff_eq.mp q2,beq_iff_eq.mp q3,hfx⟩
theorem T9{vec:Bool}{sf:Self}{c:Cx}{C a:Nat}{args:List AV}{k:Kont}(hC:isExc C=true)(hm:gp C jo=some a)(hr:lD vec sf c C args st k=true):aM 1000 (len args)=false/\∃st2,ca st (.exc C 0)=some st2/\sf (.call ⟨c.d+1,c.u+4,c.ups,c.hd⟩ (.glob a) (.ref st.n::args)) st2 (kv k (j0 vec C st.n k))=true:=by
 have hr:bf (cn C||isExc C) (aj (gp C jo) λa=>bf (isExc C)
   (bf (aM 1000 (len args)) false (aj (ca st (.exc C 0)) λst2=>sf (.call ⟨c.d+1,c.u+4,c.ups,c.hd⟩ (.glob a) (.ref st.n::args)) st2 (kv k (j0 vec C st.n k))))
   (aj (ca st (.dict 500000 true [])) λst1=>aj (ca st1 (.inst C st.n)) λst2=>sf (.call ⟨c.d+1,c.u+4,c.ups,c.hd⟩ (.glob a) (.ref st1.n::args)) st2 (kv k (j0 vec C st1.n k)))) false=true:=hr
 refine aF (kN (dw.mpr (.inr hC)) hr) λb e hr=>?_;obtain rfl:=af (hm.symm.trans e);have hr:=kN hC hr;cases hl:aM 1000 (len args) with
 |true=>exact aE (kN hl hr)
 |false=>exact ⟨rfl,bI (ma hl hr)⟩
theorem call_exc{vec:Bool}{sf:Self}{c:Cx}{C:Nat}{args:List AV}{k:Kont}(H:ep P sf)(hC:isExc C=true)(hr:lD vec sf c C args st k=true):lB P c (.glob C) args st k:=λJ s A Q E fv ta R F hf hvs post=>by
 obtain rfl:fv= .ref C:=hf.out;obtain ⟨a,fx,oc,hm,hoc,X,q2,q3,hfx⟩:=XV P.W.w.params hC;refine kj (T9 hC hm hr) λhlen st2 h3 h4=>?_;obtain ⟨nm,qn,N,bs,bm,hdct,sn,sub,ab,col,dd,k0,k1,k2,k3,k5,rfl,z1,z2,z3⟩:=X;refine au (fD h3) λn2 aq=>?_;subst aq;obtain ⟨hh,g,d,t,os⟩:=s;have hl:ta.length< 1000:=by refine ae hvs.len ?_;exact wp λq=>cH ((Cf q).symm.trans hlen)
 refine wpAny_call (Sr PySem.F.excBase_Exception z1 z2 z3 (R.k _ _ hoc) (looks_findIn R.k q2) (λself=>bind_fn R.k self q3) ?_ (aI (ot hl) (by decide)));have R1:=R.grown (h':=hh.push (lY ta)) ((Gr.refl _ _).push _);have l1:=J.d8 (hh.push (lY ta)).objs.size;obtain ⟨R2,a2⟩:=R1.new (o:=nF C hh.objs.size) (ao:=.exc C 0) rfl ⟨_,(yx hC).symm▸hC,(yx hC).symm▸rfl,rfl,λ_=>rfl,λz=>cH (z.symm.trans (XI hC)),.inl ⟨rfl,rfl⟩⟩ n2;have hsz:(hh.push (lY ta)).objs.size=hh.objs.size+1:=gQ ..;have nL:=a2;rw [hsz] at nL;refine H.code h4 hfx _ _ _ _ _ R2 ((F.mono l1).tc _ _ _) (.cons (.ref (hsz.symm▸nL)) (hvs.mono l1)) λr st' J' s' q xo l3 R3=>?_;obtain ⟨v,rfl,q⟩ | ⟨v,rfl,q⟩:=zL q
 ·intro w hw
  have:=E9 (x:=.ref (hh.objs.size+1)) q R3 (l1.trans l3) post hw (.ref (aN l3.aA (hsz.symm▸nL)));exact ⟨this.1,this.2⟩
 ·exact λw hw=>post _ _ _ _ q xo (l1.trans l3) R3 w hw
end
end
noncomputable def D0(P:Params)(C:Nat):Bool:=plainGet (K P) C "__class__"&&hasDictIn (K P) C&&(findIn (K P) (.ref C) "__class__"==some (some (.builtin "object.__class__")))&&(mroIn (K P) C (.type "object")==some true)&&(clsIn (K P) C).isSome
theorem UT(P:Params):(fN.all λC=>D0 P C)=true:=by kernel_rfl
theorem UU(P:Params):(fN.all λC=>fN.all λD=>kitOne (K P) (.ref C) (.ref D)==some (ag C D))=true:=by kernel_rfl
theorem Sb(P:Params):(fN.all λD=>kitOne (K P) (.type "NoneType") (.ref D)==some false)=true:=by kernel_rfl
theorem RZ(P:Params):specialIn (K P) (.builtin "object.__class__") "__get__"=some (some (.builtin "getset_descriptor.__get__")):=by kernel_rfl
theorem Sa(P:Params):takesIn (K P) (.builtin "object.__class__")=some true:=by kernel_rfl
theorem str_int(P:Params):kitOne (K P) (.type "int") (.type "str")=some false:=by kernel_rfl
theorem str_bool(P:Params):kitOne (K P) (.type "bool") (.type "str")=some false:=by kernel_rfl
theorem str_none(P:Params):kitOne (K P) (.type "NoneType") (.type "str")=some false:=by kernel_rfl
theorem str_str(P:Params):kitOne (K P) (.type "str") (.type "str")=some true:=by kernel_rfl
set_option tactic.hygienic true in
theorem kitx_own{P:Params}{x C:Addr}(hC:C∈fN):KitX (K P) (.ref x) (.ref C) (λh=>∃ox od,InstAt h x ox C (some od)):=by
 have q:=be.mp (UT P) C hC;unfold D0 at q;simp only [i0,beq_iff_eq] at q;obtain ⟨⟨⟨⟨q1,q2⟩,q3⟩,q4⟩,q5⟩:=q;refine aQ (n6.mp q5) λcd hcd=>?_;refine ⟨λM h _ ⟨ox,od,I⟩=>I.type,λM h X _=>?_,λh tp dd its n sl X e=>?_,λ {prog w A E Q s} X ⟨ox,od,I⟩ k=>kin_class q1 q2 q3 (RZ P) (Sa P) q4 X I k⟩
 ·unfold clsIn at hcd
  split at hcd
  ·rename_i ho
   exact (Looks.ld (part:=some headPart) (X _ _ ho)).andThen .now
  ·cases hcd
 ·by_cases z:C=tp
  ·exfalso
   subst z;unfold clsIn at hcd
   split at hcd
   ·rename_i ho
    have:=X _ _ ho;rw [e] at this;cases this
   ·cases hcd
  ·exact beq_false_of_ne λq=>z (by cases q;rfl)
section
variable{P:Pr}{J:G}{st:St}{s:Shared}{A:Around}{E:Value->Shared->Prop}
theorem aaP{Y:Type}{l:List Y}{p:Y×Y}(h:two l=some p):l= [p.1,p.2]:=by
 cases l with
 |nil=>exact aD h
 |cons a l=>
  cases l with
  |nil=>exact aD h
  |cons b l=>
   cases l with
   |nil=>exact af h▸rfl
   |cons c l=>exact aD h
theorem wV{v:AV}{a:Nat}(h:pi v=some a):v= .glob a:=by cases v<;>first |exact aD h |exact congrArg _ (af h)
theorem Es{v:AV}{a:Nat}(h:Ak v=some a):v= .typ a:=by cases v<;>first |exact aD h |exact congrArg _ (af h)
theorem wI{v:AV}{q:Nat×List Nm×List AV}(h:j8 v=some q):v= .inst q.1 q.2.1 q.2.2:=by cases v<;>first |exact aD h |exact af h▸rfl
theorem E2{Q:Value->Shared->Prop}{C D:Nat}{x:Addr}{ox od:Obj}{b:Bool}(R:Rel P J st s)(h:bf (cn C&&cn D) (some (ag C D)) none=some b)(I:InstAt s.heap x ox C (some od))(hQ:∀t,Q (.bool b) {s with toks:=t}):wpAny (Md P) A (c9 (.builtin "isinstance") [.ref x,.ref D]) Q E s:=by refine bb h λh5 h6=>?_;refine aB h5 λh5 h7=>?_;have q:=beq_iff_eq.mp (be.mp (be.mp (UU P.W.w.params) C (jf h5)) D (jf h7));exact kia_one (kitx_own (jf h5)) R.k ⟨ox,od,I⟩ (q.trans h6) (λz=>cQ Value.ctorIdx z rfl) hQ
theorem Qn{Q:Value->Shared->Prop}{a:AV}{D:Nat}{u:Value}{b:Bool}(h:isOwn a D st=some b)(R:Rel P J st s)(hu:VR J a u)(hQ:∀t,Q (.bool b) {s with toks:=t}):wpAny (Md P) A (c9 (.builtin "isinstance") [u,.ref D]) Q E s:=by
 obtain ⟨c,h⟩ |h:=dj h
 ·rw [ip c] at hu
  obtain rfl:u= .none:=hu.out;refine bb h λh1 h2=>?_;have aa:=af h2;clear h;subst aa;exact kia_one kitx_none R.k trivial (beq_iff_eq.mp (be.mp (Sb P.W.w.params) D (jf h1))) (λz=>cQ Value.ctorIdx z rfl) hQ
 ·obtain ⟨i,c,h⟩ |h:=cR h
  ·rw [fq c] at hu
   refine ah h λp h1 h2=>?_;refine ah h1 λq h3 h4=>?_;refine ah h4 λes h8 h9=>?_;have aa:=af h9;clear h1 h4 h9;subst aa;refine ah h3 λao h9 h10=>?_;obtain ⟨x,b',ox,od,en,nn,rfl,q1,q2,q3,q4, -,q5, -⟩:=ut R (wQ h10▸h9) h8 hu;exact E2 R h2 (jn q1 q2 q3 q4 q5) hQ
  ·refine ah h λq c h=>?_
   rw [wI c] at hu;obtain ⟨x,b',ox,od,en,nn,rfl,q1,q2,q3,q4,q5, -⟩:=tW R hu;exact E2 R h (jn q1 q2 q3 q4 q5) hQ
theorem Qo{Q:Value->Shared->Prop}{a:AV}{u:Value}{b:Bool}(h:Gg a=some b)(R:Rel P J st s)(hu:VR J a u)(hQ:∀t,Q (.bool b) {s with toks:=t}):wpAny (Md P) A (c9 (.builtin "isinstance") [u,.type "str"]) Q E s:=by
 obtain ⟨w,c,h⟩ |h:=cR h
 ·rw [ft c] at hu
  refine ba hu.str_inv λx t ai _=>?_;have aa:=ai;clear hu ai;subst aa;exact kia_one kitx_str R.k trivial ((str_str _).trans h) (λz=>cQ Value.ctorIdx z rfl) hQ
 ·obtain ⟨c,h⟩ |h:=dj h
  ·rw [ip c] at hu
   obtain rfl:u= .none:=hu.out;exact kia_one kitx_none R.k trivial ((str_none _).trans h) (λz=>cQ Value.ctorIdx z rfl) hQ
  ·obtain ⟨w,c,h⟩ |h:=cR h
   ·rw [dl c] at hu
    refine ba hu.int_inv λx t ai _=>?_;have aa:=ai;clear hu ai;subst aa;exact kia_one kitx_int R.k trivial ((str_int _).trans h) (λz=>cQ Value.ctorIdx z rfl) hQ
   ·refine ah h λw c h=>?_
    rw [oA c] at hu;obtain rfl:u= .bool w:=hu.out;exact kia_one kitx_bool R.k trivial ((str_bool _).trans h) (λz=>cQ Value.ctorIdx z rfl) hQ
theorem RX{Q:Value->Shared->Prop}{a c:AV}{u v:Value}{b:Bool}(h:DZ st a c=some b)(R:Rel P J st s)(hu:VR J a u)(hv:VR J c v)(hQ:∀t,Q (.bool b) {s with toks:=t}):wpAny (Md P) A (c9 (.builtin "isinstance") [u,v]) Q E s:=by
 obtain ⟨D,e,h⟩ |h:=cR h
 ·rw [wV e] at hv
  obtain rfl:v= .ref D:=hv.out;exact Qn h R hu hQ
 ·refine ah h λn e h=>?_
  refine bb h λh1 h2=>?_;rw [Es e,aH h1] at hv;obtain rfl:v= .type "str":=hv.out;exact Qo h2 R hu hQ
theorem Rh{Q:Value->Shared->Prop}{as:List AV}{us:List Value}{l:List (AV×St)}(h:zi as st=some l)(R:Rel P J st s)(hus:ay J as us)(out:Out P J l Q):wpAny (Md P) A (c9 (.builtin "len") us) Q E s:=by
 refine ah h λa h1 h=>?_;refine ah h λm h2 h=>?_;refine bb h λh3 h=>?_;have aa:=af h;clear h;subst aa;rw [ke h1] at hus;refine am hus.l1 λu aq hu=>?_;subst aq;have h3:=bt h3;have fin:∀{k t t':Nat},k=m->Q (.int (k:Int) t) {s with toks:=t'}:=λe=>by subst e;exact out _ (.head _) J _ _ (.refl _) (R.toks _) (.int _ rfl)
 have hl:=sizeLine_eq;obtain ⟨w,e,h2⟩ |h2:=cR h2
 ·refine ah h2 λz h4 h5=>?_
  rw [ft e,ij h4] at hu;refine ba hu.str_inv λx t ai hx=>?_;have aa:=ai;clear hu ai;subst aa;have e1:x.length=m:=by rw [<-af h5,len_eq,af hx];exact dJ.symm
  exact PyProof.Rows.len_str (qp.mpr (sQ (aI (ck e1) (k9 h3)))) (fin e1)
 ·refine ah h2 λxs h4 h5=>?_
  have e1:m=xs.length:=(af h5).symm.trans (len_eq xs);cases lz R h4 hu with
  | @li c vs n hvs _ hl=>exact call_len_list (dP hl) (bH dJ (ae hvs.length (sQ (e1▸k9 h3)))) (fin (by refine ae e1 (bH hvs.length ?_);exact dJ.symm))
  | @tp c vs hvs _ hl=>exact PyProof.Rows.len_tuple hl (bH dJ (ae hvs.length (sQ (e1▸k9 h3)))) (fin (by refine ae e1 (bH hvs.length ?_);exact dJ.symm))
theorem Ri{Q:Value->Shared->Prop}{as:List AV}{us:List Value}{l:List (AV×St)}(h:zj as st=some l)(R:Rel P J st s)(hus:ay J as us)(out:Out P J l Q):wpAny (Md P) A (c9 (.builtin "ord") us) Q E s:=by refine ah h λa h1 h=>?_;refine ah h λz h2 h=>?_;refine ah h λc h3 h=>?_;have aa:=af h;clear h;subst aa;rw [ke h1] at hus;refine am hus.l1 λu aq hu=>?_;have aa:=aq;clear hus aq;subst aa;obtain ⟨⟨x⟩,t,rfl, -,hx⟩:=qD h2 hu;obtain rfl:x= #[c]:=wn.mp (hx.trans (ke h3));exact PySem.P.ord_of_char (out _ (.head _) J _ _ (.refl _) (R.toks _) (.int _ rfl))
theorem TQ{Q:Value->Shared->Prop}{n:Nat}{as:List AV}{us:List Value}{l:List (AV×St)}(h:u9 n as st=some l)(R:Rel P J st s)(hus:ay J as us)(out:Out P J l Q):wpAny (Md P) A (c9 (.builtin (rk n)) us) Q E s:=by
 have h:bf (ag n 0) (zi as st) (bf (ag n 1) (zj as st) (bf (ag n 2) (Ho as st) none))=some l:=by
  refine Eq.trans ?_ h;unfold u9
  generalize ag n 0=a
  generalize ag n 1=b
  generalize ag n 2=c
  cases a<;>cases b<;>cases c<;>rfl
 obtain ⟨c,h⟩ |h:=dj h
 ·refine ae (aH c) ?_;exact Rh h R hus out
 ·obtain ⟨c,h⟩ |h:=dj h
  ·refine ae (aH c) ?_;exact Ri h R hus out
  ·refine bb h λc h=>?_
   refine ae (aH c) ?_;refine ah h λp h1 h=>?_;refine ah h λb h2 h=>?_;have aa:=af h;clear h;subst aa;rw [aaP h1] at hus;refine bp hus.l2 λu v ai hu hv=>?_;have aa:=ai;clear hus ai;subst aa;exact RX h2 R hu hv λt=>out _ (.head _) J _ _ (.refl _) (R.toks _) (.bool b)
theorem Rel.abS(R:Rel P J st s){o:Obj}{ao:AO}{h':Heap}(hf:o.isFreed=false)(r:OR (J.push s.heap.objs.size) o ao)(hn:st.n<=2000)(hk:∀b o',s.heap.get? b=some o'->h'.get? b=some o')(ho:h'.get? s.heap.objs.size=some o):Rel P (J.push s.heap.objs.size) (st.push ao) {s with heap:=h'}/\(J.push s.heap.objs.size).aA[st.n]?=some s.heap.objs.size:=by
 refine au (R.new hf r hn) λR1 h1=>?_;refine ⟨R1.grown (h':=h') ⟨?_,λb o' e _=>?_⟩,h1⟩
 ·show (s.heap.push o).objs.size<=_
  rw [gQ];exact cU ho
 ·have e:(s.heap.push o).get? b=some o':=e
  by_cases q:b=s.heap.objs.size
  ·clear e
   subst q;rw [k7 _ hf] at e;cases e;exact ho
  ·have hb:b< s.heap.objs.size:=by
    have:=cU e;rw [gQ] at this;exact Cj (aen this) q
   rw [CA _ hb] at e;exact hk b o' e
theorem P6{Q:Value->Shared->Prop}{as:List AV}{us:List Value}{l:List (AV×St)}(h:yk as st=some l)(R:Rel P J st s)(hus:ay J as us)(out:Out P J l Q):wpAny (Md P) A (c9 (.type "list") us) Q E s:=by
 refine ah h λa h1 h=>?_;refine ah h λxs h2 h=>?_;refine ah h λst' h3 h=>?_;have aa:=af h;clear h;subst aa;refine bb h3 λh4 h3=>?_;refine au (fD h3) λq aq=>?_;have aa:=aq;clear h3 h aq;subst aa;have h4:=eK h4;rw [ke h1] at hus;refine am hus.l1 λu aq hu=>?_;have aa:=aq;clear hus aq;subst aa;have hle:=J.d8 s.heap.objs.size
 have fin:∀{vs:Array Value},ay J xs vs.toList->(∀h' c',(∀b o',s.heap.get? b=some o'->h'.get? b=some o')->h'.get? s.heap.objs.size=some {cls:=.type "list",dict:=none,data:=.seq vs c',slots:= #[]}->Q (.ref s.heap.objs.size) {s with heap:=h'})/\vs.size<=sizeLine:=λ {vs} hvs=>⟨λh' c' hk ho=>by
  refine au (R.abS (ao:=.list none xs) rfl ⟨vs,c',rfl,hvs.mono hle⟩ q hk ho) λR2 h5=>?_
  exact out _ (.head _) _ _ _ hle R2 (.ref h5),bH dJ (ae hvs.length (v5 h4))⟩
 cases lz R h2 hu with
 | @li c vs n hvs _ hl=>exact call_list_seq c (.inl rfl) hl rfl rfl (fin hvs).1 (fin hvs).2
 | @tp c vs hvs _ hl=>refine yp hl λo hl hc n hd=>?_;exact call_list_seq c (.inr rfl) hl hc hd (fin hvs).1 (fin hvs).2
theorem Pp{Q:Value->Shared->Prop}{as:List AV}{us:List Value}{l:List (AV×St)}(h:xl as st=some l)(R:Rel P J st s)(hus:ay J as us)(out:Out P J l Q):wpAny (Md P) A (c9 (.type "range") us) Q E s:=by refine ah h λa h1 h=>?_;refine ah h λe h2 h=>?_;refine ah h λl' h3 hZ=>?_;rw [ke h1,dl h2] at hus;refine am hus.l1 λu aq hu=>?_;subst aq;refine ba hu.int_inv λi t ai hi=>?_;have aa:=ai;clear hu ai;subst aa;refine bP (Et R h3 hi) λst' q1 R' q3=>?_;refine am (tT hZ _ q1) λb' q4 q5=>?_;refine ah q4 λst2 q6 q7=>?_;obtain rfl:=af q7;refine au (fD q6) λq8 aq=>?_;have aa:=aq;clear q6 aq;subst aa;refine au (R'.new (o:={cls:=.type "range",data:=.fields #[.int 0 s.toks,.int i t,.int 1 (s.toks+1)]}) (ao:=.du (.int (.lit i)) 0) rfl ⟨_,_,_,rfl⟩ q8) λR2 h5=>?_;exact call_range_1 (out _ q5 _ _ _ (J.d8 _) (R2.toks _) (.ref h5))
theorem Wm{Q:Value->Shared->Prop}{n:Nat}{as:List AV}{us:List Value}{l:List (AV×St)}(h:vC n as st=some l)(R:Rel P J st s)(hus:ay J as us)(out:Out P J l Q):wpAny (Md P) A (c9 (.type (ya n)) us) Q E s:=by
 have h:bf (ag n 0) (yk as st) (bf (ag n 1) (xl as st) none)=some l:=by
  refine Eq.trans ?_ h;unfold vC
  generalize ag n 0=a
  generalize ag n 1=b
  cases a<;>cases b<;>rfl
 obtain ⟨c,h⟩ |h:=dj h
 ·refine ae (aH c) ?_;exact P6 h R hus out
 ·refine bb h λc h=>?_
  refine ae (aH c) ?_;exact Pp h R hus out
end
section
open PySem.Builtin
section
variable{P:Pr}{J:G}{st:St}{s:Shared}{A:Around}{E:Value->Shared->Prop}
theorem T1{vec:Bool}{sf:Self}{c:Cx}{f:AV}{args:List AV}{k:Kont}(H:ep P sf)(hr:z0 c f args vec sf st k=true):lB P c f args st k/\∀a x,f= .glob a->b6.get a=some x->bZ P c a args st k:=by
 have hr:bf (aM c.d 100&&aM c.u 500) (EO vec sf c f args st k) false=true:=hr;cases hd:(aM c.d 100&&aM c.u 500) with
 |false=>rw [hd] at hr;cases hr
 |true=>
  rw [hd] at hr;have hr:LK f vec sf c args st k=true:=hr;refine au (b7.mp hd) λd1 d2=>?_;have d1:=bt d1;cases f with
  |glob a=>
   have hr:bf (ag a 0||aM 2048 a) false (oe (lD vec sf c a args st k) (λx=>oJ sf c a (.glob a) [] x args st k) (b6.get a))=true:=hr;cases ha:(ag a 0||aM 2048 a) with
   |true=>rw [ha] at hr;cases hr
   |false=>
    rw [ha] at hr;refine au (jL.mp ha) λa1 a2=>?_;have a1:a≠0:=λq=>by rw [q] at a1;cases a1
    have a2:a< 2048:=wp λq=>by rw [Cf q] at a2;cases a2
    have hr:oe (lD vec sf c a args st k) (λx=>oJ sf c a (.glob a) [] x args st k) (b6.get a)=true:=hr;cases hx:b6.get a with
    |some x=>rw [hx] at hr;have g:=DG H hx a2 a1 d1 hr;refine ⟨g.call,λa' x' e h'=>?_⟩;cases e;exact g
    |none=>
     rw [hx] at hr;have hr:lD vec sf c a args st k=true:=hr;refine ⟨?_,λa' x' e h'=>?_⟩
     ·cases c1:cn a with
      |true=>exact call_cls H c1 hr
      |false=>
       cases c2:isExc a with
       |true=>exact call_exc H c2 hr
       |false=>unfold lD at hr;rw [c1,c2] at hr;cases hr
     ·cases e
      rw [hx] at h';cases h'
  |typ n=>refine ⟨λJ s A Q E fv vs R F hf hvs post=>?_,λa' x' e h'=>(by cases e)⟩;refine am (mO (show outs k (vC n args st)=true from hr)) λl h1 h2=>?_;cases hf;exact Wm h1 R hvs (mI h2 post (.refl _))
  |bi n=>refine ⟨λJ s A Q E fv vs R F hf hvs post=>?_,λa' x' e h'=>(by cases e)⟩;refine am (mO (show outs k (u9 n args st)=true from hr)) λl h1 h2=>?_;cases hf;exact TQ h1 R hvs (mI h2 post (.refl _))
  |told w=>exact ⟨P9 H d1 hr,λa' x' e h'=>(by cases e)⟩
  |_=>cases hr
end
end
section
open PySem.Builtin
section
variable{P:Pr}{self:Self}{fr:Fr}{J:G}{st:St}{s:Shared}{k:Kont}{A:Around}{E:Value->Shared->Prop}{env:Env}
theorem xq:∀{n:Nat} {t:TM AO},TM.WF n t->TM.WF n (rn t)
 |_,_,.nil n=>.nil n
 |_,_,.leaf v=>.leaf _
 |_,_,.node hl hr=>.node (xq hl) (xq hr)
theorem wS{ao:AO}:∀(t:TM AO) (i:Nat),(rn t).get i=some ao->t.get i=some ao
 | .nil,i,h=>by cases h
 | .leaf v,i,h=>by
  cases v with
  |none=>cases h
  |some o=>cases o<;>first |exact h |cases h
 | .node l r,i,h=>by
  have h:bf (ag (oH i 2) 1) ((rn l).get (jg i 2)) ((rn r).get (jg i 2))=some ao:=h;show bf (ag (oH i 2) 1) (l.get (jg i 2)) (r.get (jg i 2))=some ao;cases c:ag (oH i 2) 1 with
  |true=>rw [c] at h;exact wS l _ h
  |false=>rw [c] at h;exact wS r _ h
theorem Gm{C:Nat}(h:isExc C=true):eu (C+128)=C:=by
 unfold isExc at h;rcases dw.mp h with h |h
 ·refine ae (aH h) ?_;rfl
 ·refine ae (aH h) ?_;rfl
theorem Fa{C:Nat}(h:isExc C=true):isExc (C+128)=false:=by
 unfold isExc at h;rcases dw.mp h with h |h
 ·refine ae (aH h) ?_;rfl
 ·refine ae (aH h) ?_;rfl
theorem Ss{C:Nat}(h:isExc C=true):lG (C+128)=false:=by
 unfold isExc at h;rcases dw.mp h with h |h
 ·refine ae (aH h) ?_;rfl
 ·refine ae (aH h) ?_;rfl
theorem Rel.abr(R:Rel P J st s){i:Nat}{a:Addr}{o:Obj}{vs:Array Value}{C:Addr}(hi:J.aA[i]?=some a)(hz:J.fz a=none)(ho:s.heap.get? a=some o)(hc:o.cls= .ref C)(hd:o.data= .fields vs)(h1:vs[1]?=some .none)
  (hm:∀C d,st.get i=some (.exc C d)->isExc C=false):Rel P J (st.raised i) s:=by
 have hg:∀j ao,(st.raised i).get j=some ao->st.get j=some ao:=λj ao e=>wS st.objs j e;exact {R with wf:=xq R.wf,objs:=λj ao hj e=>R.objs j ao hj (hg j ao e),apart:=λj ao a hj e=>R.apart j ao a hj (hg j ao e),nf:=λa ha=>⟨(R.nf a ha).1,(R.nf a ha).2.1,(R.nf a ha).2.2.1,λj ao hj e=>(R.nf a ha).2.2.2 j ao hj (hg j ao e)⟩,fly:=λj C d e hj h=>hm C d (af e▸hg _ _ h),frame:=λb o h1 h2 h3 h4=>⟨λq=>(R.frame b o h1 h2 h3 h4).1 (q.elim (λq=>aD q.symm) .inr),(R.frame b o h1 h2 h3 h4).2⟩,exc:=λj e=>⟨a,af e▸hi,.mk o vs hz ho ⟨C,hc⟩ hd (.inl h1)⟩}
end
section
variable{P:Pr}{self:Self}{fr:Fr}{J:G}{st:St}{s:Shared}{k:Kont}{A:Around}{E:Value->Shared->Prop}{env:Env}
variable(H:ep P self)
include H
theorem Pi{n m:Nat}{es:List ax}{c:Nat}{p pos:Pos}{e:ax}(Y0Y:Parts)(ha:allNames es=true)(hc:gX e=false)(ht:o4 e=false)(hr:lL (.tup (aK (aw n (ak fr.e)) es)) (aw m (ak fr.e) e) self fr st k=true):GS P fr (.Assign [.Tuple es c p] e pos) st k:=λs0 J s A Q E env R F post=>by
 refine Assign_Tuple (bV (λ_=>H.ex) (show self (.ex fr (aw m (ak fr.e) e)) st (kv k λw st1=>bf fr.c.hd false (bf (cy w) false (aj (seqItems st1 w) λvs=>aj (jW fr (aK (aw n (ak fr.e)) es) vs st1) λst1=>k .next st1)))=true from hr) R F rfl (dL post) λw st1 J1 s1 hr l1 R1 F1 u hu=>?_) (by cases e<;>first |rfl |cases hc) (by cases e<;>first |rfl |cases ht);cases hd:fr.c.hd with
 |true=>rw [hd] at hr;cases hr
 |false=>
  rw [hd] at hr;have hr:bf (cy w) false (aj (seqItems st1 w) λvs=>aj (jW fr (aK (aw n (ak fr.e)) es) vs st1) λst1=>k .next st1)=true:=hr;cases hw:cy w with
  |true=>rw [hw] at hr;cases hr
  |false=>rw [hw] at hr;refine aF (show aj (seqItems st1 w) (λvs=>aj (jW fr (aK (aw n (ak fr.e)) es) vs st1) λst1=>k .next st1)=true from hr) λvs h1 h2=>?_;refine aF h2 λst' h3 h4=>?_;exact Y0Y.tup hd hw h1 h3 ha R1 F1 hu λJ' s' l R'=>post _ _ _ _ h4 trivial (l1.trans l) R'
theorem QR{e:ax}{pos:Pos}(hr:xN (ex (ak fr.e) e) self fr st k=true):GS P fr (.Raise (some e) none pos) st k:=λs0 J s A Q E env R F post=>by
 have hr:bf fr.c.hd false (self (.ex fr (aw 30 (ak fr.e) e)) st (kv k λv st1=>aj (refOf v) λi=>aj (ob (st1.get i) fA) λp=>bf (isExc p.1&&gG st1 i) (k (.exc v) ((st1.set i (.exc (p.1+128) p.2)).raised i)) false))=true:=hr;cases hd:fr.c.hd with
 |true=>rw [hd] at hr;cases hr
 |false=>
  rw [hd] at hr;rw [arm_exec_Raise];refine az (ga ?_);show wpAny _ _ (raiseStmt env (some (eval e env>>= λv=>standAt pos>>= λ_=>pure v)) none) _ _ _;unfold raiseStmt;refine az (az (bV (λ_=>H.ex) (show self (.ex fr (aw 30 (ak fr.e) e)) st (kv k _)=true from hr) R F rfl (dL post) λw st1 J1 s1 hr l1 R1 F1 u hu=>az (ga (aT ?_))));refine am (bI hr) λi h1 h2=>?_;obtain ⟨⟨C,d⟩,h3,h4⟩:=bI h2;refine au (ii h4) λh4 h5=>?_;refine aB h4 λhC hx=>?_;dsimp only at hC h5;refine ah h3 λao h6 h7=>?_;cases w with
  |ref i'=>
   cases h1;cases ao with
   |exc C' d'=>
    cases h7;obtain ⟨a,o,rfl,ha,ho,⟨vs,q0,q1,q2,q3, -,q4⟩,hz⟩:=R1.at_ h6 hu;have hv1:=q3 hC;rw [yx hC] at q0 q1;have q:=be.mp (Dr P.W.w.params) C (wZ hC);unfold wz at q;cases hm:gp C jo with
    |none=>rw [hm] at q;cases q
    |some fi=>
     rw [hm] at q;simp only [i0] at q;obtain ⟨⟨⟨z1, -⟩, -⟩, -⟩:=q;refine am (any_some z1) λoc hoc z5=>?_;obtain ⟨nm',qn,N,bs,bm,hdct,sn,sub,ab,col,dd,k0,k1,k2,k3,k5,rfl,y1,y2,y3⟩:=Dn z5;have LU:=R1.k _ _ hoc;have R2:Rel P J1 (st1.set i (.exc (C+128) d)) s1:=R1.upd ha hz (mN hx) (eJ.refl _ _) ho ⟨vs,by refine ae (Gm hC) ?_;exact q0,by refine ae (Gm hC) ?_;exact q1,q2,λz=>absurd z (by refine ae (Fa hC) ?_;decide),λz=>absurd z (by refine ae (Ss hC) ?_;decide),q4⟩ (.inr ⟨_,h6,λ ⟨c,e,q,h⟩=>by cases q⟩);have hin:=R1.lt ha;have room:=R1.room;have R3:Rel P J1 ((st1.set i (.exc (C+128) d)).raised i) s1:=R2.abr ha hz ho q1 q2 hv1 λC' d' q=>by rw [St.get_set st1 R1.wf _ (pX hin room) (pX hin room),if_pos rfl] at q;cases q;exact Fa hC
     have fin:=post _ _ _ _ h5 ⟨i,rfl,by obtain ⟨objs,n,ni,nv,bnd,sub,aU,x⟩:=st1;rfl⟩ l1 R3 (.ref a) (.ref ha);obtain ⟨hp,g,dr,tk,os⟩:=s1;obtain ⟨oc',od',aek,ael⟩:=o;dsimp only at q1 q2;subst q1 q2;have hcB:(Value.ref C::bm).contains (.type "BaseException")=true:=by
      obtain ⟨-, -, -, -, -, -, -,cd,f8,f9⟩:=wG P.W.w.params hC (a:=("message":Str)) (by kernel_rfl);unfold clsIn at f8;rw [show (K P.W.w.params).lookup C=_ from hoc] at f8;cases f8
      injection f9 with _ f9
      refine ae f9 ?_;rfl
     repeat (first |with_reducible refine wpAny_loadPart_at ho ?_ |with_reducible refine wpAny_loadPart_at LU ?_ | (with_reducible refine wpAny_isSubtype_exc LU ?_;refine ae hcB ?_) |wp_step)
     rw [hv1];refine aT ?_;refine ae (if_neg (by decide)) ?_;exact aT (wpAny_raiseNew_none (F1.c.hd hd) fin)
   |_=>cases h7
  |_=>cases h1
end
end
section
open PySem.Builtin
section
variable{P:Pr}{self:Self}{fr:Fr}{J:G}{st:St}{s:Shared}{k:Kont}{A:Around}{E:Value->Shared->Prop}{env:Env}
theorem Rel.mark(R:Rel P J st s){i:Nat}{a:Addr}{o:Obj}{ao b9:AO}(hi:J.aA[i]?=some a)(ho:s.heap.get? a=some o)(hg:st.get i=some ao)(hn:¬ eg ao)(r:OR J o b9)(hf:∀C d,b9= .exc C d->isExc C=false):Rel P J (st.set i b9) s:=by
 have hin:=R.lt hi;have gs:∀{j},j< st.n->(st.set i b9).get j=if j=i then some b9 else st.get j:=λhj=>St.get_set st R.wf b9 (R.kF hin) (R.kF hj);refine R.step (.refl J) (λ_=>False) (λ_ _ h _=>h) (cG _) (λ_ h=>h.elim) (st.El i b9) (TM.iy _ _ _ _ R.wf) R.room ⟨rfl,rfl,rfl,rfl⟩ R.bR R.nodup (λb h=>.inl h) (λb o e=>.inl ⟨e,id⟩) (λj ao1 hj e=>?_) (λj b e hb=>⟨id,(R.excAt e hb).fz⟩) (λj C d e hj h=>?_) λb hb=>⟨(R.nf b hb).2.1,False.elim⟩
 ·rw [gs hj] at e
  by_cases q:j=i
  ·rw [if_pos q] at e
   exact ⟨a,o,q▸hi,ho,af e▸r,R.apart i ao a hin hg hi,λq=>(hn ((R.nf a q).2.2.2 i ao hin hg hi)).elim⟩
  ·rw [if_neg q] at e
   exact R.keep (.refl J) hj e λb o _ h2 h3=>⟨h2,h3⟩
 ·have hj':j< st.n:=hj
  rw [gs hj'] at h
  by_cases q:j=i
  ·rw [if_pos q] at h
   exact hf C d (af h)
  ·rw [if_neg q] at h
   exact R.fly j C d e hj' h
theorem abM{C:Nat}(h:isExc C=true):eu (C+256)=C/\lG (C+256)=true/\isExc (C+256)=false:=by
 unfold isExc at h;rcases dw.mp h with h |h
 ·refine ae (aH h) ?_;exact ⟨rfl,rfl,rfl⟩
 ·refine ae (aH h) ?_;exact ⟨rfl,rfl,rfl⟩
theorem DO{st:St}{i:Nat}{p:Nat×Nat}(h:ob (st.get i) fA=some p):st.get i=some (.exc p.1 p.2):=by refine ah h λao h1 h2=>?_;exact wD h2▸h1
theorem E6(R:Rel P J st s){v:AV}{i:Nat}{st':St}(h:vl st v=some st')(hv:v= .ref i)(hL:Led J i s):Rel P J st' s/\st'.x=st.x:=by subst hv;refine ah h λi' h1 h2=>?_;cases h1;refine ah h2 λp h3 h4=>?_;cases h4;have hg:=DO h3;refine qu hL λe o vs T q1 q2 q3 q4=>?_;obtain ⟨a,o',z1,z2,us,z3,z4,z5,z6,z7,z8⟩:=R.objs i _ (R.lt q1) hg;rw [q1] at z1;cases z1;rw [q2] at z2;cases z2;rw [q3] at z5;cases z5;refine fP (abM z3) λc1 c2 c3=>?_;refine ⟨R.mark q1 q2 hg (λ ⟨c,e,q,_⟩=>by cases q) ⟨vs,by refine ae c1 ?_;exact z3,by refine ae c1 ?_;exact z4,q3,λz=>absurd z (by refine ae c3 ?_;decide),λ_=>⟨T,q4⟩,z8⟩ (λC d q=>by cases q;exact c3),by obtain ⟨objs,n,ni,nv,bnd,sub,aU,x⟩:=st;rfl⟩
theorem yF(R:Rel P J st s){i:Nat}{a:Addr}(h:kq (.exc (.ref i)) st=true)(ha:J.aA[i]?=some a):st.x=some i/\Led J i s:=by
 have h:(match some i,st.x with
  |some i,some j=>ag i j&&aj (ob (st.get i) fA) λp=>lG p.1
  |_,_=>false)=true:=h
 cases hx:st.x with
 |none=>rw [hx] at h;exact aE h
 |some j=>rw [hx] at h;refine aB h λh1 h2=>?_;have aa:=aH h1;clear h hx h1;subst aa;refine aF h2 λp h3 h4=>?_;obtain ⟨a',o',z1,z2,us,z3,z4,z5,z6,z7,z8⟩:=R.objs i _ (R.lt ha) (DO h3);refine aQ (z7 h4) λT hT=>?_;exact ⟨rfl,a',o',us,T,z1,z2,z5,hT⟩
theorem Ei(R:Rel P J st s){i:Nat}{v:Value}{what:String}{Y:Type}{Q:Y->Shared->Prop}(hx:st.x=some i)(hv:VR J (.ref i) v)(hL:Led J i s)(hE:∀s',Rel P J st s'->E v s'):wpAny (Md P) A (NK what v env) Q E s:=by refine am (o9 hv) λe aq he=>?_;have aa:=aq;clear aq;subst aa;refine qu (id hL) λe' o vs T h1 h2 h3 h4=>?_;rw [he] at h1;cases h1;unfold NK;refine az (fk h2 h3 h4 ?_);refine ae (if_neg (show ¬ ((Value.ref T==Value.none)=true) from tu)) ?_;exact az (my R hx hv hL λs' R' _=>wpAny_throw (hE _ R'))
theorem UI{n:Str}{pos:Pos}{st':St}{Q:Unit->Shared->Prop}(R:Rel P J st s)(F:cA J fr.e env)(hk:(ak fr.e).names.lookup n=some .local)(h:goneN fr (nm n) st=some st')(hQ:∀s',Rel P J st' s'->Q () s'):wpAny (Md P) A (do bindName env n .none;unbindBehindTheSuite env n pos) Q E s:=by
 refine ah h λst1 h1 h2=>?_;have hl:=xD F hk (by decide);have hp:(env.scope.kind== .class||(env.scope.kind== .module&&env.locals != env.globals))=false:=by refine ae F.kind ?_;rfl
 refine az (wpAny_bindName (mQ R F hk h1 .none λs1 R1=>?_));unfold unbindBehindTheSuite;refine wpAny_onRaise ?_;unfold unbindName;refine az (wpAny_point (az ?_));unfold deleteName;simp only [hl,hp];refine ae (if_neg (by decide)) ?_;refine ba (qJ h2) λcap es h3 bC=>?_;have aa:=bC;clear bC;subst aa;obtain ⟨a',o,ha',ho,en,m,hcap,hd,hcl,hk',hu,hf⟩:=R1.objs _ _ (R1.lt F.loc) h3;rw [F.loc] at ha';cases ha';have hsome:∃w,nsFind en n=some w:=by refine ba (qJ h1) λaej es0 h4 bC=>?_;have aa:=bC;clear h1 R1 bC;subst aa;have hin:=R.lt F.loc;have room:=R.room;rw [St.get_set st R.wf _ (pX hin room) (pX hin room),if_pos rfl] at h3;cases h3;have:=hf n;rw [oL,if_pos rfl] at this;refine am this λw hw _=>?_;exact ⟨w,hw⟩
 refine aQ hsome λw hw=>?_;refine az (wpAny_nsDel1 (m:=λy=>nsFind en y) ⟨o,en,m,ho,hd,hk',hu,λ_=>rfl⟩ λh' hn' hs=>?_);rw [hw];simp only [MS,Bool.not_true,k8,if_false];refine wF hn' λo' en' m' ho' hd' hk2 hu2 hf2=>?_;have hlen:=tX (nm n) .unk es
 have r:OR J o' (.dict cap true (c7 (nm n) .unk es)):=⟨en',m',Aw hlen hcap,hd',(λhl=>nomatch hl),hk2,hu2,λy=>by
  rw [oL,hf2 y];show DR J _ (if y=n then none else nsFind en y)
  by_cases e:y=n
  ·rw [if_pos (by rw [e])];trivial
  ·refine ae (if_neg (λq=>e (dM q))) (ae (if_neg e) ?_);exact hf y⟩
 have hz:=R1.apart _ _ _ (R1.lt F.loc) h3 F.loc
 refine aT (wpAny_point (hQ _ (R1.upd F.loc hz (R1.jp F.loc ho (.inl λvs q=>by rw [hd] at q;cases q)) hs ho' r (by
  by_cases hc:cap+1<=100000
  ·exact .inl ⟨_,_,rfl,wm hc⟩
  ·exact .inr ⟨_,h3,λ ⟨c,e,q,h⟩=>by cases q;exact hc h⟩))))
theorem UK{D:Nat}(h:pF D=true):D∈ [70,51,89,108,127]:=by
 unfold pF isExc at h;rcases dw.mp h with h |h
 ·rcases dw.mp h with h |h<;>(refine ae (aH h) ?_;simp)
 ·rcases dw.mp h with h |h
  ·refine ae (aH h) ?_;simp
  ·rcases dw.mp h with h |h<;>(refine ae (aH h) ?_;simp)
theorem Vd(P:Params)(S:Setting):([70,51].map λC=>[70,51,89,108,127].map λD=>(peek (K P) S (isInstance (.ref D) (.type "tuple")),peek (K P) S (isExcClass (.ref D)),peek (K P) S (isSubtype (.ref C) (.ref D))))= [70,51].map λC=>[70,51,89,108,127].map λD=>(some false,some true,some (ag C D)):=by kernel_rfl
theorem Su{C D e:Addr}{o:Obj}{Q:Bool->Shared->Prop}(R:Rel P J st s)(hC:isExc C=true)(hD:pF D=true)(ho:s.heap.get? e=some o)(hc:o.cls= .ref C)(hQ:Q (ag C D) s):wpAny (Md P) A (excMatches (.ref e) (.ref D)) Q E s:=by
 have hm:C∈ [70,51]:=(dw.mp hC).elim (λh=>aH h▸ .head _) λh=>aH h▸ .tail _ (.head _);have z:=λS=>map_at (map_at (Vd P.W.w.params S) C hm) D (UK hD);unfold excMatches;refine az ((Looks.of_peek R.k (congrArg (·.1) (z _))).here (az (show wpAny _ A (pure [Value.ref D]) _ _ _ from aT ?_)));dsimp only;rw [jP];refine az (az (az ((Looks.of_peek R.k (congrArg (·.2.1) (z _))).here ?_)));refine aT ?_;refine aT ?_;refine az (wpAny_typeOf_ref ho ?_);rw [jP];refine az (az (az (ae hc ((Looks.of_peek R.k (congrArg (·.2.2) (z _))).here ?_))))
 revert hQ
 cases ag C D with
 |true=>intro hQ;refine aT ?_;refine aT ?_;exact aT hQ
 |false=>intro hQ;refine aT ?_;refine aT ?_;exact aT hQ
theorem Qj{c:AV}{D:Nat}(h:uj c=some D):c= .glob D:=by cases c<;>first |exact aD h |exact congrArg _ (af h)
theorem PI(R:Rel P J st s){c:AV}{i C D:Nat}{e:Addr}{w:Value}{Q:Bool->Shared->Prop}(h1:yy st (.ref i)=some C)(h2:uj c=some D)(hw:VR J c w)(hD:pF D=true)(he:J.aA[i]?=some e)(hQ:Q (ag C D) s):wpAny (Md P) A (excMatches (.ref e) w) Q E s:=by refine ah h1 λj z1 z=>?_;obtain rfl:=af z1;refine ah z λC0 z3 z4=>?_;obtain rfl:=af z4;refine ah z3 λao z5 z6=>?_;refine ah z6 λp z7 z8=>?_;have aa:=af z8;clear z3 z6 z8;subst aa;rw [Qj h2] at hw;obtain rfl:w= .ref D:=hw.out;rw [wD z7] at z5;obtain ⟨a',o,y1,y2,us,y3,y4, -⟩:=R.objs i _ (R.lt he) z5;have aa:=af (he.symm.trans y1);clear y1;subst aa;exact Su R y3 hD y2 y4 hQ
theorem Xv{r:bG}{f:AV->St->Bool}{st:St}(h:BK f r st=true):∃a,r= .val a/\f a st=true:=by
 cases r with
 |val a=>exact ⟨a,rfl,h⟩
 |_=>exact aE h
inductive Bh(fr:Fr)(n:Nm)(k:Kont)(r:bG)(st st':St):Prop
 |mk (h1:goneN fr n st=some st') (h2:k r st'=true) (h3:r= .next\/r= .brk\/r= .cont\/ ∃v,r= .ret v):Bh fr n k r st st'
theorem WD{fr:Fr}{n:Nm}{r:bG}{st:St}(h:Bl fr n k r st=true):∃st',Bh fr n k r st st':=by
 have go:∀{r},(r= .next\/r= .brk\/r= .cont\/ ∃v,r= .ret v)->aj (goneN fr n st) (k r)=true->∃st',Bh fr n k r st st':=λh3 h=>by refine aF h λst' h1 h2=>?_;exact ⟨st',h1,h2,h3⟩
 cases r with
 |next=>exact go (.inl rfl) h
 |brk=>exact go (.inr (.inl rfl)) h
 |cont=>exact go (.inr (.inr (.inl rfl))) h
 |ret v=>exact go (.inr (.inr (.inr ⟨v,rfl⟩))) h
 |_=>exact aE h
inductive Hd(self:Self)(fr:Fr)(v:AV)(n:Nat)(f:St->Kont->Bool)(st:St)(k:Kont):Option ax->Option Str->List Stmt->Prop
 |mk (x:Str) (p:Pos) (m:Str) (b:Stmt) (bs:List Stmt) (c1:(ak fr.e).names.lookup m=some .local) (hr:self (.ex fr.held (xName (ak fr.e) x)) st (BK λc st1=>aj (yy st1 v) λC=>aj (uj c) λD=>bf (pF D&&kq (.exc v) st1) (bf (ag C D) (aj (fE fr (nm m) v st1) λst2=>self (.sts fr.held (aK (bE n (ak fr.e)) (b::bs))) st2 (Bl fr (nm m) k)) (f st1 k)) false)=true):Hd self fr v n f st k (some (.Name x p)) (some m) (b::bs)
theorem PC{n:Nat}{v:AV}{f:St->Kont->Bool}{type:Option ax}{name:Option Str}{body:List Stmt}{pos:Pos}(hr:pj self fr v f st k (xH (bE n) (ak fr.e) (.ExceptHandler type name body pos))=true):Hd self fr v n f st k type name body:=by
 refine am (gW (C:=pj self fr v f st k) rfl hr) λt aq h1=>?_;have aa:=aq;clear aq;subst aa;refine am (gW (C:=pj self fr v f st k) rfl h1) λm aq h2=>?_;have aa:=aq;clear aq;subst aa;clear hr h1;cases t with
 |Name x p=>
  refine am (gW (C:=pj self fr v f st k) rfl h2) λkd c1 h3=>?_;refine au (nj (C:=pj self fr v f st k) rfl h3) λc2 h4=>?_;rw [yG] at c1;clear h3 h2;cases kd with
  | «local» =>
   cases body with
   |nil=>exact aE h4
   |cons b bs=>exact ⟨x,p,m,b,bs,c1,h4⟩
  |_=>exact aE c2
 |_=>exact aE h2
theorem bj.held(F:bj P J fr A env)(e:Value):bj P J fr.held (A.mark (some e)) env:=⟨⟨F.c.depth,F.c.units,(λq=>by cases q),F.c.frames⟩,F.e,F.top⟩
variable(H:ep P self)
include H
theorem Qk{n:Nat}{e:Addr}{i:Nat}{Q:Flow->Shared->Prop}(s0:fr.e.sub=none){hs:List ExceptHandler}{st:St}{s:Shared}{J:G}{k:Kont}(hr:handle self fr (.ref i) (aK (xH (bE n) (ak fr.e)) hs) st k=true)(R:Rel P J st s)(F:bj P J fr A env)(he:J.aA[i]?=some e)(post:Post P k J (gH Q E)):wpAny (Md P) A (handleBy (.ref e) env hs) Q E s:=by
 induction hs generalizing st s J with
 |nil=>refine au (ii (show bf (kq (.exc (.ref i)) st) (k (.exc (.ref i)) st) false=true from hr)) λh1 h2=>?_;refine au (yF R h1 he) λhx hL=>?_;exact wpAny_handleBy_nil (Ei R hx (.ref he) hL λs' R'=>post _ _ _ _ h2 ⟨i,rfl,hx⟩ (.refl _) R' _ (.ref he))
 |cons h hs ih=>
  cases h with
  |ExceptHandler type name body pos=>
   cases PC (f:=handle self fr (.ref i) (aK (xH (bE n) (ak fr.e)) hs)) hr with
   |mk x p m b bs c1 hr'=>
    refine wpAny_handleBy_cons (codeAny_handlers_test ?_) (ref_ne_byPass e);refine H.ex hr' 1 (.Name x p) xb J s (A.mark (some (.ref e))) _ _ env R (F.held _) λr st1 J1 s1 q xo l1 R1=>?_;refine am (Xv q) λc aq q=>?_;have aa:=aq;clear q xo aq;subst aa;intro w hw;refine aF q λC h1 q=>?_;refine aF q λD h2 q=>?_;refine au (ii q) λh3 q=>?_;refine aB h3 λhD h4=>?_;have sK:=aN l1.aA he;refine au (yF R1 h4 sK) λhx hL=>?_;have F1:=F.mono l1;refine PI R1 h1 h2 hw hD sK ?_;cases hcd:ag C D with
    |true=>
     refine aF (kN hcd q) λst2 h5 h6=>?_;show codeAny _ _ _ _ _;refine codeAny_handlers_suite_as (my R1 hx (.ref sK) hL λs2 R2 _=>?_);refine mQ R2 F1.e c1 h5 (.ref sK) λs3 R3=>?_;refine H.sts h6 s0 n (b::bs) rfl J1 s3 (A.mark (some (.ref e))) _ _ env R3 (F1.held _) λr bc J4 s4 q4 xo4 l4 R4=>?_;obtain ⟨BV,g1,g2,g3⟩:=WD q4;have fin:∀s5,Rel P J4 BV s5->gH Q E J4 r s5:=λs5 R5=>post _ _ _ _ g2 (by rcases g3 with rfl |rfl |rfl | ⟨_,rfl⟩<;>trivial) (l1.trans l4) R5;have go:∀{Q':Unit->Shared->Prop},(∀s5,Rel P J4 BV s5->Q' () s5)->wpAny (Md P) A (do bindName env m .none;unbindBehindTheSuite env m pos) Q' E s4:=λhQ=>UI R4 (F1.mono l4).e c1 g1 hQ;rcases g3 with rfl |rfl |rfl | ⟨v',rfl⟩
     ·exact go λs5 R5=>fin s5 R5
     ·exact go λs5 R5=>fin s5 R5
     ·exact go λs5 R5=>fin s5 R5
     ·exact λu hu=>go λs5 R5=>fin s5 R5 u hu
    |false=>exact ih (ma hcd q) R1 F1 sK (post.le l1)
theorem RI{n:Nat}{f₀:Stmt}{fs:List Stmt}{Q:Flow->Shared->Prop}(s0:fr.e.sub=none)(F:bj P J fr A env)(post:Post P k J (gH Q E)):Post P (finish self fr (aK (bE n (ak fr.e)) (f₀::fs)) k) J (gH (FinallyPlain pw P.W.w A E env (f₀::fs) Q) (FinallyRaised pw P.W.w A E env (f₀::fs) Q)):=λr st1 J1 s1 q xo l1 R1=>by
 have F1:=F.mono l1;have q:self (.sts (bf (AG r) fr.held fr) (aK (bE n (ak fr.e)) (f₀::fs))) st1 (vg k r)=true:=q;have plain:∀{f:Flow},AG r=false->(∀st2 J2 s2,k r st2=true->J1.Le J2->Rel P J2 st2 s2->Q f s2)->FinallyPlain pw P.W.w A E env (f₀::fs) Q f s1:=λhne hQ=>by
  rw [hne] at q;refine H.sts (show self (.sts fr (aK (bE n (ak fr.e)) (f₀::fs))) st1 (vg k r)=true from q) s0 n (f₀::fs) rfl J1 s1 A _ _ env R1 F1 λz st2 J2 s2 q2 x2 l2 R2=>?_;cases z with
  |next=>exact hQ st2 J2 s2 (ii (show bf (kq r st2) (k r st2) false=true from q2)).2 l2 R2
  |exc a=>cases q2
  |brk=>cases q2
  |cont=>cases q2
  |ret a=>cases q2
  |_=>trivial
 cases r with
 |next=>exact plain rfl λst2 J2 s2 q2 l2 R2=>post _ _ _ _ q2 trivial (l1.trans l2) R2
 |brk=>exact plain rfl λst2 J2 s2 q2 l2 R2=>post _ _ _ _ q2 trivial (l1.trans l2) R2
 |cont=>exact plain rfl λst2 J2 s2 q2 l2 R2=>post _ _ _ _ q2 trivial (l1.trans l2) R2
 |ret a=>exact λv hv=>plain rfl λst2 J2 s2 q2 l2 R2=>post _ _ _ _ q2 trivial (l1.trans l2) R2 v (hv.mono l2)
 |exc a=>
  intro v hv;refine am xo λi aq hx=>?_;have aa:=aq;clear q xo plain aq;subst aa;refine am (o9 hv) λe aq he=>?_;subst aq;refine ⟨ref_ne_byPass e,?_⟩;refine oF R1 hx s0 F1 hv λs2 R2 hL=>my R2 hx hv hL λs3 R3 vT=>?_;refine H.sts (show self (.sts fr.held (aK (bE n (ak fr.e)) (f₀::fs))) st1 (vg k (.exc (.ref i)))=true from q) s0 n (f₀::fs) rfl J1 s3 (A.mark (some (.ref e))) _ _ env R3 (F1.held _) λz bc J4 s4 q4 x4 l4 R4=>?_;cases z with
  |next=>refine au (ii (show bf (kq (.exc (.ref i)) bc) (k (.exc (.ref i)) bc) false=true from q4)) λq5 q6=>?_;have BA:=aN l4.aA he;refine au (yF R4 q5 BA) λLY hL4=>?_;exact Ei R4 LY (.ref BA) hL4 λs5 R5=>post _ _ _ _ q6 ⟨i,rfl,LY⟩ (l1.trans l4) R5 _ (.ref BA)
  |exc a=>cases q4
  |brk=>cases q4
  |cont=>cases q4
  |ret a=>cases q4
  |_=>trivial
 |_=>trivial
theorem V3{n:Nat}{b fin:List Stmt}{hs:List ExceptHandler}{pos:Pos}(hne:(hs.isEmpty&&fin.isEmpty)=false)(hr:Ab (aK (bE n (ak fr.e)) b) (aK (xH (bE n) (ak fr.e)) hs) (aK (bE n (ak fr.e)) fin) self fr st k=true):GS P fr (.Try b hs [] fin pos) st k:=λs0 J s A Q E env R F post=>by
 have body:∀{Q0 Q':Flow->Shared->Prop} {E0 E':Value->Shared->Prop},Post P (finish self fr (aK (bE n (ak fr.e)) fin) k) J (gH Q0 E0)->(∀f s',Q0 f s'->Q' f s')->
   (∀i st1 J1 s1 e,st1.x=some i->(aj (vl st1 (.ref i)) λst2=>handle self fr (.ref i) (aK (xH (bE n) (ak fr.e)) hs) st2 (finish self fr (aK (bE n (ak fr.e)) fin) k))=true->J.Le J1->Rel P J1 st1 s1->J1.aA[i]?=some e->E' (.ref e) s1)->wpAny (Md P) A (execs b env) Q' E' s:=λ {Q0 Q' E0 E'} po hq h2=>by
  refine H.sts (show self (.sts fr (aK (bE n (ak fr.e)) b)) st _=true from hr) s0 n b rfl J s A _ _ env R F λr st1 J1 s1 q xo l1 R1=>?_;cases r with
  |exc v=>refine am xo λi aq hx=>?_;have aa:=aq;clear xo aq;subst aa;intro u hu;refine am (o9 hu) λe aq he=>?_;have aa:=aq;clear hu aq;subst aa;exact h2 i st1 J1 s1 e hx q l1 R1 he
  |next=>exact hq _ _ (po _ _ _ _ q trivial l1 R1)
  |brk=>exact hq _ _ (po _ _ _ _ q trivial l1 R1)
  |cont=>exact hq _ _ (po _ _ _ _ q trivial l1 R1)
  |ret a=>exact λv hv=>hq _ _ (po (.ret a) _ _ _ q trivial l1 R1 v hv)
  |_=>trivial
 have caught:∀{Q':Flow->Shared->Prop} {E':Value->Shared->Prop} {i:Nat} {st1:St} {J1:G} {s1:Shared} {e:Addr},st1.x=some i->(aj (vl st1 (.ref i)) λst2=>handle self fr (.ref i) (aK (xH (bE n) (ak fr.e)) hs) st2 (finish self fr (aK (bE n (ak fr.e)) fin) k))=true->J.Le J1->Rel P J1 st1 s1->J1.aA[i]?=some e->Led J1 i s1->
   Post P (finish self fr (aK (bE n (ak fr.e)) fin) k) J1 (gH Q' E')->wpAny (Md P) A (handleBy (.ref e) env hs) Q' E' s1:=λ {Q' E' i st1 J1 s1 e} hx q l1 R1 he hL po=>by
  refine am (bI q) λst2 h1 h2=>?_;refine au (E6 R1 h1 rfl hL) λR2 _=>?_;exact Qk H s0 h2 R2 (F.mono l1) he po
 cases fin with
 |nil=>
  cases hs with
  |nil=>exact cH hne
  |cons h₀ hs=>exact wpAny_Try_except (body (Q0:=Q) (E0:=E) post (λf s' h=>by cases f<;>first |exact h |exact aT h) λi st1 J1 s1 e hx q l1 R1 he=>oF R1 hx s0 (F.mono l1) (.ref he) λs2 R2 hL=>my R2 hx (.ref he) hL λs3 R3 vT=>caught hx q l1 R3 he vT (post.le l1))
 |cons f₀ fs=>
  have vQ:=RI H s0 (n:=n) (f₀:=f₀) (fs:=fs) F post;cases hs with
  |nil=>refine wpAny_Try_finally (body vQ (λf s' h=>by cases f<;>first |exact h |exact aT h) λi st1 J1 s1 e hx q l1 R1 he=>?_);refine oF R1 hx s0 (F.mono l1) (.ref he) λs2 R2 hL=>?_;refine aF q λst2 h1 h2=>?_;refine au (E6 R2 h1 rfl hL) λR3 e3=>?_;refine au (ii (show bf (kq (.exc (.ref i)) st2) (finish self fr (aK (bE n (ak fr.e)) (f₀::fs)) k (.exc (.ref i)) st2) false=true from h2)) λh3 h4=>?_;exact vQ (.exc (.ref i)) st2 J1 s2 h4 ⟨i,rfl,e3.trans hx⟩ l1 R3 _ (.ref he)
  |cons h₀ hs=>exact wpAny_Try_except_finally (body vQ (λf s' h=>by cases f<;>first |exact h |exact aT h) λi st1 J1 s1 e hx q l1 R1 he=>oF R1 hx s0 (F.mono l1) (.ref he) λs2 R2 hL=>my R2 hx (.ref he) hL λs3 R3 vT=>caught hx q l1 R3 he vT (vQ.le l1))
end
end
theorem Fw:(j6 bY).defaults= []/\(j6 bY).kw_defaults= []:=by constructor<;>kernel_rfl
theorem DI(P:Params):(K P).lookup 1060=some ⟨(.type "code"),none,.fields #[(.str "_law_builtin" 1742),(.str "_law_builtin" 1743),(.str "/claim/cut.py" 1744),(.int 845 0),(.int 1 0),(.int 0 0),(.int 0 0),(.int 3 0),(.ref 1055),(.bool true),(.int 181 0),(.ref 1056),.none,(.ref 1057),(.ref 1058),(.ref 1059),(.int 1748 0),(.int 845 0),(.str "/claim/cut.py" 1749)], #[]⟩:=by kernel_rfl
theorem TU(P:Params):nsIn (K P) mainGlobals "__builtins__"=some (some (.ref 4)):=by kernel_rfl
theorem TV(P:Params):(K P).lookup 4=some ⟨.type "module",some 0,.plain, #[]⟩:=by kernel_rfl
section
variable{P:Pr}{J:G}{st:St}{s:Shared}{A:Around}{E:Value->Shared->Prop}
theorem Rel.codeHd(R:Rel P J st s):CodeHd s.heap 1060 1056:=⟨_,_,_,_,_,_,_,_,_,R.k _ _ (DI _),rfl,rfl,rfl,rfl,rfl,rfl,rfl,rfl,by decide⟩
theorem Rel.Hq(R:Rel P J st s):s.heap.BuiltinsAt (s.heap.nsMap mainGlobals) 1056:=⟨4,_,mg_of R.k (.of_isNs R.main) (TU _),by decide,by decide,by decide,R.k _ _ (TV _),rfl,rfl,rfl⟩
theorem Rel.tab(R:Rel P J st s){h':Heap}{vs:Array Value}{cc:Addr}{oo:Obj}(hx:Heap.ExtBut 1056 s.heap h')(hT:h'.get? 1056=some ⟨.none,none,.fields vs, #[]⟩)(hc:h'.get? cc=some oo)(hcc:s.heap.objs.size<=cc)(ht:nC (J.cF cc oo) vs):Rel P (J.cF cc oo) st {s with heap:=h'}:=by
 have hlt:cc< h'.objs.size:=cU hc;have hsz:s.heap.objs.size<=h'.objs.size:=aI hcc (ot hlt);have hzn:J.fz cc=none:=by
  cases q:J.fz cc with
  |none=>rfl
  |some o=>exact absurd (R.fz _ _ q).2.1 (cV.mpr hcc)
 have hle:=G.oU oo hzn;have hne:cc ∉ J.aA:=λq=>absurd (R.range _ q).2 (cV.mpr hcc);have hfz:∀b o',(J.cF cc oo).fz b=some o'->(b=cc/\o'=oo)\/J.fz b=some o':=λb o' e=>by exact G.xw e
 have hfn:∀b,b< s.heap.objs.size->(J.cF cc oo).fz b=J.fz b:=λb q=>if_neg (gR (bz q hcc));have big:=P.W.big;have hi:∀b,P.W.hL.objs.size<=b->b≠1056:=λb q=>rz big q;refine {R with aU:=λp hp=>(R.aU p hp).mono hle,gh:=P.gm hle R.gh,old:=λb o0 hb hn=>hx _ _ hn (R.old b o0 hb hn),x3:=⟨vs,hT,ht⟩,range:=λb hb=>⟨(R.range b hb).1,bz (R.range b hb).2 hsz⟩,objs:=λj a' hj e=>?_,apart:=λj a' b hj e hb=>?_,fz:=λb o' e=>?_,eZ:=λb o' e=>hle.fz _ _ (R.eZ b o' e),dh:=λb o' e=>?_,frame:=λb o' e hb hf sJ=>?_,size:=aI R.size hsz,big:=aI R.big hsz,ff:=λenv he=>?_,exc:=λj e=>?_,nf:=λb hb=>?_}
 ·refine bp (R.objs j a' hj e) λb ob hb hob q=>?_
  exact ⟨b,ob,hb,hx _ _ (hi b (R.range b (bx hb)).1) hob,q.mono hle⟩
 ·refine ae (hfn b (R.range b (bx hb)).2) ?_
  exact R.apart j a' b hj e hb
 ·rcases hfz b o' e with ⟨rfl,rfl⟩ |e
  ·exact ⟨aI R.big hcc,hlt,_,hc,.refl _⟩
  ·refine fB (R.fz b o' e) λh1 h2 vY h3 h4=>?_
   exact ⟨h1,bz h2 hsz,vY,hx _ _ (hi b h1) h3,h4⟩
 ·rcases hfz b o' e with ⟨rfl,rfl⟩ |e
  ·exact .inr (.inr (aI R.size hcc))
  ·exact R.dh b o' e
 ·have q:=R.frame b o' e hb hf sJ
  exact ⟨λhx'=>hx _ _ sJ (q.1 hx'),by obtain ⟨sl,e⟩:=q.2;exact ⟨sl,hx _ _ sJ e⟩⟩
 ·refine gb (R.ff env he) λh1 L o' h2 h3 h4 h5 h6 h7=>?_
  exact ⟨h1,L,o',h2,h3,hx _ _ (hi L h3) h4,h5,h6,(hfn L (cU h4)).trans h7⟩
 ·refine am (R.exc j e) λb q1 E=>?_
  cases E with
  |mk o' vs q2 q3 q4 q5 q6=>
   refine ⟨b,q1,.mk o' vs ((hfn b (cU q3)).trans q2) (hx _ _ (hi b (R.range b (bx q1)).1) q3) q4 q5 (q6.imp_right λq=>q.imp λv q=>⟨q.1,?_⟩)⟩;cases q.2 with
   |mk T oT ts fl r1 r2 r2' r3 r4 r5 r6 r7 r8=>exact .mk T oT ts fl r1 r2 r2' (bz r3 hsz) r4 ((hfn T r3).trans r5) (hx _ _ (hi T r2) r6) r7 r8
 ·obtain ⟨⟨o1,q1,q2⟩,q3,q4,q5⟩:=R.nf b hb
  exact ⟨⟨o1,hx _ _ (hi b (R.range b q4).1) q1,q2⟩,(hfn b (cU q1)).trans q3,q4,q5⟩
theorem DD{env:Env}{a:Addr}(h:env.cells.lookup ("name":Str)=some a):closureFor (bK bY) env=pure [(("name":Str),a)]:=by
 have e:(bK bY).names= [(("interp":Str),NameKind.local),(("args":Str),NameKind.local),(("env":Str),NameKind.local),(("row":Str),NameKind.local),(("name":Str),NameKind.free),(("whole":Str),NameKind.globalImplicit),(("_law_mixed":Str),NameKind.globalImplicit),(("ord":Str),NameKind.globalImplicit)]:=by kernel_rfl
 unfold closureFor;refine ae e ?_;simp [cellOf,h]
theorem Q4:(bK (aX 1061)).names.lookup ("told":Str)=some .local:=by kernel_rfl
theorem Q6:(("_law_builtin.<locals>.":Str)++("told":Str))=jV:=by kernel_rfl
theorem Ww{pos:Pos}:codeAmong pos (#[]:Array Value).toList=none:=rfl
theorem Wx{cc:Addr}:codeAmong ua (#[rawInt 847,rawInt 4,Value.ref cc]:Array Value).toList=some (.ref cc):=by rfl
theorem Q5{env:Env}{fr:Fr}{i:Nat}{w:SW}{Q:Value->Shared->Prop}(R:Rel P J st s)(F:bj P J fr A env)(h1:fr.e.fi=1061)(h2:fr.e.sub=none)(hc:lk iu fr.e.cells=some (.at i))(hg:st.get i=some (.cell (some (.str w))))(hx:st.x≠some i)
  (hQ:∀J' s' v,J.Le J'->Rel P J' (st.drop i) s'->VR J' (.told w) v->Q v s'):wpAny (Md P) A (makeFunction "told" jV (j6 bY) (.stmts (dR bY)) (bK bY) env [] [] [] ua 847) Q E s:=by
 have ec:=F.e.cells "name";rw [<-Ds,hc] at ec;refine am ec λa c1 c2=>?_;refine bp (R.objs i _ (R.lt c2) hg) λa' o e1 e2 hor=>?_;rw [c2] at e1;cases e1;refine am hor λv hv1 hv2=>?_;have hz:=R.apart i _ a (R.lt c2) hg c2;have R1:=R.dropped (R.lt c2);have room:=R.room;have hin:=R.lt c2;have gi:(st.drop i).get i=none:=by exact ae (St.je st R.wf (pX hin R.room) (pX hin R.room)) (ae (if_pos rfl) rfl)
 have hnf:a ∉ J.nf:=λq=>by refine ba ((R.nf a q).2.2.2 i _ hin hg c2) λc e' q _=>?_;cases q
 have hx1:(st.drop i).x≠some i:=by obtain ⟨objs,n,ni,nv,bnd,sub,aU,x⟩:=st;exact hx
 have R2:=R1.freeze c2 gi e2 hz hnf hx1;have l2:=G.oU o hz;have fa:(J.cF a o).fz a=some o:=if_pos rfl;refine au (F.e.code h2 h1) λcd cq=>?_;refine am R2.x3 λvs hT ht=>?_;rcases ht with rfl | ⟨cc,oo,us,t,rfl,z1,z2,z3⟩
 ·refine makeFunction_K (mg:=s.heap.nsMap mainGlobals) (DD c1) F.e.glob (.of_isNs R.main) cd R.codeHd hT trivial Ww (by decide) R.Hq λc' ctv doc h' tk hx' hge hlt hrec htb=>?_
  refine qu hrec λc₂ oc us t y1 y2 y3 y4=>?_;cases y1;have R3:=R2.tab hx' htb y2 hge (.inr ⟨c',oc,us,t,rfl,if_pos rfl,y3,y4⟩)
  have l3:(J.cF a o).Le ((J.cF a o).cF c' oc):=G.oU oc (by
   cases q:(J.cF a o).fz c' with
   |none=>rfl
   |some o'=>exact absurd (R2.fz _ _ q).2.1 (cV.mpr hge))
  refine fP (R3.zR (o:=fnMade "told" jV (j6 bY) (dR bY) (bK bY) [(("name":Str),a)] doc ((s.heap.nsMap mainGlobals "__name__").getD .none) c' ctv) rfl) λR4 l4 f4=>?_;exact hQ _ _ _ ((l2.trans l3).trans l4) (R4.toks tk) (.told (c:=a) (cc:=c') f4 ((l3.trans l4).fz _ _ fa) hv1 (l4.fz _ _ (if_pos rfl)) y3 y4 (hv2.mono ((l2.trans l3).trans l4)))
 ·refine makeFunction_hit (mg:=s.heap.nsMap mainGlobals) (DD c1) F.e.glob (.of_isNs R.main) cd R.codeHd hT trivial Wx R.Hq λctv doc h' tk hk hsz=>?_
  have R3:=R2.grown (h':=h') ⟨hsz,λb o e _=>hk b o e⟩;refine fP (R3.zR (o:=fnMade "told" jV (j6 bY) (dR bY) (bK bY) [(("name":Str),a)] doc ((s.heap.nsMap mainGlobals "__name__").getD .none) cc ctv) rfl) λR4 l4 f4=>?_;exact hQ _ _ _ (l2.trans l4) (R4.toks tk) (.told (c:=a) (cc:=cc) f4 (l4.fz _ _ fa) hv1 (l4.fz _ _ z1) z2 z3 (hv2.mono (l2.trans l4)))
set_option tactic.hygienic true in
theorem Ub{fr:Fr}{st:St}{k:Kont}{i:Nat}{n:Nm}(h:uV n fr st k i=true):∃w st1,st.get i=some (.cell (some (.str w)))/\gG st i=true/\fE fr n (.told w) (st.drop i)=some st1/\k .next st1=true:=by
 unfold uV at h
 split at h
 ·rename_i w hg
  refine au (mV h) λh3 hr=>?_;refine aF hr λst1 h4 h5=>?_;exact ⟨w,st1,hg,h3,h4,h5⟩
 ·exact aE h
theorem Ty{sf:Self}{fr:Fr}{st:St}{k:Kont}(hr:Iu (nm ("told":Str)) sf fr st k=true):GS P fr (.FunctionDef "told" (j6 bY) (dR bY) [] none [] (bK bY) none "told" ua) st k:=λs0 J s A Q E env R F post=>by
 refine au (mV hr) λh1 hr=>?_;refine aB h1 λh1 h2=>?_;have h1:=aH h1;cases BN:lk iu fr.e.cells with
 |none=>rw [BN] at hr;exact aE hr
 |some cr=>
  rw [BN] at hr;cases cr with
  |con _ _=>exact aE hr
  | «at» i=>
   refine qR (Ub (show uV (nm "told") fr st k i=true from hr)) λw st1 hg h3 h4 h5=>?_;have hk:(ak fr.e).names.lookup ("told":Str)=some .local:=by unfold ak;refine ae s0 (ae h1 ?_);exact Q4
   have hkind:env.kindOf "told"=some .local:=F.e.here hk (by decide);refine nestDef_K Fw.1 Fw.2 (by rfl) ?_;have hq:qualnameIn env "told" "told"=jV:=by unfold qualnameIn;refine ae hkind (ae ((F.e.code s0 h1).2) ?_);exact Q6
   refine ae hq ?_;exact Q5 R F h1 s0 BN hg (mN h3) λJ' s' v l R' hv=>mQ R' (F.mono l).e hk h4 hv λs'' R''=>post _ _ _ _ h5 trivial l R''
theorem VT{sf:Self}{fr:Fr}{st:St}{k:Kont}{n:Nat}{c:Stmt}(hc:∃a b d e f g h i j l,c= .FunctionDef a b d e f g h i j l)(hr:dp (bE n (ak fr.e) c) sf fr st k=true):GS P fr c st k:=by
 refine NL hc λa b d e f g h i j l adP=>?_;subst adP;cases n with
 |zero=>exact aE hr
 |succ n=>
  have hr:dp (bf (ag (nm a) (nm "told")) (ny a (.FunctionDef a b d e f g h i j l)) .bad) sf fr st k=true:=hr;cases c0:ag (nm a) (nm "told") with
  |false=>rw [c0] at hr;exact aE hr
  |true=>
   have hr:dp (ny a (.FunctionDef a b d e f g h i j l)) sf fr st k=true:=by rw [c0] at hr;exact hr
   unfold ny at hr
   by_cases q:Stmt.FunctionDef a b d e f g h i j l=bY.st
   ·rw [if_pos q] at hr
    refine ae q (ae xW ?_);rw [dM (aH c0)] at hr;exact Ty (sf:=sf) hr
   ·rw [if_neg q] at hr;exact aE hr
end
theorem rest(P:Pr)(vec:Bool):Rest (eN P) P vec where
 X:=ab1
 Z0Z:=V5
 I:=uM
 Y0Y:=parts
 J0J:=adk
 more:=λ {sf} h=>⟨λh1 h2 h3=>Tb (jK h).toEOk h1 h2 h3,λh1 h2=>Ta h uM h1 h2⟩
 H7:=λ {sf} h=>⟨λh1 h2 h3 h4=>Pi (jK h) parts h1 h2 h3 h4,λh1 h2 h3=>NP h uM h1 h2 h3,λh1=>QR (jK h) h1,λh1=>V3 (jK h) h1⟩
 def_:=λh hc hr=>VT hc hr
 call:=λh hr=>T1 (jK h) hr
 comp:=λh hr=>Tn h uM parts hr
noncomputable def Pr.into(P:Pr)(s:Shared)(J J':G)(outer:List Env)(gh:G->Prop)(gm:∀{a b:G},a.Le b->gh a->gh b):Pr:=⟨P.W,s.heap,J.fz,outer,P.os,J'.aA,gh,gm⟩
section
variable{P:Pr}{J J':G}{st bD:St}{s:Shared}{A:Around}{c c':Cx}{gh:G->Prop}{gm:∀{a b:G},a.Le b->gh a->gh b}{envs:List Env}
structure Sel(J J':G)(st:St):Prop where
 fz:J'.fz=J.fz
 wd:J'.wd=J.wd
 nf:J'.nf= []
 sel:∀a∈J'.aA,∃i ao,J.aA[i]?=some a/\i< st.n/\st.get i=some ao/\¬ eg ao
 nx:∀i a,st.x=some i->J.aA[i]?=some a->a ∉ J'.aA
theorem Sel.mj(S:Sel J J' st)(R:Rel P J st s){a:Addr}(h:a∈J'.aA):J.fz a=none/\a∈J.aA/\a ∉ J.nf:=by refine qR (S.sel a h) λi ao h1 h2 h3 h4=>?_;exact ⟨R.apart i ao a h2 h3 h1,bx h1,λq=>h4 ((R.nf a q).2.2.2 i ao h2 h3 h1)⟩
theorem Pb(R:Rel P J st s)(F:dB P J c A)(hfr:A.frames=some (envs++P.outer))(hal:ct (cA J) c.ups envs)(S:Sel J J' st)(Ax:bD.objs.WF 11)(zz:bD.bnd.WF 11)(yo:bD.n<=2010)(pU:bD.x=none)(acR:J'.aA.length=bD.n)(acS:J'.iI.length=bD.ni)(acU:J'.vV.length=bD.nv)(acT:J'.tA.length=bD.nv)(acV:J'.aA.Nodup)
  (acY:∀z∈J'.sS,z.length<=10000) (rK:∀j ao,j< bD.n->bD.get j=some ao->∃a o,J'.aA[j]?=some a/\s.heap.get? a=some o/\OR J' o ao) (zy:∀(k:Nat) (lo hi:Int),k< bD.ni->bD.bnd.get k=some (lo,hi)->∃i,J'.iI[k]?=some i/\lo<=i/\i<=hi) (zA:bD.sub= []) (yn:bD.aU= []) (acQ:gh J')
  (d1:c.d<=c'.d) (d2:c.u<=c'.u) (d3:c.hd=false) (d4:c'.ups= []):Rel (P.into s J J' (envs++P.outer) gh gm) J' bD s/\dB (P.into s J J' (envs++P.outer) gh gm) J' c' A:=by
 have ffc:∀env∈envs,env.scope.kind≠ .module/\∃L o,env.frame=some L/\P.W.hL.objs.size<=L/\s.heap.get? L=some o/\(∀vs,o.data≠ .fields vs)/\L ∉ J'.aA/\J.fz L=none:=by
  intro env he;have key:∀{l:List gA} {r:List Env},ct (cA J) l r->∀env∈r,∃e,cA J e env:=by
   intro l r h
   induction h with
   |nil=>intro env he;cases he
   |cons h t ih=>intro env he;rcases jQ.mp he with rfl |he;exact ⟨_,h⟩;exact ih env he
  refine aQ (key hal env he) λe E=>?_;refine bP E.frm λa h1 h2 h3=>?_;obtain ⟨⟨o,q1,q2⟩,q3,q4, -⟩:=R.nf a h3;exact ⟨by refine ae E.kind ?_;decide,a,o,h2,(R.range a q4).1,q1,q2,λq=>(S.mj R q).2.2 h3,q3⟩
 refine ⟨?_,?_⟩
 ·refine {wf:=Ax,eX:=zz,room:=yo,bR:=acR,cY:=acS,lenV:=acU,eU:=acT,old:=R.old,x3:=?_,range:=λa h=>R.range a (S.mj R h).2.1,nodup:=acV,objs:=rK,apart:=λi ao a _ _ h=>?_,fz:=?_,eZ:=?_,dh:=?_,frame:=λb o h _ _ _=>⟨λ_=>h,⟨o.slots,h⟩⟩,size:=cG _,big:=R.big,ff:=?_,exc:=λi h=>(by rw [pU] at h;cases h),fly:=λi C d h=>(by rw [pU] at h;cases h),wd:=S.wd.trans R.wd,ej:=acY,nf:=λa h=>(by rw [S.nf] at h;cases h),gh:=acQ,an:=λa h=>.inl h,gens:=R.gens,os_:=R.os_,bnd:=zy,sub:=λp h=>(by rw [zA] at h;cases h),aU:=λp h=>(by rw [yn] at h;cases h)}
  ·refine am R.x3 λvs h1 h2=>?_
   refine ⟨vs,h1,?_⟩;unfold nC at h2 ⊢;refine ae S.fz ?_;exact h2
  ·refine ae S.fz ?_;exact (S.mj R (bx h)).1
  ·intro a o h;rw [S.fz] at h;exact R.fz a o h
  ·intro a o h;refine ae S.fz ?_;exact h
  ·intro a o h;rw [S.fz] at h;exact .inl h
  ·intro env he
   rcases dZ.mp he with he |he
   ·refine gb (ffc env he) λh1 L o h2 h3 h4 h5 h6 h7=>?_
    exact ⟨h1,L,o,h2,h3,h4,h5,h6,by refine ae S.fz ?_;exact h7⟩
   ·refine gb (R.ff env he) λh1 L o h2 h3 h4 h5 h6 h7=>?_
    exact ⟨h1,L,o,h2,h3,h4,h5,λq=>h6 (S.mj R q).2.1,by refine ae S.fz ?_;exact h7⟩
 ·exact ⟨aI F.depth (jM d1 301),aI F.units d2,λ_=>F.hd d3,[],hfr,by refine ae d4 ?_;exact .nil⟩
noncomputable def G.after(J J'':G)(nA:List Addr)(nI:List Int)(nV:List Value)(nT:List AV):G:={J with aA:=J.aA++nA,iI:=J.iI++nI,vV:=J.vV++nV,tA:=J.tA++nT,fz:=J''.fz}
theorem Qd{J'':G}{st'' st3:St}{s'':Shared}{nA:List Addr}{nI:List Int}{nV:List Value}{nT:List AV}(R:Rel P J st s)(hal:ct (cA J) c.ups envs)(S:Sel J J' st)(hle:J'.Le J'')(R'':Rel (P.into s J J' (envs++P.outer) gh gm) J'' st'' s'')
  (hA:∀a∈nA,a∈J''.aA/\a ∉ J'.aA) (hAn:nA.Nodup) (Ax:st3.objs.WF 11) (zz:st3.bnd.WF 11) (yo:st3.n<=2010) (e_n:st3.n=st.n+nA.length) (acW:st3.ni=st.ni+nI.length) (Kj:st3.nv=st.nv+nV.length) (acX:nT.length=nV.length)
  (rK:∀i ao,i< st3.n->st3.get i=some ao->(i< st.n/\st.get i=some ao/\∀a,J.aA[i]?=some a->a ∉ J'.aA)\/ ∃a o,(J.after J'' nA nI nV nT).aA[i]?=some a/\s''.heap.get? a=some o/\OR (J.after J'' nA nI nV nT) o ao/\a∈J''.aA/\J''.fz a=none)
  (pU:(st3.x=st.x/\st''.x=none)\/ ∃j i a,st''.x=some j/\st3.x=some i/\(J.after J'' nA nI nV nT).aA[i]?=some a/\J''.aA[j]?=some a)
  (abm:∀i C d,st3.x=some i->i< st3.n->st3.get i=some (.exc C d)->isExc C=false)
  (zy:∀(k:Nat) (lo hi:Int),k< st3.ni->st3.bnd.get k=some (lo,hi)->∃i,(J.iI++nI)[k]?=some i/\lo<=i/\i<=hi) (zA:∀p∈st3.sub,(J.iI++nI)[p.1]?=some p.2)
  (yn:∀p∈st3.aU,fF (J.after J'' nA nI nV nT) p):Rel P (J.after J'' nA nI nV nT) st3 s''/\J.Le (J.after J'' nA nI nV nT):=by
 have fW:J.Le (J.after J'' nA nI nV nT):=⟨⟨nA,rfl⟩,⟨nI,rfl⟩,⟨nV,rfl⟩,rfl,rfl,rfl,⟨nT,rfl⟩,λx o h=>hle.fz x o (by refine ae S.fz ?_;exact h),rfl,λ_ h=>h⟩;have an:∀a,a∈J''.aA->a∈J'.aA\/s.heap.objs.size<=a:=λa h=>R''.an a h;have Bk:∀a∈nA,s.heap.objs.size<=a:=λa h=>((an a (hA a h).1).resolve_left (hA a h).2);have uS:∀{a:Addr},a< s.heap.objs.size->a ∉ J'.aA->a ∉ J''.aA:=λh1 h2 h3=>(an _ h3).elim h2 λq=>absurd h1 (cV.mpr q);have dh:∀{a:Addr},a< s.heap.objs.size->a ∉ J'.aA->J.fz a=none->J''.fz a=none:=λ {a} h1 h2 h3=>by
  cases q:J''.fz a with
  |none=>rfl
  |some o=>
   exfalso;rcases R''.dh a o q with z |z |z
   ·have z:J.fz a=some o:=z
    rw [h3] at z;cases z
   ·exact uS h1 h2 z
   ·exact absurd h1 (cV.mpr z)
 have same:∀{a:Addr} {o:Obj},s.heap.get? a=some o->a ∉ J'.aA->J.fz a=none->a≠1056->((st''.x=none\/ ∀env∈envs++P.outer,env.frame≠some a)->s''.heap.get? a=some o)/\∃sl,s''.heap.get? a=some {o with slots:=sl}:=λh1 h2 h3 h4=>R''.frame _ _ h1 (uS (cU h1) h2) h3 h4;have big:=P.W.big;have hi:∀b,P.W.hL.objs.size<=b->b≠1056:=λb q=>rz big q;have EM:∀env∈envs,∀a,env.frame=some a->a∈J.nf:=by
  intro env he;have key:∀{l:List gA} {r:List Env},ct (cA J) l r->∀env∈r,∃e,cA J e env:=by
   intro l r h
   induction h with
   |nil=>intro env he;cases he
   |cons h t ih=>intro env he;rcases jQ.mp he with rfl |he;exact ⟨_,h⟩;exact ih env he
  refine aQ (key hal env he) λe E=>?_;refine bP E.frm λb h1 h2 h3=>?_;intro a ha;rw [h2] at ha;cases ha;exact h3
 have abT:∀a∈J.nf,a ∉ J'.aA:=λa h q=>(S.mj R q).2.2 h;have hsz:s.heap.objs.size<=s''.heap.objs.size:=R''.size;have kept:∀{i:Nat} {ao:AO},i< st.n->st.get i=some ao->(∀a,J.aA[i]?=some a->a ∉ J'.aA)->∃a o,J.aA[i]?=some a/\s''.heap.get? a=some o/\OR J o ao/\J''.fz a=none/\a ∉ J''.aA:=λ {i ao} h1 h2 h3=>by
  refine bp (R.objs i ao h1 h2) λa o q1 q2 q3=>?_;have q4:=h3 a q1;have q5:=R.apart i ao a h1 h2 q1;have q6:=R.range a (bx q1);refine nE (same q2 q4 q5 (hi a q6.1)) λz1 sl z2=>?_;have z3:=dh q6.2 q4 q5;have z4:=uS q6.2 q4
  by_cases w:∀env∈envs++P.outer,env.frame≠some a
  ·exact ⟨a,o,q1,z1 (.inr w),q3,z3,z4⟩
  ·have ⟨env,w1,w2⟩:∃env∈envs++P.outer,env.frame=some a:=by
    refine Classical.byContradiction λq=>w λenv he e=>q ⟨env,he,e⟩
   rcases dZ.mp w1 with w1 |w1
   ·exact ⟨a,_,q1,z2,q3.slots ((R.nf a (EM env w1 a w2)).2.2.2 i ao h1 h2 q1),z3,z4⟩
   ·refine gb (R.ff env w1) λ_ L o' g1 _ _ _ g2 _=>?_
    rw [w2] at g1;cases g1;exact absurd (bx q1) g2
 have get3:∀{i:Nat} {a:Addr},J.aA[i]?=some a->(J.after J'' nA nI nV nT).aA[i]?=some a:=λh=>aN fW.aA h;refine ⟨{wf:=Ax,eX:=zz,room:=yo,bR:=?_,cY:=?_,lenV:=?_,eU:=?_,old:=R''.old,x3:=?_,range:=?_,nodup:=?_,objs:=?_,apart:=?_,fz:=R''.fz,eZ:=λa o h=>fW.fz a o (R.eZ a o h),dh:=?_,frame:=?_,size:=aI R.size hsz,big:=R''.big,ff:=?_,exc:=?_,fly:=abm,wd:=R.wd,ej:=R.ej,nf:=?_,gh:=P.gm fW R.gh,an:=?_,gens:=R''.gens,os_:=R''.os_,bnd:=zy,sub:=zA,aU:=yn},fW⟩
 ·show (J.aA++nA).length=_
  exact ae cJ (ae R.bR (ae e_n rfl))
 ·show (J.iI++nI).length=_
  exact ae cJ (ae R.cY (ae acW rfl))
 ·show (J.vV++nV).length=_
  exact ae cJ (ae R.lenV (ae Kj rfl))
 ·show (J.tA++nT).length=_
  rw [cJ,R.eU,Kj,acX]
 ·refine am R''.x3 λvs h1 h2=>?_
  exact ⟨vs,h1,h2⟩
 ·intro a ha
  rcases dZ.mp ha with ha |ha
  ·exact ⟨(R.range a ha).1,bz (R.range a ha).2 hsz⟩
  ·exact R''.range a (hA a ha).1
 ·show (J.aA++nA).Nodup
  rw [aeo];refine ⟨R.nodup,hAn,λx hx y hy=>?_⟩;rintro rfl;exact absurd (R.range x hx).2 (cV.mpr (Bk x hy))
 ·intro i ao hi hg
  rcases rK i ao hi hg with ⟨h1,h2,h3⟩ | ⟨a,o,h1,h2,h3, -⟩
  ·refine qR (kept h1 h2 h3) λa o q1 q2 q3 _=>?_
   exact ⟨a,o,get3 q1,q2,q3.mono fW⟩
  ·exact ⟨a,o,h1,h2,h3⟩
 ·intro i ao a hi hg ha
  rcases rK i ao hi hg with ⟨h1,h2,h3⟩ | ⟨b,o,h1,h2,h3,h4,h5⟩
  ·refine mF (kept h1 h2 h3) λb o q1 q2 q3 q4 _=>?_
   rw [get3 q1] at ha;cases ha;exact q4
  ·rw [h1] at ha;cases ha;exact h5
 ·intro a o h
  rcases R''.dh a o h with z |z |z
  ·rcases R.dh a o z with q |q |q
   ·exact .inl q
   ·exact .inr (.inl (qg _ q))
   ·exact .inr (.inr q)
  ·rcases an a z with q |q
   ·exact .inr (.inl (qg _ (S.mj R q).2.1))
   ·exact .inr (.inr (aI R.size q))
  ·exact .inr (.inr (aI R.size z))
 ·intro b o h1 h2 h3 h4
  have n1:b ∉ J.aA:=λq=>h2 (qg _ q);have n2:b ∉ J'.aA:=λq=>n1 (S.mj R q).2.1;refine nE (R.frame b o h1 n1 h3 h4) λq1 sl q2=>?_;have n3:J.fz b=none:=by
   cases q:J.fz b with
   |none=>rfl
   |some o'=>
    exfalso;rcases R.dh b o' q with z |z |z
    ·rw [h3] at z;cases z
    ·exact n1 z
    ·exact absurd (cU h1) (cV.mpr z)
  refine nE (same q2 n2 n3 h4) λz1 sl' z2=>?_;refine ⟨λhx=>?_,⟨sl',z2⟩⟩;have hx1:st.x=none\/ ∀env∈P.outer,env.frame≠some b:=by
   rcases hx with hx |hx
   ·rcases pU with ⟨y1, -⟩ | ⟨j,i,a,y1,y2, -⟩
    ·exact .inl (y1▸hx)
    ·rw [y2] at hx;cases hx
   ·exact .inr hx
  refine au (same (q1 hx1) n2 n3 h4) λy1 _=>?_;refine y1 ?_;rcases hx with hx |hx
  ·rcases pU with ⟨-,y⟩ | ⟨j,i,a,y1,y2, -⟩
   ·exact .inl y
   ·rw [y2] at hx;cases hx
  ·refine .inr λenv he=>?_
   rcases dZ.mp he with he |he
   ·intro e
    exact n1 (R.nf b (EM env he b e)).2.2.1
   ·exact hx env he
 ·intro env he
  refine gb (R''.ff env (tn _ he)) λh1 L o h2 h3 h4 h5 h6 h7=>?_;refine gb (R.ff env he) λ_ L' o' g2 _ _ _ g6 _=>?_;rw [h2] at g2;cases g2;refine ⟨h1,L,o,h2,h3,h4,h5,λq=>?_,h7⟩;rcases dZ.mp q with q |q
  ·exact g6 q
  ·exact h6 (hA L q).1
 ·intro i hx
  rcases pU with ⟨y1,y2⟩ | ⟨j,i',a,y1,y2,y3,y4⟩
  ·rw [y1] at hx
   refine am (R.exc i hx) λa q1 E=>?_;have q7:=S.nx i a hx q1;have q8:=R.range a (bx q1);cases E with
   |mk o vs q2 q3 q4 q5 q6=>
    refine ⟨a,get3 q1,.mk o vs (dh q8.2 q7 q2) ((same q3 q7 q2 (hi a q8.1)).1 (.inl y2)) q4 q5 (q6.imp_right λq=>q.imp λv q=>⟨q.1,?_⟩)⟩;cases q.2 with
    |mk T oT ts fl r1 r2 r2' r3 r4 r5 r6 r7 r8=>have n2:T ∉ J'.aA:=λq=>r4 (S.mj R q).2.1;exact .mk T oT ts fl r1 r2 r2' (bz r3 hsz) (λq=>(dZ.mp q).elim r4 λq=>cV.mpr (Bk T q) r3) (dh r3 n2 r5) ((same r6 n2 r5 (hi T r2)).1 (.inl y2)) r7 r8
  ·obtain rfl:=af (y2.symm.trans hx)
   cases R''.excAt y1 y4 with
   |mk o vs q2 q3 q4 q5 q6=>
    refine ⟨a,y3,.mk o vs q2 q3 q4 q5 (q6.imp_right λq=>q.imp λv q=>⟨q.1,?_⟩)⟩;cases q.2 with
    |mk T oT ts fl r1 r2 r2' r3 r4 r5 r6 r7 r8=>exact .mk T oT ts fl r1 r2 (aI R.size r2') r3 (λq=>(dZ.mp q).elim (λq=>cV.mpr r2' (R.range T q).2) λq=>r4 (hA T q).1) r5 r6 r7 r8
 ·intro a ha
  obtain ⟨⟨o,q1,q2⟩,q3,q4,q5⟩:=R.nf a ha;have n2:=abT a ha;have q6:=R.range a q4;refine nE (same q1 n2 q3 (hi a q6.1)) λ_ sl z2=>?_;refine ⟨⟨_,z2,q2⟩,dh q6.2 n2 q3,qg _ q4,λi ao hi hg hb=>?_⟩;rcases rK i ao hi hg with ⟨h1,h2,h3⟩ | ⟨b,o',h1,h2,h3,h4,h5⟩
  ·refine ba (R.objs i ao h1 h2) λb _ w1 _=>?_
   rw [get3 w1] at hb;cases hb;exact q5 i ao h1 h2 w1
  ·rw [h1] at hb;cases hb
   exact absurd h4 (uS q6.2 n2)
 ·intro a ha
  rcases dZ.mp ha with ha |ha
  ·exact R.an a ha
  ·exact .inr (aI R.size (Bk a ha))
end
section
variable{J J':G}{Z:Th}
theorem VR.into{a:AV}{v:Value}(h:Lx J a v):VR J a v:=by
 cases a with
 |none=>exact Eq.symm h▸ .none
 |bool b=>exact Eq.symm h▸ .bool b
 |bM=>exact Exists.elim h λb h=>Eq.symm h▸ .bM b
 |int e=>exact Exists.elim h λi h=>Exists.elim h λt h=>h.1.symm▸ .int t h.2
 |str w=>exact Exists.elim h λx h=>Exists.elim h λt h=>h.1.symm▸ .str t h.2
 |glob a=>exact Eq.symm h▸ .glob a
 |ref i=>exact Exists.elim h λa h=>h.1.symm▸ .ref h.2
 |typ n=>exact Eq.symm h▸ .typ n
 |bi n=>exact Eq.symm h▸ .bi n
 |aY k=>exact Or.elim h (λh=>.aY h.1 h.2.1 h.2.2) λ ⟨O,j,a,h1,h2,h3,h4,h5⟩=>h1▸ .tv h2 h3 h4 h5
 |inst C ns vs=>exact uD.casesOn (motive:=λv _=>VR J (.inst C ns vs) v) h .inst
 |d9 ns vs=>exact vD.casesOn (motive:=λv _=>VR J (.d9 ns vs) v) h .d9
 |bw xs=>exact vF.casesOn (motive:=λv _=>VR J (.bw xs) v) h .bw
 |tup xs=>exact vI.casesOn (motive:=λv _=>VR J (.tup xs) v) h .tup
 |told w=>exact vH.casesOn (motive:=λv _=>VR J (.told w) v) h .told
noncomputable def OW.ev(J:G)(w:OW):Option (Option Int):=OW.rec (motive:=λ_=>Option (Option Int)) (λk=>J.oO[k]?) (some none) (λe=>ob (e.ev J) λi=>some (some i)) w
noncomputable def NW.val(g:Nat->Option Int)(n:NW):Option Note:=NW.rec (motive:=λ_=>Option Note) (λe=>ob (e.val g) λi=>some (.int i)) (λs l=>ob (bX (AI.val g) l) λl=>some (.row s l)) n
noncomputable def NW.ev(J:G)(n:NW):Option Note:=n.val λk=>J.iI[k]?
noncomputable def ss{Y:Type}(P:Nat->Y->Prop)(l:List Y):Nat->Prop:=aW (λ_=>True) (λa _ f b=>P b a/\f (b+1)) l
theorem acC{Y:Type}{P:Nat->Y->Prop}{l:List Y}{b:Nat}(h:ss P l b)(k:Nat)(a:Y)(e:nth l k=some a):P (b+k) a:=by
 induction l generalizing b k with
 |nil=>exact aD e
 |cons x r ih=>
  cases k with
  |zero=>exact af e▸h.1
  |succ k=>exact dx b k 1▸ih h.2 k e
theorem aS{Y:Type}{P:Nat->Y->Prop}{b:Nat}:ss P [] b:=trivial
theorem aO{Y:Type}{P:Nat->Y->Prop}{a:Y}{l:List Y}{b:Nat}(h:P b a)(t:ss P l (b+1)):ss P (a::l) b:=⟨h,t⟩
theorem aR{Y:Type}{P:Nat->Y->Prop}{l:List Y}(h:ss P l 0)(k:Nat)(a:Y)(e:nth l k=some a):P k a:=bJ k▸acC h k a e
noncomputable def lC(J:G)(o:Option Nat)(N:List Note):Prop:=f0 (motive:=λ_=>Prop) o (N= []) λi=>J.pP[i]?=some N
inductive jk(J J':G)(k:Nat)(q:Option Nat×List NW):Prop
 |mk (N ns:List Note) (h1:lC J q.1 N) (h2:bX (NW.ev J) q.2=some ns) (h3:J'.pP[k]?=some (N++ns)) (h4:(N++ns).length<=8000000):jk J J' k q
inductive bS(J':G)(ps:List AV)(J:G)(qs:List AV):Prop
 |mk (h1:∀vs,ay J' ps vs↔ay J qs vs) (h2:∀en ns,df J' en ns ps↔df J en ns qs):bS J' ps J qs
inductive aV(J':G)(p:AV)(J:G)(q:AV):Prop
 |mk (h1:isAny p=isAny q) (h2:∀v,VR J' p v↔VR J q v):aV J' p J q
noncomputable def Free(r:Bool)(T:AV):Prop:=∀J J':G,J'.fz=J.fz->(r=true->∃a,J.aA[7]?=some a/\J'.aA[7]?=some a)->aV J' T J T
noncomputable def IW(J:G)(t:TW)(T:AV):Prop:=TW.rec (motive:=λ_=>Prop) (λi=>J.tA[i]?=some T) (λO a=>a=T/\fS O T=true) t
inductive lu(J J':G)(j:Nat)(t:TW):Prop
 |mk (T:AV) (r:Bool) (h1:J'.tA[j]?=some T) (h2:Free r T) (h3:r=true->∃a,J.aA[7]?=some a/\J'.aA[7]?=some a) (h4:IW J t T):lu J J' j t
inductive dF(J:G)(v:Value):AV->Prop
 |ref {i:Nat} {x:Addr} (h:J.aA[i]?=some x) (e:v= .ref x):dF J v (.ref i)
 |aY {k:Nat} (hk:k< 1000000) (h:J.vV[k]?=some v):dF J v (.aY k)
 |none (e:v= .none):dF J v .none
structure CorrD(J:G)(Z:Th)(J':G):Prop where
 iw:∀k e,nth Z.iw k=some e->∃i,J'.iI[k]?=some i/\e.ev J=some i
 sw:∀k w,nth Z.sw k=some w->∃i,J'.sS[k]?=some i/\w.ev J=some i
 vw:∀k a,nth Z.vw k=some a->∃v,J'.vV[k]?=some v/\handedIn v=true/\dF J v a
 ow:∀k w,nth Z.ow k=some w->∃i,J'.oO[k]?=some i/\w.ev J=some i
 pw:∀k q,nth Z.pw k=some q->jk J J' k q
 tw:∀j t,nth Z.tw j=some t->lu J J' j t
 fz:J'.fz=J.fz
 wd:J'.wd=J.wd
structure dX(J:G)(Z:Th)(J':G):Prop extends CorrD J Z J' where
 ob:∀j i,nth Z.ob j=some i->J'.aA[j]?=J.aA[i]?
theorem dF.iff{v0 v:Value}{a:AV}(h:dF J v0 a)(hh:handedIn v0=true):(v=v0)↔VR J a v:=by
 cases h with
 |ref h e=>exact ⟨λq=>q.trans e▸ .ref h,λq=>by obtain ⟨b,e',h'⟩:=q.mP;exact e'.trans (af (h'.symm.trans h)▸e.symm)⟩
 |aY hk h=>
  refine ⟨λq=>q▸ .aY h hh hk,λq=>?_⟩;obtain q | ⟨O,j,T,q, -⟩:=q.out
  ·exact af (q.1.symm.trans h)
  ·exact (Aj (dy (ck q.symm) hk)).elim
 |none e=>exact ⟨λq=>VR.into (a:=.none) (q.trans e),λq=>Eq.trans q.out e.symm⟩
theorem aaJ(C:∀k e,nth Z.iw k=some e->∃i,J'.iI[k]?=some i/\e.ev J=some i)(p:AI):∀q,nZ Z p=some q->p.ev J'=q.ev J:=by
 have two:∀{a b:AI} (f g:AI->AI->AI) (hf:f=g),(∀q,nZ Z a=some q->a.ev J'=q.ev J)->(∀q,nZ Z b=some q->b.ev J'=q.ev J)->∀q,(ob (nZ Z a) λx=>ob (nZ Z b) λy=>some (f x y))=some q->∃x y,q=f x y/\a.ev J'=x.ev J/\b.ev J'=y.ev J:=λf g hf ha hb q h=>by refine ah h λx h1 h=>?_;refine ah h λy h2 h=>?_;exact ⟨x,y,(af h).symm,ha x h1,hb y h2⟩
 induction p with
 |lit i=>exact λq h=>af h▸rfl
 |var k=>exact λq h=>Exists.elim (C k q h) λi z=>z.1.trans z.2.symm
 |add a b ha hb=>intro q h;refine bp (two .add _ rfl ha hb q h) λx y ai h1 h2=>?_;have aa:=ai;clear h ai;subst aa;exact (congrArg (λo=>ob o λx=>ob (b.ev J') λy=>some (x+y)) h1).trans (congrArg (λo=>ob (x.ev J) λx=>ob o λy=>some (x+y)) h2)
 |mul a b ha hb=>intro q h;refine bp (two .mul _ rfl ha hb q h) λx y ai h1 h2=>?_;have aa:=ai;clear h ai;subst aa;exact (congrArg (λo=>ob o λx=>ob (b.ev J') λy=>some (x* y)) h1).trans (congrArg (λo=>ob (x.ev J) λx=>ob o λy=>some (x* y)) h2)
 |md a m ha=>intro q h;refine ah h λx h1 h=>?_;exact af h▸congrArg (λo=>ob o λx=>some (wP x m)) (ha x h1)
 |dv a m ha=>intro q h;refine ah h λx h1 h=>?_;exact af h▸congrArg (λo=>ob o λx=>some (qE x m)) (ha x h1)
theorem aaE(p s:List Nat)(w:SW):(KY p s w).ev J=ob (w.ev J) λx=>some (p++(x++s)):=by
 cases w with
 |lit x=>exact congrArg some ((cW _ _).trans (congrArg _ (cW _ _)))
 |var a k b=>
  show ob J.sS[k]? (λx=>some (app p a++(x++app b s)))=ob (ob J.sS[k]? λx=>some (a++(x++b))) λx=>some (p++(x++s));rw [cW,cW];cases J.sS[k]? with
  |none=>rfl
  |some x=>exact congrArg some (by simp only [jO])
theorem G1(C:CorrD J Z J'){p q:SW}(h:s8 Z p=some q):p.ev J'=q.ev J:=by
 cases p with
 |lit s=>exact af h▸rfl
 |var p k s=>refine ah h λw h1 h2=>?_;exact af h2▸(congrArg (λo=>ob o λx=>some (p++(x++s))) (Exists.elim (C.sw k w h1) λi z=>z.1.trans z.2.symm)).trans (aaE p s w).symm
theorem kY{O j:Nat}{v:Value}(hj:j< 1000000):VR J (.aY (gM O j)) v↔ ∃T,J.tA[j]?=some T/\fS O T=true/\VR J T v:=by
 refine ⟨λh=>?_,λ ⟨T,h1,h2,h3⟩=>.tv h1 hj h2 h3⟩;have no:¬ gM O j< 1000000:=λh=>Aj h;obtain h | ⟨O',j',T,h1,h2,h3,h4,h5⟩:=h.out
 ·exact absurd h.2.2 no
 ·unfold gM at h1
  obtain ⟨rfl,rfl⟩:=aaM hj h1 h3;exact ⟨T,h2,h4,h5⟩
theorem Ed{a q:AV}(h:zT a=some q):a=q/\isAny q=false:=by refine eO h λh1 h2=>?_;have aa:=af h2;clear h h2;subst aa;exact ⟨rfl,h1⟩
theorem G0(C:CorrD J Z J'){k:Nat}{q:AV}(h:v7 Z k=some q):isAny q=false/\∀v,VR J' (.aY k) v↔VR J q v:=by
 unfold v7 at h;cases c:bh k 1000000 with
 |true=>rw [c] at h;refine ah h λa h1 h2=>?_;refine au (Ed h2) λaZ h3=>?_;have aa:=aZ;clear h h2 aZ;subst aa;have hk:=d7.mp c;refine bP (C.vw k a h1) λv0 g1 g2 g3=>?_;exact ⟨h3,λv=>(dF.iff (.aY hk g1) g2).symm.trans (g3.iff g2)⟩
 |false=>
  rw [c] at h;refine ah h λt h1 h2=>?_;have hl:=aed (k:=k) λh=>cH ((d7.mpr h).symm.trans c);have hk:k=gM (k / 1000000 - 1) (k % 1000000):=yU hl;have hm:k % 1000000< 1000000:=CM _ (by decide);have up:∀v,VR J' (.aY k) v↔ ∃T,J'.tA[k % 1000000]?=some T/\fS (k / 1000000 - 1) T=true/\VR J' T v:=λv=>by
   conv=>lhs;rw [hk]
   exact kY hm
  have hd:∀{d:Nat},k / 1000000=d+1->k / 1000000 - 1=d:=λh=>by refine ae h ?_;rfl
  cases C.tw _ t h1 with
  |mk T r g1 g2 g3 g4=>
   have F:=λv=>aV.casesOn (motive:=λ_=>VR J' T v↔VR J T v) (g2 J J' C.fz g3) λ_ h=>h v;cases t with
   | «at» i=>refine bb h2 λh3 h4=>?_;have aa:=af h4;clear h h2 h4;subst aa;have e:1000000* (k / 1000000)+i=gM (k / 1000000 - 1) i:=congrArg (1000000* · +i) hl;refine ⟨rfl,λv=>(up v).trans (Iff.trans ?_ (e▸(kY (d7.mp h3)).symm))⟩;exact ⟨λ ⟨U,a,b,c⟩=>⟨U,Eq.trans g4 (g1.symm.trans a),b,af (g1.symm.trans a)▸(F v).1 (af (g1.symm.trans a)▸c)⟩,λ ⟨U,a,b,c⟩=>⟨U,g1.trans (Eq.trans (Eq.symm g4) a),b,af (Eq.trans (Eq.symm g4) a)▸(F v).2 (af (Eq.trans (Eq.symm g4) a)▸c)⟩⟩
   |tree O a=>refine bb h2 λh3 h4=>?_;refine au (Ed h4) λaZ h5=>?_;have aa:=aZ;clear h h2 h4 aZ;subst aa;refine au g4 λaZ g5=>?_;subst aZ;have hτ:=hd (aH h3);exact ⟨h5,λv=>(up v).trans (hτ▸⟨λ ⟨U,a,b,c⟩=>(F v).1 (af (g1.symm.trans a)▸c),λh=>⟨_,g1,g5,(F v).2 h⟩⟩)⟩
theorem wY{a:AV}(h:isAny a=true):a= .bM:=by cases a<;>first |rfl |exact aE h
theorem TL{p q:AV}(h:isAny p=isAny q):p= .bM->q= .bM:=λe=>wY (h.symm.trans (e▸rfl))
theorem aV.sym{p q:AV}(h:aV J' p J q):aV J q J' p:=aV.casesOn h λh1 h2=>⟨h1.symm,λv=>(h2 v).symm⟩
theorem bS.sym{p q:List AV}(h:bS J' p J q):bS J q J' p:=bS.casesOn h λh1 h2=>⟨λv=>(h1 v).symm,λe n=>(h2 e n).symm⟩
theorem bu:bS J' [] J []:=⟨λvs=>⟨λh=>h.e0 .nil,λh=>h.e0 .nil⟩,λen ns=>⟨λh=>by cases h with |nil=>exact .nil,λh=>by cases h with |nil=>exact .nil⟩⟩
theorem uz{p q:AV}{ps qs:List AV}(h:aV J' p J q)(t:bS J' ps J qs):(∀vs,ay J' (p::ps) vs->ay J (q::qs) vs)/\∀en ns,df J' en ns (p::ps)->df J en ns (q::qs):=by
 cases h with
 |mk h1 h2=>
  cases t with
  |mk t1 t2=>
   exact ⟨λvs h=>h.e (m:=λvs=>ay J (q::qs) vs) λv r a b=>.cons ((h2 v).1 a) ((t1 r).1 b),λen ns h=>by
    cases h with
    |cons hx hv hf a b=>exact .cons hx hv (λz1 z2=>TL h1 (hf z1 z2)) ((h2 _).1 a) ((t2 _ _).1 b)⟩
theorem aC{p q:AV}{ps qs:List AV}(h:aV J' p J q)(t:bS J' ps J qs):bS J' (p::ps) J (q::qs):=⟨λvs=>⟨(uz h t).1 vs,(uz h.sym t.sym).1 vs⟩,λen ns=>⟨(uz h t).2 en ns,(uz h.sym t.sym).2 en ns⟩⟩
theorem oK(hf:J'.fz=J.fz){C:Nat}{ns:List Nm}{ps qs:List AV}(t:bS J' ps J qs){v:Value}(h:VR J' (.inst C ns ps) v):VR J (.inst C ns qs) v:=by
 cases t with
 |mk t1 t2=>
  cases h.pp with
  |mk h1 h2 h3 h4 h5 h6 h8 h9 hz k=>exact .inst (hf▸h1) h2 h3 h4 (hf▸h5) h6 h8 h9 hz ((t2 _ _).1 k)
theorem tV(hf:J'.fz=J.fz){ns:List Nm}{ps qs:List AV}(t:bS J' ps J qs){v:Value}(h:VR J' (.d9 ns ps) v):VR J (.d9 ns qs) v:=by
 cases t with
 |mk t1 t2=>
  cases h.LL with
  |mk h1 h2 h6 h8 h9 k hn=>exact .d9 (hf▸h1) h2 h6 h8 h9 ((t2 _ _).1 k) hn
theorem jd(hf:J'.fz=J.fz){ps qs:List AV}(t:bS J' ps J qs){v:Value}(h:VR J' (.bw ps) v):VR J (.bw qs) v:=by
 cases t with
 |mk t1 t2=>
  cases h.sH with
  |mk h1 k=>exact .bw (hf▸h1) ((t1 _).1 k)
theorem pc(hf:J'.fz=J.fz){ps qs:List AV}(t:bS J' ps J qs){v:Value}(h:VR J' (.tup ps) v):VR J (.tup qs) v:=by
 cases t with
 |mk t1 t2=>
  cases h.B5 with
  |mk h1 h2 h3 k=>exact .tup (hf▸h1) h2 h3 ((t1 _).1 k)
theorem nc{w u:SW}(e:w.ev J'=u.ev J){v:Value}(h:VR J' (.str w) v):VR J (.str u) v:=h.eStr (m:=λv=>VR J (.str u) v) λx t q=>.str t (e.symm.trans q)
theorem gV{w u:AI}(e:w.ev J'=u.ev J){v:Value}(h:VR J' (.int w) v):VR J (.int u) v:=h.acN (m:=λv=>VR J (.int u) v) λx t q=>.int t (e.symm.trans q)
theorem pa{i j:Nat}(e:J'.aA[j]?=J.aA[i]?){v:Value}(h:VR J' (.ref j) v):VR J (.ref i) v:=h.acP (m:=λv=>VR J (.ref i) v) λa q=>.ref (e.symm.trans q)
theorem ub(hf:J'.fz=J.fz){w u:SW}(e:w.ev J'=u.ev J){v:Value}(h:VR J' (.told w) v):VR J (.told u) v:=by
 cases h.BZ with
 |mk h1 h2 h3 h4 h5 h6 k=>exact .told (hf▸h1) (hf▸h2) h3 (hf▸h4) h5 h6 (nc e k)
theorem pJ(C:dX J Z J')(p:AV):∀q,kW Z p=some q->aV J' p J q:=by
 have hs:=C.fz.symm;refine AV.rec (motive_1:=λp=>∀q,kW Z p=some q->aV J' p J q) (motive_2:=λps=>∀qs,vB Z ps=some qs->bS J' ps J qs) ?_ ?_ ?_ ?_ ?_ ?_ ?_ ?_ ?_ ?_ ?_ ?_ ?_ ?_ ?_ ?_ ?_ p
 ·exact λq h=>af h▸⟨rfl,λv=>⟨λh=>VR.into (a:=.none) h.out,λh=>VR.into (a:=.none) h.out⟩⟩
 ·exact λb q h=>af h▸⟨rfl,λv=>⟨λh=>VR.into (a:=.bool b) h.out,λh=>VR.into (a:=.bool b) h.out⟩⟩
 ·exact λq h=>af h▸⟨rfl,λv=>⟨λh=>VR.into (a:=.bM) h.out,λh=>VR.into (a:=.bM) h.out⟩⟩
 ·intro e q h
  refine ah h λx h1 h2=>?_;have w:=aaJ C.iw e x h1;exact af h2▸⟨rfl,λv=>⟨gV w,gV w.symm⟩⟩
 ·intro e q h
  refine ah h λx h1 h2=>?_;have w:=G1 C.toCorrD h1;exact af h2▸⟨rfl,λv=>⟨nc w,nc w.symm⟩⟩
 ·exact λn q h=>af h▸⟨rfl,λv=>⟨λh=>VR.into (a:=.glob n) h.out,λh=>VR.into (a:=.glob n) h.out⟩⟩
 ·intro j q h
  refine ah h λi h1 h2=>?_;exact af h2▸⟨rfl,λv=>⟨pa (C.ob j i h1),pa (C.ob j i h1).symm⟩⟩
 ·exact λn q h=>af h▸⟨rfl,λv=>⟨λh=>VR.into (a:=.typ n) h.out,λh=>VR.into (a:=.typ n) h.out⟩⟩
 ·exact λn q h=>af h▸⟨rfl,λv=>⟨λh=>VR.into (a:=.bi n) h.out,λh=>VR.into (a:=.bi n) h.out⟩⟩
 ·exact λk q h=>⟨(G0 C.toCorrD h).1.symm,(G0 C.toCorrD h).2⟩
 ·intro D ns vs ih q h
  refine ah h λl h1 h2=>?_;exact af h2▸⟨rfl,λv=>⟨oK C.fz (ih l h1),oK hs (ih l h1).sym⟩⟩
 ·intro ns vs ih q h
  refine ah h λl h1 h2=>?_;exact af h2▸⟨rfl,λv=>⟨tV C.fz (ih l h1),tV hs (ih l h1).sym⟩⟩
 ·intro vs ih q h
  refine ah h λl h1 h2=>?_;exact af h2▸⟨rfl,λv=>⟨jd C.fz (ih l h1),jd hs (ih l h1).sym⟩⟩
 ·intro vs ih q h
  refine ah h λl h1 h2=>?_;exact af h2▸⟨rfl,λv=>⟨pc C.fz (ih l h1),pc hs (ih l h1).sym⟩⟩
 ·intro e q h
  refine ah h λx h1 h2=>?_;have w:=G1 C.toCorrD h1;exact af h2▸⟨rfl,λv=>⟨ub C.fz w,ub hs w.symm⟩⟩
 ·exact λq h=>af h▸bu
 ·intro a r ha hr q h
  refine ah h λx h1 h=>?_;refine ah h λy h2 h=>?_;exact af h▸aC (ha x h1) (hr y h2)
theorem aec(C:dX J Z J')(ps:List AV):∀qs,vB Z ps=some qs->bS J' ps J qs:=by
 induction ps with
 |nil=>exact λq h=>af h▸bu
 |cons a r ih=>intro q h;refine ah h λx h1 h=>?_;refine ah h λy h2 h=>?_;exact af h▸aC (pJ C a x h1) (ih y h2)
theorem pK(C:dX J Z J'){p q:AV}(h:kW Z p=some q){v:Value}:VR J' p v↔VR J q v:=aV.casesOn (pJ C p q h) λ_ h=>h v
theorem cm(s:List Nat):aV J' (.str (.lit s)) J (.str (.lit s)):=⟨rfl,λv=>⟨nc (J':=J') (J:=J) rfl,nc (J':=J) (J:=J') rfl⟩⟩
theorem yM(i:Int):aV J' (.int (.lit i)) J (.int (.lit i)):=⟨rfl,λv=>⟨gV (J':=J') (J:=J) rfl,gV (J':=J) (J:=J') rfl⟩⟩
theorem ES{b:Bool}(T:AV):nl b T=true->Free b T:=by
 refine λh J J' hf h7=>?_;have hs:=hf.symm;refine AV.rec (motive_1:=λT=>nl b T=true->aV J' T J T) (motive_2:=λTs=>nl b (.bw Ts)=true->bS J' Ts J Ts) ?_ ?_ ?_ ?_ ?_ ?_ ?_ ?_ ?_ ?_ ?_ ?_ ?_ ?_ ?_ ?_ ?_ T h
 ·exact λ_=>⟨rfl,λv=>⟨λh=>VR.into (a:=.none) h.out,λh=>VR.into (a:=.none) h.out⟩⟩
 ·exact λc _=>⟨rfl,λv=>⟨λh=>VR.into (a:=.bool c) h.out,λh=>VR.into (a:=.bool c) h.out⟩⟩
 ·exact λ_=>⟨rfl,λv=>⟨λh=>VR.into (a:=.bM) h.out,λh=>VR.into (a:=.bM) h.out⟩⟩
 ·exact λe h=>by obtain ⟨i,h1, -⟩:=bI h;exact gg h1▸yM i
 ·exact λe h=>by obtain ⟨i,h1, -⟩:=bI h;exact ij h1▸cm i
 ·exact λn _=>⟨rfl,λv=>⟨λh=>VR.into (a:=.glob n) h.out,λh=>VR.into (a:=.glob n) h.out⟩⟩
 ·intro j h
  refine aB h λh1 h2=>?_;refine am (h7 h1) λa z1 z2=>?_;exact aH h2▸⟨rfl,λv=>⟨pa (z2.trans z1.symm),pa (z1.trans z2.symm)⟩⟩
 ·exact λn _=>⟨rfl,λv=>⟨λh=>VR.into (a:=.typ n) h.out,λh=>VR.into (a:=.typ n) h.out⟩⟩
 ·exact λn _=>⟨rfl,λv=>⟨λh=>VR.into (a:=.bi n) h.out,λh=>VR.into (a:=.bi n) h.out⟩⟩
 ·exact λk h=>aE h
 ·exact λD ns vs ih h=>⟨rfl,λv=>⟨oK hf (ih h),oK hs (ih h).sym⟩⟩
 ·exact λns vs ih h=>⟨rfl,λv=>⟨tV hf (ih h),tV hs (ih h).sym⟩⟩
 ·exact λvs ih h=>⟨rfl,λv=>⟨jd hf (ih h),jd hs (ih h).sym⟩⟩
 ·exact λvs ih h=>⟨rfl,λv=>⟨pc hf (ih h),pc hs (ih h).sym⟩⟩
 ·exact λe h=>by obtain ⟨i,h1, -⟩:=bI h;exact ij h1▸⟨rfl,λv=>⟨ub hf (w:=.lit i) rfl,ub hs (w:=.lit i) rfl⟩⟩
 ·exact λ_=>bu
 ·exact λa r ha hr h=>aC (ha (bq h).1) (hr (bq h).2)
end
section
variable{J J':G}{Z:Th}
theorem Rk{v:AV}{l:Nat}(h:Hr v=some l):v= .bi l:=by cases v<;>first |exact aD h |exact congrArg _ (af h)
theorem w5{v:AV}{l:Nat}(h:gx v=some l):v= .aY l:=by cases v<;>first |exact aD h |exact congrArg _ (af h)
theorem Q3{v:AV}{l:SW}(h:toldOf v=some l):v= .told l:=by cases v<;>first |exact aD h |exact congrArg _ (af h)
theorem Us{v:AV}{q:List Nm×List AV}(h:fdOf v=some q):v= .d9 q.1 q.2:=by cases v<;>first |exact aD h |exact af h▸rfl
theorem DJ{a:AO}{q:Nat×Bool×List (Nm×EV)}(h:dU a=some q):a= .dict q.1 q.2.1 q.2.2:=by cases a<;>first |exact aD h |exact af h▸rfl
noncomputable def su(J:G)(g:AI->AV)(k:Nat)(r:Option Value):Prop:=∃o,J.oO[k]?=some o/\f0 (motive:=λ_=>Prop) o (r=none) λi=>∃v,r=some v/\VR J (g (.lit i)) v
theorem Gx{k:Nat}{r:Option Value}:DR J (some (.ov k)) r↔su J cD k r:=by constructor<;>(refine λh=>h.imp λo h=>⟨h.1,?_⟩;cases o<;>exact h.2)
theorem Gv{k:Nat}{r:Option Value}:DR J (some (.oi k)) r↔su J .int k r:=by
 constructor<;>refine λh=>h.imp λo h=>⟨h.1,?_⟩
 ·cases o with
  |none=>exact h.2
  |some i=>exact Exists.elim h.2 λt e=>⟨_,e,.int t rfl⟩
 ·cases o with
  |none=>exact h.2
  |some i=>refine am h.2 λv e hv=>?_;refine ba hv.int_inv λj t ai q=>?_;have aa:=ai;clear hv ai;subst aa;exact ⟨t,af q▸e⟩
structure As(J:G)(g:AI->AV):Prop where
 to:∀e e':AI,e.ev J=e'.ev J->∀v,VR J (g e) v->VR J (g e') v
 has:∀e v,VR J (g e) v->∃i,e.ev J=some i
theorem SX:As J .int:=⟨λe e' q v h=>gV q h,λe v h=>by obtain ⟨i,t, -,q⟩:=h.int_inv;exact ⟨i,q⟩⟩
theorem Wp{e:AI}{v:Value}(h:VR J (cD e) v):∃i,e.ev J=some i:=by
 unfold cD at h;cases h.pp with
 |mk h1 h2 h3 h4 h5 h6 h8 h9 hz r=>
  refine tF r.c λ_ _ x1 v1 e0 a1 a2 a3 a4 r1=>?_;have aa:=(jS.inj e0).2;clear e0;subst aa;refine tF r1.c λ_ _ x2 v2 e1 b1 b2 b3 b4 r2=>?_;obtain rfl:=(jS.inj e1).1;cases b4.sH with
  |mk z1 z2=>refine am z2.l1 λx _ hx=>?_;refine ba hx.int_inv λi t _ q=>?_;exact ⟨i,q⟩
theorem SY:As J cD:=⟨λe e' q v h=>yV h λi hi=>q▸hi,λe v h=>Wp h⟩
theorem Io{g:AI->AV}{k:Nat}{w:OW}(f:Nat->EV)(S:As J g)(hg:∀i v,VR J' (g (.lit i)) v↔VR J (g (.lit i)) v)(hf:∀k r,DR J (some (f k)) r↔su J g k r)(e:J'.oO[k]?=w.ev J)(r:Option Value):su J' g k r↔DR J (Be f g w) r:=by
 have here:∀{o:Option Int},J'.oO[k]?=some o->(su J' g k r↔f0 (motive:=λ_=>Prop) o (r=none) λi=>∃v,r=some v/\VR J (g (.lit i)) v):=λ {o} q=>by
  have step:∀o,(f0 (motive:=λ_=>Prop) o (r=none) λi=>∃v,r=some v/\VR J' (g (.lit i)) v)↔f0 (motive:=λ_=>Prop) o (r=none) λi=>∃v,r=some v/\VR J (g (.lit i)) v:=λo=>by
   cases o with
   |none=>exact Iff.rfl
   |some i=>exact exists_congr λv=>and_congr_right λ_=>hg i v
  exact ⟨λ ⟨o',a,b⟩=>(step o).1 (af (q.symm.trans a)▸b),λh=>⟨o,q,(step o).2 h⟩⟩
 cases w with
 |cp j=>
  refine Iff.trans ?_ (hf j r).symm;cases q:J.oO[j]? with
  |none=>exact ⟨λ ⟨o,a,_⟩=>aD ((Eq.trans e q).symm.trans a),λ ⟨o,a,_⟩=>aD (q.symm.trans a)⟩
  |some o=>exact (here (Eq.trans e q)).trans ⟨λh=>⟨o,q,h⟩,λ ⟨o',a,b⟩=>af (q.symm.trans a)▸b⟩
 |no=>exact here e
 |int x=>
  cases q:x.ev J with
  |none=>exact ⟨λ ⟨o,a,_⟩=>aD ((Eq.trans e (congrArg (λo=>ob o λi=>some (some i)) q)).symm.trans a),λ ⟨v,_,b⟩=>Exists.elim (S.has x v b) λi z=>aD (q.symm.trans z)⟩
  |some i=>exact (here (Eq.trans e (congrArg (λo=>ob o λi=>some (some i)) q))).trans (exists_congr λv=>and_congr_right λ_=>⟨S.to (.lit i) x q.symm v,S.to x (.lit i) q v⟩)
theorem aeb(C:dX J Z J'){p:EV}{o:Option EV}(h:Mo Z p=some o)(r:Option Value):DR J' (some p) r↔DR J o r:=by
 cases p with
 |val a=>refine ah h λx h1 h2=>?_;exact af h2▸exists_congr λv=>and_congr_right λ_=>pK C h1
 |unk=>exact af h▸Iff.rfl
 |ov k=>refine ah h λw h1 h2=>?_;exact af h2▸Gx.trans (Io .ov SY (λi v=>pK C rfl) (λ_ _=>Gx) (Exists.elim (C.ow k w h1) λi z=>z.1.trans z.2.symm) r)
 |oi k=>refine ah h λw h1 h2=>?_;exact af h2▸Gv.trans (Io .oi SX (λi v=>pK C rfl) (λ_ _=>Gv) (Exists.elim (C.ow k w h1) λi z=>z.1.trans z.2.symm) r)
theorem lb{Y:Type}{o:Option Y}(h:ji o=true):o=none:=by
 cases o with
 |none=>rfl
 |some a=>exact aE h
theorem aea(C:dX J Z J')(p:List (Nm×EV)):∀q,Mn Z p=some q->q.length<=p.length/\∀n r,DR J' (lk n p) r↔DR J (lk n q) r:=by
 induction p with
 |nil=>exact λq h=>af h▸⟨cG _,λn r=>Iff.rfl⟩
 |cons a t ih=>
  intro q h;obtain ⟨m,e⟩:=a;refine am (cz h) λx h1 h=>?_;refine am (cz h) λs h2 h=>?_;refine au (ih s h2) λl g=>?_;have k:=aeb C h1;cases x with
  |some e'=>
   have aa:=af h;clear h;subst aa;refine ⟨i7 l,λn r=>?_⟩;rw [jZ,jZ];cases ag n m with
   |true=>exact k r
   |false=>exact g n r
  |none=>
   refine au (fu h) λh3 h4=>?_;have aa:=af h4;clear h h4;subst aa;refine ⟨k9 l,λn r=>?_⟩;rw [jZ];cases c:ag n m with
   |true=>exact (k r).trans (by have z:=g m r;rw [show lk m t=none from lb h3] at z;rw [aH c];exact z)
   |false=>exact g n r
theorem rh{as bs:List AV}{vs:List Value}:ay J (as++bs) vs↔ ∃p q,vs=p++q/\ay J as p/\ay J bs q:=by
 refine ⟨λh=>?_,λ ⟨p,q,e,h1,h2⟩=>e▸h2.append h1⟩
 induction as generalizing vs with
 |nil=>exact ⟨[],vs,rfl,.nil,h⟩
 |cons a r ih=>refine bp (ay.c h) λv w ai h1 h2=>?_;have aa:=ai;clear ai;subst aa;refine bp (ih h2) λp q ai h3 h4=>?_;have aa:=ai;clear h2 ai;subst aa;exact ⟨v::p,q,rfl,.cons h1 h3,h4⟩
theorem Fm{k:Nat}{N:List Note}{xs:List AV}{vs:Array Value}(h:J.pP[k]?=some N)(l:N.length<=8000000):Ar J k xs vs↔ay J (N.map Note.av++xs) vs.toList:=by
 refine Iff.trans ⟨λq=>?_,λ ⟨p,q,e,h1,h2⟩=>⟨N,p,q,h,l,e,h1,h2⟩⟩ rh.symm;cases q with
 |mk N' p q h1 h2 h3 h4 h5=>exact ⟨p,q,h3,af (h1.symm.trans h)▸h4,h5⟩
theorem Fx{as bs cs ds:List AV}(h:bS J' as J bs)(e:as.length=bs.length)(b1:∀vs,ay J' cs vs↔ay J ds vs):∀vs,ay J' (as++cs) vs↔ay J (bs++ds) vs:=λvs=>by
 cases h with
 |mk a1 _=>exact rh.trans (Iff.trans (exists_congr λp=>exists_congr λq=>and_congr_right λ_=>and_congr (a1 p) (b1 q)) rh.symm)
theorem U7(hf:J'.fz=J.fz){l:List AI}:∀{r:List Int},bX (AI.ev J) l=some r->bS J' (r.map λi=>.int (.lit i)) J (mp (λe=>.int e) l):=by
 induction l with
 |nil=>exact λh=>af h▸bu
 |cons e l ih=>intro r h;refine ah h λi h1 h=>?_;refine ah h λs h2 h=>?_;exact af h▸aC ⟨rfl,λv=>⟨gV (w:=.lit i) (u:=e) h1.symm,gV (w:=e) (u:=.lit i) h1⟩⟩ (ih h2)
theorem Vl(hf:J'.fz=J.fz){n:NW}{m:Note}(h:n.ev J=some m):aV J' m.av J (sZ n):=by
 cases n with
 |int e=>refine ah h λi h1 h=>?_;exact af h▸⟨rfl,λv=>⟨gV (w:=.lit i) (u:=e) h1.symm,gV (w:=e) (u:=.lit i) h1⟩⟩
 |row s l=>refine ah h λr h1 h=>?_;have t:bS J' (.str (.lit s)::r.map λi=>.int (.lit i)) J (.str (.lit s)::mp (λe=>.int e) l):=aC (cm s) (U7 hf h1);exact af h▸⟨rfl,λv=>⟨jd hf t,jd hf.symm t.sym⟩⟩
theorem SI(hf:J'.fz=J.fz){l:List NW}:∀{r:List Note},bX (NW.ev J) l=some r->bS J' (r.map Note.av) J (mp sZ l):=by
 induction l with
 |nil=>exact λh=>af h▸bu
 |cons e l ih=>intro r h;refine ah h λi h1 h=>?_;refine ah h λs h2 h=>?_;exact af h▸aC (Vl hf h1) (ih h2)
theorem QB(hf:J'.fz=J.fz)(N:List Note):bS J' (N.map Note.av) J (N.map Note.av):=by
 have nums:∀l:List Int,bS J' (l.map λi=>AV.int (.lit i)) J (l.map λi=>.int (.lit i)):=λl=>by
  induction l with
  |nil=>exact bu
  |cons i r ih=>exact aC (yM i) ih
 induction N with
 |nil=>exact bu
 |cons n r ih=>
  refine aC ?_ ih;cases n with
  |int i=>exact yM i
  |row s l=>have t:bS J' (.str (.lit s)::l.map λi=>AV.int (.lit i)) J (.str (.lit s)::l.map λi=>.int (.lit i)):=aC (cm s) (nums l);exact ⟨rfl,λv=>⟨jd hf t,jd hf.symm t.sym⟩⟩
theorem tS{Y β:Type}{f:Y->Option β}{l:List Y}:∀{r:List β},bX f l=some r->r.length=l.length:=by
 induction l with
 |nil=>exact λh=>af h▸rfl
 |cons a l ih=>intro r h;refine ah h λi h1 h=>?_;refine ah h λs h2 h=>?_;exact af h▸congrArg (· +1) (ih h2)
theorem Wj(C:dX J Z J'){pre:Option Nat}{xs ys:List AV}{q:Option Nat×List AV}(h:Mp Z pre=some q)(hy:vB Z xs=some ys)(vs:Array Value):u6 J' xs vs pre↔u6 J (app q.2 ys) vs q.1:=by
 have t:=aec C xs ys hy;cases pre with
 |none=>exact af h▸bS.casesOn t λh _=>h vs.toList
 |some k=>
  refine am (cz h) λu h1 h2=>?_;have aa:=af h2;clear h h2;subst aa;cases C.pw k u h1 with
  |mk N ns g1 g2 g3 g4=>
   have g5:N.length<=8000000:=aI (cJ▸fh _ _) g4;have base:u6 J (app (mp sZ u.2) ys) vs u.1↔ay J (N.map Note.av++app (mp sZ u.2) ys) vs.toList:=by
    cases e:u.1 with
    |none=>rw [e] at g1;obtain rfl:N= []:=g1;exact Iff.rfl
    |some i=>rw [e] at g1;exact Fm g1 g5
   refine (Fm g3 g4).trans (Iff.trans ?_ base.symm);have a:=Fx (SI C.fz g2) (by rw [dz,dD,dz];exact (tS g2)) λvs=>bS.casesOn t λh _=>h vs;rw [List.map_append,jO,cW];exact Fx (QB C.fz N) rfl a vs.toList
theorem sq(C:dX J Z J'){p q:AO}(h:kX Z p=some q){o:Obj}:OR J' o p↔OR J o q:=by
 cases p with
 |inst D d=>refine ah h λi h1 h2=>?_;have e:=C.ob d i h1;exact af h2▸⟨λh=>by obtain ⟨b,z1,z2,z3,z4⟩:=h;exact ⟨b,z1,z2,z3,e.symm.trans z4⟩,λh=>by obtain ⟨b,z1,z2,z3,z4⟩:=h;exact ⟨b,z1,z2,z3,e.trans z4⟩⟩
 |dict cap loc es=>refine ah h λl h1 h2=>?_;refine bb h2 λh3 h4=>?_;refine au (aea C es l h1) λn g=>?_;have b:=bt h3;rw [len_eq] at b;exact af h4▸⟨λh=>by obtain ⟨en,m, -,z1,z2,z3,z4,z5⟩:=h;exact ⟨en,m,aI (jM n cap) b,z1,C.wd▸z2,z3,z4,λx=>(g _ _).1 (z5 x)⟩,λh=>by obtain ⟨en,m, -,z1,z2,z3,z4,z5⟩:=h;exact ⟨en,m,b,z1,C.wd.symm▸z2,z3,z4,λx=>(g _ _).2 (z5 x)⟩⟩
 |list pre xs=>refine ah h λu h1 h=>?_;refine ah h λys h2 h=>?_;exact af h▸exists_congr λvs=>exists_congr λn=>and_congr_right λ_=>Wj C h1 h2 vs
 |du _ _=>exact aD h
 |rng _ _=>exact aD h
 |exc D d=>
  refine ah h λi h1 h2=>?_;have e:(d=0/\i=0)\/(d≠0/\i≠0/\J'.aA[d]?=J.aA[i]?):=by
   obtain ⟨c,h3⟩ |h3:=dj h1
   ·exact .inl ⟨aH c,(af h3).symm⟩
   ·refine ah h3 λj h4 h5=>?_
    refine eO h5 λh6 h7=>?_;refine .inr ⟨λq=>?_,af h7▸dC h6,af h7▸C.ob d j h4⟩;clear h h3 h4;subst q;obtain rfl:0=i:=af h1;exact dC h6 (af h7)
  have k:∀{J J':G} {d i:Nat},((d=0/\i=0)\/(d≠0/\i≠0/\J'.aA[d]?=J.aA[i]?))->u0 J' o D d->u0 J o D i:=λe h=>by
   obtain ⟨vs,z1,z2,z3,z4,z5,z6⟩:=h;refine ⟨vs,z1,z2,z3,z4,z5,?_⟩;obtain ⟨a,b⟩ | ⟨a,b,c⟩:=e
   ·exact z6.elim (λz=>.inl ⟨b,z.2⟩) λz=>(z.1 a).elim
   ·exact z6.elim (λz=>(a z.1).elim) λz=>.inr ⟨b,z.2.imp λx y=>⟨y.1,c.symm.trans y.2⟩⟩
  exact af h2▸⟨k e,k (e.imp (λz=>⟨z.2,z.1⟩) λz=>⟨z.2.1,z.1,z.2.2.symm⟩)⟩
 |cell v=>
  cases v with
  |none=>exact af h▸Iff.rfl
  |some a=>refine ah h λx h1 h2=>?_;exact af h2▸exists_congr λw=>and_congr_right λ_=>pK C h1
theorem xr{l:List Nat}:∀{b:List Nat},se l b=true->l=b:=by
 induction l with
 |nil=>exact λ {b} h=>by cases b with |nil=>rfl |cons _ _=>exact aE h
 |cons x r ih=>
  intro b h;cases b with
  |nil=>exact aE h
  |cons y q=>exact congr (congrArg _ (aH (bq h).1)) (ih (bq h).2)
theorem jm(p:AV):∀a,dO p a=true->a=p:=by
 have cons:∀{x:AV} {g:List AV->Bool} {r:List AV},(∀a,dO x a=true->a=x)->(∀a,g a=true->a=r)->∀a,aW false (λy q _=>dO x y&&g q) a=true->a=x::r:=λ {x g r} h1 h2 a h=>by
  cases a with
  |nil=>exact aE h
  |cons y q=>exact congr (congrArg _ (h1 y (bq h).1)) (h2 q (bq h).2)
 have nil:∀a:List AV,lW a=true->a= []:=λa h=>by cases a with |nil=>rfl |cons _ _=>exact aE h
 refine AV.rec (motive_1:=λp=>∀a,dO p a=true->a=p) (motive_2:=λps=>∀a,dO (.bw ps) (.bw a)=true->a=ps) (λa h=>ip h) ?_ (λa h=>wY h) ?_ ?_ ?_ ?_ ?_ ?_ ?_ ?_ ?_ ?_ ?_ ?_ nil (λx r h1 h2 a h=>cons h1 h2 a h) p
 ·exact λb a h=>by obtain ⟨c,h1,h2⟩:=bI h;exact eq_of_beq h2▸oA h1
 ·exact λe a h=>by obtain ⟨c,h1,h2⟩:=bI h;exact AI.jl h2▸dl h1
 ·exact λe a h=>by obtain ⟨c,h1,h2⟩:=bI h;exact SW.jl h2▸ft h1
 ·exact λe a h=>by obtain ⟨c,h1,h2⟩:=bI h;exact aH h2▸wV h1
 ·exact λe a h=>by obtain ⟨c,h1,h2⟩:=bI h;exact aH h2▸fq h1
 ·exact λe a h=>by obtain ⟨c,h1,h2⟩:=bI h;exact aH h2▸Es h1
 ·exact λe a h=>by obtain ⟨c,h1,h2⟩:=bI h;exact aH h2▸Rk h1
 ·exact λe a h=>by obtain ⟨c,h1,h2⟩:=bI h;exact aH h2▸w5 h1
 ·intro D ns vs ih a h
  refine aF h λc h1 h2=>?_;refine aB h2 λh2 h3=>?_;refine aB h2 λh2 h4=>?_;exact ae (wI h1) (ae (aH h2) (ae (xr h4) (ae (ih _ h3) rfl)))
 ·intro ns vs ih a h
  refine aF h λc h1 h2=>?_;refine aB h2 λh2 h3=>?_;exact ae (Us h1) (ae (xr h2) (ae (ih _ h3) rfl))
 ·exact λvs ih a h=>by obtain ⟨c,h1,h2⟩:=bI h;exact ih c h2▸qS h1
 ·exact λvs ih a h=>by obtain ⟨c,h1,h2⟩:=bI h;exact ih c h2▸uc h1
 ·exact λe a h=>by obtain ⟨c,h1,h2⟩:=bI h;exact SW.jl h2▸Q3 h1
theorem jX{p:List AV}:∀{a:List AV},iL p a=true->a=p:=by
 induction p with
 |nil=>exact λ {a} h=>by cases a with |nil=>rfl |cons _ _=>exact aE h
 |cons x r ih=>
  intro a h;cases a with
  |nil=>exact aE h
  |cons y q=>exact congr (congrArg _ (jm x y (bq h).1)) (ih (bq h).2)
noncomputable def eC(J:G)(l:List AI)(i:Int):Option Int:=aW (some i) (λe _ x=>ob (e.ev J) λa=>ob x λb=>some (a+b)) l
theorem Q1(l r:List AI)(i j:Int):eC J (l++r) (i+j)=ob (eC J l i) λx=>ob (eC J r j) λy=>some (x+y):=by
 induction l with
 |nil=>
  have key:∀i,eC J r (i+j)=ob (eC J r j) λy=>some (i+y):=λi=>by
   induction r with
   |nil=>rfl
   |cons e r ih=>
    show ob (e.ev J) (λa=>ob (eC J r (i+j)) λb=>some (a+b))=ob (ob (e.ev J) λa=>ob (eC J r j) λb=>some (a+b)) λy=>some (i+y);refine ae ih ?_;cases e.ev J with
    |none=>rfl
    |some a=>
     cases eC J r j with
     |none=>rfl
     |some b=>exact congrArg some (Int.add_left_comm a i b)
  exact key i
 |cons e l ih=>
  show ob (e.ev J) (λa=>ob (eC J (l++r) (i+j)) λb=>some (a+b))=ob (ob (e.ev J) λa=>ob (eC J l i) λb=>some (a+b)) λx=>ob (eC J r j) λy=>some (x+y);refine ae ih ?_;cases e.ev J with
  |none=>rfl
  |some a=>
   cases eC J l i with
   |none=>rfl
   |some b=>
    cases eC J r j with
    |none=>rfl
    |some c=>exact congrArg some (NB a b c).symm
theorem Fv(e:AI):e.ev J=eC J (fR e).1 (fR e).2:=by
 have one:∀e:AI,e.ev J=eC J [e] 0:=λe=>by
  show _=ob (e.ev J) λa=>some (a+0);cases e.ev J with
  |none=>rfl
  |some a=>exact congrArg some (NH a).symm
 induction e with
 |lit i=>rfl
 |var k=>exact one _
 |add a b ha hb=>show ob (a.ev J) (λx=>ob (b.ev J) λy=>some (x+y))=eC J (app (fR a).1 (fR b).1) ((fR a).2+(fR b).2);rw [cW,Q1,ha,hb]
 |mul a b=>exact one _
 |md a m=>exact one _
 |dv a m=>exact one _
theorem Um{l:List AI}:∀{r:List AI},Kl l r=true->l=r:=by
 induction l with
 |nil=>exact λ {r} h=>by cases r with |nil=>rfl |cons _ _=>exact aE h
 |cons x l ih=>
  intro r h;cases r with
  |nil=>exact aE h
  |cons y q=>exact congr (congrArg _ (AI.jl (bq h).1)) (ih (bq h).2)
theorem w9{x y:AI}(h:Ac x y=true):x.ev J=y.ev J:=by refine aB h λh1 h2=>?_;exact ae (Fv x) (ae (Fv y) (ae (Um h1) (ae ((io _ _).mp h2) rfl)))
theorem Gj{a q:AV}(h:sV a q=true){v:Value}(hv:VR J a v):VR J q v:=by
 unfold sV at h;cases c:isAny q with
 |true=>rw [c] at h;refine aQ (wJ h hv) λb aq=>?_;have aa:=aq;clear hv aq;subst aa;exact wY c▸ .bM b
 |false=>
  rw [c] at h;cases d:dO q a with
  |true=>exact jm q a d▸hv
  |false=>rw [d] at h;refine aF h λx h1 h2=>?_;refine aF h2 λy h3 h4=>?_;rw [dl h1] at hv;exact dl h3▸gV (w9 h4) hv
theorem Vw{e:EV}{k:Nat}(h:KI e=some k):e= .ov k:=by cases e<;>first |exact aD h |exact congrArg _ (af h)
theorem Vr{e:EV}{k:Nat}(h:KG e=some k):e= .oi k:=by cases e<;>first |exact aD h |exact congrArg _ (af h)
theorem XE{a q:EV}(h:leE a q=true){r:Option Value}(hr:DR J (some a) r):DR J (some q) r:=by
 cases q with
 |val x=>refine aF h λy h1 h2=>?_;have aa:=jR h1;clear h h1;subst aa;exact hr.imp λv z=>⟨z.1,Gj h2 z.2⟩
 |unk=>trivial
 |ov k=>obtain ⟨y,h1,h2⟩:=bI h;exact aH h2▸Vw h1▸hr
 |oi k=>obtain ⟨y,h1,h2⟩:=bI h;exact aH h2▸Vr h1▸hr
theorem zO{Y:Type}{n:Nm}{l:List (Nm×Y)}{a:Y}(h:lk n l=some a):(n,a)∈l:=by
 induction l with
 |nil=>exact aD h
 |cons p r ih=>
  have h:bf (ag n p.1) (some p.2) (lk n r)=some a:=h;cases c:ag n p.1 with
  |true=>rw [c] at h;refine ae (aH c) (bH (af h) ?_);exact .head _
  |false=>rw [c] at h;exact .tail _ (ih h)
theorem XD{a q:List (Nm×EV)}(h:Me a q=true){n:Nm}{r:Option Value}(hr:DR J (lk n a) r):DR J (lk n q) r:=by
 refine aB h λh1 h2=>?_;cases c:lk n q with
 |none=>
  cases d:lk n a with
  |none=>rw [d] at hr;exact hr
  |some e=>have z:=dm h2 _ (zO d);rw [show lk (n,e).1 q=none from c] at z;exact aE z
 |some e=>
  have z:bf (zJ e) true (aj (lk n a) λx=>leE x e)=true:=dm h1 _ (zO c);cases u:zJ e with
  |true=>cases e<;>first |trivial |exact aE u
  |false=>rw [u] at z;refine aF z λx z1 z2=>?_;rw [z1] at hr;exact XE z2 hr
theorem Xh{p a:Option Nat}(h:eqP p a=true):a=p:=by
 cases p with
 |none=>exact lb h
 |some k=>obtain ⟨y,h1,h2⟩:=bI h;exact aH h2▸h1
theorem um{a q:AO}(h:sU a q=true){o:Obj}(ho:OR J o a):OR J o q:=by
 cases q with
 |inst D d=>refine aF h λx h1 h2=>?_;rw [wQ h1, <-aH (bq h2).1, <-aH (bq h2).2] at ho;exact ho
 |dict cap loc es=>refine aF h λx h1 h2=>?_;refine aB h2 λh2 h3=>?_;refine aB h3 λh3 h4=>?_;rw [DJ h1, <-eq_of_beq h2] at ho;obtain ⟨en,m, -,z1,z2,z3,z4,z5⟩:=ho;exact ⟨en,m,len_eq es▸bt h3,z1,z2,z3,z4,λx=>XD h4 (z5 x)⟩
 |list pre xs=>refine aF h λx h1 h2=>?_;rw [mz h1,Xh (bq h2).1,jX (bq h2).2] at ho;exact ho
 |du _ _=>exact aE h
 |rng _ _=>exact aE h
 |exc D d=>refine aF h λx h1 h2=>?_;refine aB h2 λh2 h3=>?_;refine aB h3 λh3 h4=>?_;refine aB h4 λh4 h5=>?_;rw [wD h1, <-aH h5] at ho;obtain ⟨vs,z1,z2,z3,z4,z5,z6⟩:=ho;rw [aH h2] at z1 z2;exact ⟨vs,z1,z2,z3,λq=>cH (q.symm.trans (fJ h3)),λq=>cH (q.symm.trans (fJ h4)),z6⟩
 |cell v=>
  refine aF h λx h1 h2=>?_;rw [Da h1] at ho;cases v with
  |none=>rw [lb h2] at ho;exact ho
  |some b=>refine aF h2 λy h3 h4=>?_;rw [h3,jm b y h4] at ho;exact ho
end
section
variable{Y:Type}
theorem uu{t:TM Y}(h:t.WF 11)(o:Option Y){i j:Nat}(hi:i< 2048)(hj:j< 2048):(t.put 11 i o).get j=if j=i then o else t.get j:=TM.mL o 11 t i j h hi hj
structure Puts(t t':TM Y)(b n:Nat)(l:List (Option Y)):Prop where
 wf:t'.WF 11
 out:∀j,j< 2048->j< b\/b+n<=j->t'.get j=t.get j
 at_:∀(i:Nat) o,l[i]?=some o->t'.get (b+i)=o
theorem t7(l:List (Option Y)):∀(b:Nat) (t:TM Y),t.WF 11->b+l.length<=2048->Puts t (rR l b t) b l.length l:=by
 induction l with
 |nil=>exact λb t h _=>⟨h,λ_ _ _=>rfl,λi o e=>nomatch e⟩
 |cons o r ih=>
  intro b t h hb;have hb':b+1+r.length<=2048:=dx b r.length 1▸hb;have lt:b< 2048:=bz (og b) (aI (fh _ _) hb');obtain ⟨g1,g2,g3⟩:=ih (b+1) (t.put 11 b o) (TM.iy _ _ _ _ h) hb';refine ⟨g1,λj hj q=>?_,λi o' e=>?_⟩
  ·have n1:j≠b:=λe=>q.elim (λq=>wr _ (e▸q)) λq=>CN.mpr (Cc (qo r.length)) (e▸q)
   exact (g2 j hj (q.imp (qh ·) λq=>dx b r.length 1▸q)).trans ((uu h o lt hj).trans (if_neg n1))
  ·cases i with
   |zero=>exact (g2 b lt (.inl (og b))).trans (((uu h o lt lt).trans (if_pos rfl)).trans (af e))
   |succ i=>exact dx b i 1▸g3 i o' e
theorem C2(is:List Nat):∀(qs:List Y) (t:TM Y),t.WF 11->(∀i∈is,i< 2048)->(putAll is qs t).WF 11/\∀j,j< 2048->j ∉ is->(putAll is qs t).get j=t.get j:=by
 induction is with
 |nil=>exact λqs t h _=>⟨h,λ_ _ _=>rfl⟩
 |cons i r ih=>
  intro qs t h hi;cases qs with
  |nil=>exact ⟨h,λ_ _ _=>rfl⟩
  |cons q s=>refine au (ih s (t.put 11 i (some q)) (TM.iy _ _ _ _ h) λj hj=>hi j (.tail _ hj)) λg1 g2=>?_;exact ⟨g1,λj hj hn=>(g2 j hj λz=>hn (.tail _ z)).trans ((uu h _ (hi i (.head _)) hj).trans (if_neg λ (e:j=i)=>hn (by refine ae e ?_;exact .head _)))⟩
theorem Dy(is:List Nat):∀(qs:List Y) (t:TM Y),t.WF 11->(∀i∈is,i< 2048)->is.Nodup->∀(j i:Nat) q,is[j]?=some i->qs[j]?=some q->(putAll is qs t).get i=some q:=by
 induction is with
 |nil=>exact λqs t h _ _ j i q e=>nomatch e
 |cons x r ih=>
  intro qs t h hi nd j i q e e';cases qs with
  |nil=>exact nomatch e'
  |cons y s=>
   have w:=TM.iy (some y) 11 t x h;have hr:∀i∈r,i< 2048:=λj hj=>hi j (.tail _ hj);have hx:=hi x (.head _);refine au (la.mp nd) λn1 n2=>?_;cases j with
   |zero=>obtain rfl:x=i:=af e;exact ((C2 r s _ w hr).2 x hx n1).trans (((uu h _ hx hx).trans (if_pos rfl)).trans e')
   |succ j=>exact ih s _ w hr n2 j i q e e'
end
structure Dt where
 iI:List Int
 vV:List Value
 sS:List (List Nat)
 oO:List (Option Int)
 pP:List (List Note)
 tA:List AV
noncomputable def G.sub(J:G)(sel:List Nat)(D:Dt):G:=⟨sel.map λi=>J.aA.getD i 0,D.iI,D.vV,D.sS,D.oO,D.pP,D.tA,J.fz,J.wd,[]⟩
noncomputable def Bd(bs:List (Option (Int×Int))):List Int->Prop:=aW (λl=>l= []) (λb _ f l=>List.casesOn (motive:=λ_=>Prop) l False λi r=>oe True (λp=>p.1<=i/\i<=p.2) b/\f r) bs
theorem Bd.get{bs:List (Option (Int×Int))}:∀{l:List Int},Bd bs l->l.length=bs.length/\∀(k:Nat) lo hi,bs[k]?=some (some (lo,hi))->∃i,l[k]?=some i/\lo<=i/\i<=hi:=by
 induction bs with
 |nil=>exact λ {l} h=>⟨congrArg mx (show l= [] from h),λk lo hi e=>nomatch e⟩
 |cons b r ih=>
  intro l h;cases l with
  |nil=>exact False.elim h
  |cons i s=>
   refine au (ih h.2) λg1 g2=>?_;refine ⟨congrArg (· +1) g1,λk lo hi e=>?_⟩;cases k with
   |zero=>have h1:oe True (λp:Int×Int=>p.1<=i/\i<=p.2) b:=h.1;rw [show b=some (lo,hi) from af e] at h1;exact ⟨i,rfl,h1⟩
   |succ k=>exact g2 k lo hi e
theorem jY{Y:Type}{l:List Y}{i:Nat}{a d:Y}(h:l[i]?=some a):l.getD i d=a:=by refine ae (Ca) (ae h ?_);rfl
theorem fo{Y:Type}{l:List Y}{i:Nat}(h:i< l.length):∃a,l[i]?=some a:=⟨_,k6 h⟩
theorem map_getD{A:List Addr}{sel:List Nat}{j i:Nat}{a:Addr}(h:sel[j]?=some i)(ha:A[i]?=some a):(sel.map λi=>A.getD i 0)[j]?=some a:=by refine ae (ib) (ae h ?_);exact congrArg some (jY ha)
theorem wM{Y:Type}{l:List Y}(h:∀(i j:Nat) a,l[i]?=some a->l[j]?=some a->i=j):l.Nodup:=by rw [List.Nodup,List.pairwise_iff_getElem];intro i j hi hj hij e;exact absurd (h i j _ (k6 hi) (e▸k6 hj)) (gR hij)
theorem Dv{Y:Type}{l:List Y}(h:l.Nodup){i j:Nat}{a:Y}(hi:l[i]?=some a)(hj:l[j]?=some a):i=j:=(Ck (mn.mp hi).1 h).mp (hi.trans hj.symm)
theorem lt_of_get{Y:Type}{l:List Y}{i:Nat}{a:Y}(h:l[i]?=some a):i< l.length:=(mn.mp h).1
theorem ct.get{Y β:Type}{Q:Y->β->Prop}{l:List Y}{r:List β}(h:ct Q l r):r.length=l.length/\∀(j:Nat) a b,l[j]?=some a->r[j]?=some b->Q a b:=by
 induction h with
 |nil=>exact ⟨rfl,λj a b e=>nomatch e⟩
 |cons h t ih=>
  refine ⟨congrArg (· +1) ih.1,λj a b e e'=>?_⟩;cases j with
  |zero=>exact af e▸af e'▸h
  |succ j=>exact ih.2 j a b e e'
theorem fm{Y:Type}{Q:Y->Y->Prop}(h:∀a,Q a a)(l:List Y):ct Q l l:=by
 induction l with
 |nil=>exact .nil
 |cons a r ih=>exact .cons (h a) ih
structure eh(s:Shared)(J:G)(st:St)(J':G)(bD:St)(sel:List Nat):Prop where
 fz:J'.fz=J.fz
 wd:J'.wd=J.wd
 nd:sel.Nodup
 aA:J'.aA=sel.map λi=>J.aA.getD i 0
 at_:∀j i,sel[j]?=some i->i< st.n/\∃ao,st.get i=some ao/\∀p,bD.get j=some p->∀a o,J.aA[i]?=some a->s.heap.get? a=some o->OR J o ao->OR J' o p
 Wo:bD.objs.WF 11
 Wb:bD.bnd.WF 11
 n:bD.n=sel.length
 room:sel.length<=2010
 x:bD.x=none
 sub:bD.sub= []
 aU:bD.aU= []
 lI:J'.iI.length=bD.ni
 lV:J'.vV.length=bD.nv
 lT:J'.tA.length=bD.nv
 lS:∀z∈J'.sS,z.length<=10000
 bnd:∀(k:Nat) (lo hi:Int),k< bD.ni->bD.bnd.get k=some (lo,hi)->∃i,J'.iI[k]?=some i/\lo<=i/\i<=hi
section
variable{P:Pr}{J J':G}{st bD:St}{s:Shared}{A:Around}{c c':Cx}{k kc:Kont}{Rr:Result->Shared->Prop}{sel:List Nat}{f:Nat}{args:List AV}{vs:List Value}{gh:G->Prop}{Z:Th}
theorem eh.get(I:eh s J st J' bD sel)(R:Rel P J st s){j i:Nat}(h:sel[j]?=some i):∃a,J.aA[i]?=some a/\J'.aA[j]?=some a:=by refine cx (l:=J.aA) (R.bR.symm▸(I.at_ j i h).1) λa e=>?_;exact ⟨a,e,I.aA▸map_getD h e⟩
theorem eh.len(I:eh s J st J' bD sel):J'.aA.length=sel.length:=by rw [I.aA,dz]
theorem eh.pos(I:eh s J st J' bD sel)(R:Rel P J st s){j:Nat}{a:Addr}(h:J'.aA[j]?=some a):∃i,sel[j]?=some i/\J.aA[i]?=some a:=by refine cx (l:=sel) (I.len▸lt_of_get h) λi e=>?_;refine am (I.get R e) λb h1 h2=>?_;exact ⟨i,e,h1.trans (h2.symm.trans h)⟩
theorem eh.of(I:eh s J st J' bD sel)(R:Rel P J st s){a:Addr}(h:a∈J'.aA):∃j i:Nat,sel[j]?=some i/\J.aA[i]?=some a:=by refine aQ (fZ h) λj hj=>?_;exact ⟨j,I.pos R hj⟩
theorem eh.acs(I:eh s J st J' bD sel)(R:Rel P J st s)(hx:st.x=none)(nf:J'.nf= [])(frm:∀i∈sel,∀ao,st.get i=some ao->¬ eg ao):Sel J J' st:=
 ⟨I.fz,I.wd,nf,λa h=>by
  refine ba (I.of R h) λj i h1 h2=>?_;refine kj (I.at_ j i h1) λh3 ao h4 _=>?_
  exact ⟨i,ao,h2,h3,h4,frm i (bx h1) ao h4⟩,λi a h=>aD (hx.symm.trans h)⟩
theorem eh.nodup(I:eh s J st J' bD sel)(R:Rel P J st s):J'.aA.Nodup:=wM λi j a h1 h2=>by refine am (I.pos R h1) λp p1 p2=>?_;refine am (I.pos R h2) λq q1 q2=>?_;exact Dv I.nd p1 (R.inj p2 q2▸q1)
theorem Dw{ao:AO}(h:yK ao=true):¬ eg ao:=λ ⟨cap,es,e,hc⟩=>by rw [e] at h;exact CN.mpr (d7.mp h) hc
inductive Ap(J:G)(st:St)(Z:Th)(i:Nat)(p:AO):Prop
 |mk (ao q:AO) (h1:i< st.n) (h2:st.get i=some ao) (h3:¬ eg ao) (h4:kX Z p=some q) (h5:sU ao q=true):Ap J st Z i p
theorem uk{sel:List Nat}:∀{ps:List AO},L5 Z st sel ps=true->sel.length=ps.length/\∀(j i:Nat) p,sel[j]?=some i->ps[j]?=some p->Ap J st Z i p:=by
 induction sel with
 |nil=>exact λ {ps} h=>⟨by cases ps with |nil=>rfl |cons _ _=>exact aE h,λj i p e=>nomatch e⟩
 |cons x r ih=>
  intro ps h;cases ps with
  |nil=>exact aE h
  |cons y q=>
   refine aB h λh1 h2=>?_;refine aB h1 λh1 h3=>?_;refine au (ih h2) λg1 g2=>?_;refine ⟨congrArg (· +1) g1,λj i p e e'=>?_⟩;cases j with
   |zero=>refine aF h3 λao z1 z2=>?_;refine aB z2 λz2 z3=>?_;refine aF z3 λw z4 z5=>?_;exact af e▸af e'▸⟨ao,w,d7.mp h1,z1,Dw z2,z4,z5⟩
   |succ j=>exact g2 j i p e e'
theorem Go{objs:List AO}{bs:List (Option (Int×Int))}{nv:Nat}(h:objs.length<=2010)(hb:bs.length<=2048):(c6 objs bs nv).objs.WF 11/\(c6 objs bs nv).bnd.WF 11/\(c6 objs bs nv).n=objs.length/\(c6 objs bs nv).ni=bs.length/\(∀j p,j< objs.length->(c6 objs bs nv).get j=some p->objs[j]?=some p)/\∀k p,k< bs.length->(c6 objs bs nv).bnd.get k=some p->bs[k]?=some (some p):=by
 obtain ⟨a1, -,a3⟩:=t7 (mp some objs) 0 .nil (.nil 11) (by rw [dD,dz,bJ];exact aI h (by decide));obtain ⟨b1, -,b3⟩:=t7 bs 0 .nil (.nil 11) (by rw [bJ];exact hb);refine ⟨a1,b1,len_eq _,len_eq _,λj p hj e=>?_,λk p hk e=>?_⟩
 ·refine cx hj λo ho=>?_
  have z:=a3 j (some o) (by rw [dD,ib,ho];rfl);rw [bJ] at z;exact ho.trans (z.symm.trans e)
 ·refine cx hk λo ho=>?_
  have z:=b3 k o ho;rw [bJ] at z;exact ho.trans (congrArg some (z.symm.trans e))
theorem yT{ls:List Nat}{D:Dt}(h:∀(j i:Nat),ls[j]?=some i->∃a,J.aA[i]?=some a)(j i:Nat)(e:nth ls j=some i):(J.sub ls D).aA[j]?=J.aA[i]?:=by rw [dS] at e;refine aQ (h j i e) λa ha=>?_;exact (map_getD e ha).trans ha.symm
theorem UM{objs objs':List AO}{bs:List (Option (Int×Int))}{nv:Nat}{D:Dt}(R:Rel P J st s)(h:fQ Z st objs=true)(C:CorrD J Z (J.sub Z.ob D))(hu:objs'.length=objs.length/\∀(j:Nat) p p',objs[j]?=some p->objs'[j]?=some p'->∀o,OR (J.sub Z.ob D) o p->OR (J.sub Z.ob D) o p')(hd:Bd bs D.iI)(hb:bs.length<=2048)(lV:D.vV.length=nv)(lT:D.tA.length=nv)(lS:∀z∈D.sS,z.length<=10000):eh s J st (J.sub Z.ob D) (c6 objs' bs nv) Z.ob/\dX J Z (J.sub Z.ob D)/\st.x=none/\∀i∈Z.ob,∀ao,st.get i=some ao->¬ eg ao:=by
 refine aB h λh1 h2=>?_;refine aB h2 λh2 h3=>?_;refine aB h2 λh2 h4=>?_;refine au (uk (J:=J) h3) λg1 g2=>?_;have room:objs.length<=2010:=len_eq objs▸bt h4;have Bo:∀{j i:Nat},Z.ob[j]?=some i->∃p,objs[j]?=some p/\Ap J st Z i p:=λe=>by refine cx (l:=objs) (g1▸lt_of_get e) λp hp=>?_;exact ⟨p,hp,g2 _ _ p e hp⟩
 have Co:dX J Z (J.sub Z.ob D):={C with
  ob:=yT λj i e=>by
   refine am (Bo e) λp _ z=>?_;cases z with
   |mk ao q z1=>exact fo (R.bR.symm▸z1)}
 refine EK (Go (objs:=objs') (nv:=nv) (hu.1▸room) hb) λm1 m2 m3 m4 m5 m6=>?_;refine au hd.get λb1 b2=>?_;refine ⟨⟨rfl,rfl,qx h2,rfl,λj i e=>?_,m1,m2,m3.trans (hu.1.trans g1.symm),g1▸room,rfl,rfl,rfl,b1.trans m4.symm,lV,lT,lS,λk lo hi hk e=>b2 k lo hi (m6 k _ (m4▸hk) e)⟩,Co,lb h1,λi hi ao e=>?_⟩
 ·refine am (Bo e) λp hp z=>?_
  cases z with
  |mk ao q z1 z2 z3 z4 z5=>exact ⟨z1,ao,z2,λp' hp' a o ha ho h=>hu.2 j p p' hp (m5 j p' (by refine ae hu.1 ?_;exact lt_of_get hp) hp') o ((sq Co z4).2 (um z5 h))⟩
 ·refine aQ (fZ hi) λj hj=>?_
  refine am (Bo hj) λp hp z=>?_;cases z with
  |mk b9 q z1 z2 z3 z4 z5=>exact af (z2.symm.trans e)▸z3
end
noncomputable def nJ(J4:G)(nw:List Nat):List Addr:=nw.map λj=>J4.aA.getD j 0
noncomputable def G.back(J J4:G)(nw:List Nat)(nI:List Int)(nV:List Value)(nT:List AV):G:=J.after J4 (nJ J4 nw) nI nV nT
section
variable{P:Pr}{J J' J4:G}{st bD bc:St}{s s1:Shared}{A:Around}{c c':Cx}{k kc:Kont}{Rr:Result->Shared->Prop}{sel nw:List Nat}{f:Nat}{args:List AV}{vs:List Value}{gh:G->Prop}{Z Ze Z3:Th}{cs:Cs}{rr:bG}
theorem dK(n:Nat):∀b,(upTo n b).length=n:=by
 induction n with
 |zero=>exact λ_=>rfl
 |succ n ih=>exact λb=>congrArg (· +1) (ih (b+1))
theorem dQ(n:Nat):∀b j,j< n->(upTo n b)[j]?=some (b+j):=by
 induction n with
 |zero=>exact λb j h=>absurd h (oj j)
 |succ n ih=>
  intro b j h;cases j with
  |zero=>rfl
  |succ j=>exact (ih (b+1) j (tj h)).trans (congrArg some (dx b 1 j))
inductive yY(J4:G)(bc:St)(Z:Th)(l:Nat)(p:AO):Prop
 |mk (ao q:AO) (h1:bc.get l=some ao) (h2:kX Z p=some q) (h3:sU ao q=true):yY J4 bc Z l p
theorem EQ{ls:List Nat}:∀{ps:List AO},pD Z bc ls ps=true->ls.length=ps.length/\∀(j l:Nat) p,ls[j]?=some l->ps[j]?=some p->yY J4 bc Z l p:=by
 induction ls with
 |nil=>exact λ {ps} h=>⟨by cases ps with |nil=>rfl |cons _ _=>exact aE h,λj i p e=>nomatch e⟩
 |cons x r ih=>
  intro ps h;cases ps with
  |nil=>exact aE h
  |cons y q=>
   refine aB h λh1 h2=>?_;refine au (ih h2) λg1 g2=>?_;refine ⟨congrArg (· +1) g1,λj i p e e'=>?_⟩;cases j with
   |zero=>refine aF h1 λao z1 z2=>?_;refine aF z2 λw z4 z5=>?_;exact af e▸af e'▸⟨ao,w,z1,z4,z5⟩
   |succ j=>exact g2 j i p e e'
structure IQ(J4:G)(bc:St)(rr:bG)(n:Nat)(nw:List Nat)(Ze:Th)(cs:Cs):Prop where
 res:∃a,fK rr=some (cs.ex,a)
 x:(cs.ex=true/\∃e,bc.x=some e/\nw[0]?=some e/\cs.res= .ref n)\/(cs.ex=false/\bc.x=none)
 m:nw.length=cs.m
 nd:nw.Nodup
 nl:∀j∈nw,n<=j/\j< bc.n
 ls:Ze.ob=upTo n 0++nw
 len:Ze.ob.length=cs.objs.length
 at_:∀(j l:Nat) p,Ze.ob[j]?=some l->cs.objs[j]?=some p->yY J4 bc Ze l p
theorem FG{a b:Bool}(h:a=true)(h':b=true):(a&&b)=true:=b7.mpr ⟨h,h'⟩
theorem X8{Y:Type}{o:Option Y}{f:Y->Bool}{a:Y}(h:o=some a)(h':f a=true):aj o f=true:=h▸h'
theorem ER{n:Nat}(h:sg Ze bc rr n nw cs=true):IQ J4 bc rr n nw Ze cs:=by
 refine aB h λh h'=>?_;refine aB h λh1 h2=>?_;refine aB h' λh3 h4=>?_;refine aB h3 λh3 h5=>?_;refine aB h3 λh3 h6=>?_;refine aB h4 λh4 h7=>?_;refine au (EQ (J4:=J4) h7) λg1 g2=>?_;refine ⟨?_,?_,(len_eq nw).symm.trans (aH h3),qx h6,λj hj=>?_,(cW (upTo n 0) nw▸xr h4).symm,g1,g2⟩
 ·obtain ⟨⟨b,a⟩,z1,z2⟩:=bI h1
  exact ⟨a,eq_of_beq z2▸z1⟩
 ·cases e:cs.ex with
  |true=>rw [e] at h2;refine aB h2 λh2 h5=>?_;refine aF h2 λx z1 z2=>?_;refine aF z2 λy z3 z4=>?_;refine aF h5 λi z5 z6=>?_;exact .inl ⟨rfl,x,z1,dS nw 0▸aH z4▸z3,aH z6▸fq z5⟩
  |false=>rw [e] at h2;exact .inr ⟨rfl,lb h2⟩
 ·refine aB (dm h5 j hj) λz1 z2=>?_
  exact ⟨bt z1,d7.mp z2⟩
theorem RH{n:Nat}(h:iB Ze bc rr n nw cs=true):sg Ze bc rr n nw cs=true/\∃a q,fK rr=some (cs.ex,a)/\kW Ze cs.res=some q/\sV a q=true:=by refine aB h λh h'=>?_;refine aB h λh1 h2=>?_;obtain ⟨⟨b,a⟩,z1,z2⟩:=bI h1;refine aB z2 λz2 z3=>?_;refine aF z3 λq z4 z5=>?_;refine ⟨FG (FG (X8 z1 z2) h2) h',a,q,eq_of_beq z2▸z1,z4,z5⟩
structure IS(st st3:St)(Z3:Th)(cs:Cs)(ps:List (Nat×Option Nat))(qs:List AO):Prop where
 al:bX (kX Z3) cs.objs=some qs
 objs:st3.objs=putAll Z3.ob qs st.objs
 n:st3.n=st.n+cs.m
 ni:st3.ni=st.ni+cs.bs.length
 nv:st3.nv=st.nv+cs.nv
 bnd:st3.bnd=rR cs.bs st.ni st.bnd
 sub:st3.sub=st.sub
 aU:st3.aU=ps++st.aU
 x:st3.x=bf cs.ex (some st.n) none
theorem SO{st3:St}{ps:List (Nat×Option Nat)}(h:Im Z3 st cs ps=some st3):∃qs,IS st st3 Z3 cs ps qs:=by refine ah h λqs h1 h2=>?_;exact ⟨qs,af h2▸⟨h1,rfl,rfl,congrArg _ (len_eq _),rfl,rfl,rfl,cW _ _,rfl⟩⟩
theorem EA{Y β:Type}{f:Y->Option β}{l:List Y}:∀{r:List β},bX f l=some r->∀(j:Nat) b,r[j]?=some b->∃a,l[j]?=some a/\f a=some b:=by
 induction l with
 |nil=>exact λh j b e=>nomatch (af h▸e:([]:List β)[j]?=some b)
 |cons a l ih=>
  intro r h j b e;refine ah h λx h1 h=>?_;refine ah h λs h2 h=>?_;rw [<-af h] at e;cases j with
  |zero=>exact ⟨a,rfl,h1.trans e⟩
  |succ j=>exact ih h2 j b e
inductive Fin(P:Pr)(k:Kont)(J:G)(st:St)(sel:List Nat)(rr:bG)(J4:G)(bc:St):Prop
 |mk (cs:Cs) (hS:AV) (ob':List AO) (nw:List Nat) (nI:List Int) (nV:List Value) (nT:List AV) (De Df:Dt) (Ze Z3:Th) (ps:List (Nat×Option Nat)) (e:Z3.ob=sel++upTo cs.m st.n) (hf:sg Ze bc rr sel.length nw (oR cs hS ob')=true) (hO:cs.ex=true->cs.res= .ref sel.length) (nQ:dX J4 Ze (J4.sub Ze.ob De)->∀a,fK rr=some (cs.ex,a)->∀v,VR J4 a v->VR (J4.sub Ze.ob Df) cs.res v) (hu:ct (λp p'=>∀o,OR (J4.sub Ze.ob De) o p->OR (J4.sub Ze.ob Df) o p') ob' cs.objs) (hk:fH Z3 st cs ps k=true) (Ce:CorrD J4 Ze (J4.sub Ze.ob De)) (C3:CorrD (J.back J4 nw nI nV nT) Z3 (J4.sub Ze.ob Df))
  (bd:Bd cs.bs nI) (ev:nV.length=cs.nv) (et:nT.length=cs.nv) (hp:∀p∈ps,fF (J.back J4 nw nI nV nT) p):Fin P k J st sel rr J4 bc
theorem Ek{b:Bool}{a:AV}(h:fK rr=some (b,a)):rr=bf b (.exc a) (.val a):=by cases rr<;>first |exact aD h | (have h:=af h;refine bH ((bU.inj h).1) (bH ((bU.inj h).2) ?_);rfl)
theorem Ru{ps:List (Nat×Option Nat)}(h:fH Z3 st cs ps k=true):st.n+cs.m<=2010/\st.ni+cs.bs.length<=2040/\(∀a∈cs.objs,yL a=true)/\∃st3 qs r,IS st st3 Z3 cs ps qs/\kW Z3 cs.res=some r/\k (bf cs.ex (.exc r) (.val r)) st3=true:=by refine aB h λh h'=>?_;refine aB h λh1 h=>?_;refine aB h λh2 h3=>?_;refine aF h' λst3 z1 z2=>?_;refine aF z2 λr z3 z4=>?_;refine aQ (SO z1) λqs O0O=>?_;exact ⟨bt h1,len_eq cs.bs▸bt h2,dm h3,st3,qs,r,O0O,z3,z4⟩
theorem Qz{p:AO}{C d:Nat}(h:yL p=true)(e:kX Z p=some (.exc C d)):isExc C=false:=by
 cases p with
 |exc D i=>refine ah e λx _ e=>?_;exact (bU.inj (af (congrArg fA (af e)))).1▸fJ h
 |inst D i=>obtain ⟨x, -,e⟩:=cz e;exact nomatch af e
 |dict _ _ _=>obtain ⟨x, -,e⟩:=cz e;exact nomatch af (fu e).2
 |list _ _=>obtain ⟨x, -,e⟩:=cz e;obtain ⟨y, -,e⟩:=cz e;exact nomatch af e
 |du _ _=>exact aD e
 |rng _ _=>exact aD e
 |cell v=>
  cases v with
  |none=>exact nomatch af e
  |some a=>obtain ⟨x, -,e⟩:=cz e;exact nomatch af e
theorem Xo{hS:AV}{ob':List AO}(I:eh s J st J' bD sel)(R:Rel P J st s){P':Pr}(R4:Rel P' J4 bc s1)(le:J'.Le J4)(F:IQ J4 bc rr sel.length nw Ze (oR cs hS ob'))(e3:Z3.ob=sel++upTo cs.m st.n)(nI:List Int)(nV:List Value)(nT:List AV){j l i:Nat}(h1:Ze.ob[j]?=some l)(h2:Z3.ob[j]?=some i):l< bc.n/\∃a,J4.aA[l]?=some a/\(J.back J4 nw nI nV nT).aA[i]?=some a:=by
 rw [F.ls] at h1;rw [e3] at h2
 by_cases c:j< sel.length
 ·rw [qe ((dK _ _).symm▸c),dQ _ _ _ c,bJ] at h1
  rw [qe c] at h2;refine am (I.get R h2) λa g1 g2=>?_;have g3:=af h1▸aN le.aA g2;exact ⟨R4.lt g3,a,g3,aN ⟨_,rfl⟩ g1⟩
 ·have c:=i5 c
  rw [iX ((dK _ _).symm▸c),dK] at h1;rw [iX c] at h2;have hm:j - sel.length< cs.m:=F.m▸lt_of_get h1;rw [dQ _ _ _ hm] at h2;have hl:=F.nl l (bx h1);refine aQ (fo (l:=J4.aA) (R4.bR.symm▸hl.2)) λa ha=>?_;refine ⟨hl.2,a,ha,?_⟩;show (J.aA++nJ J4 nw)[i]?=some a;rw [<-af h2, <-R.bR,iX (fh _ _),My];exact map_getD h1 ha
theorem Rt(gm:∀{a b:G},a.Le b->gh a->gh b)(R:Rel P J st s)(F:dB P J c A)(hc:iR c'.d c'.u c=true)(hu:c'.ups= [])(hx:st.x=none)(I:eh s J st J' bD sel)(nf:J'.nf= [])(frm:∀i∈sel,∀ao,st.get i=some ao->¬ eg ao)(hg:gh J')(GK:∀P':Pr,P'.gh=gh->bZ P' c' f args bD kc)(hv:ay J' args vs)(post:Post P k J (sx Rr))
  (out:∀P':Pr,∀rr st1 J1 s1,P'.gh=gh->kc rr st1=true->J'.Le J1->Rel P' J1 st1 s1->∃J4 bc,J1.Le J4/\Rel P' J4 bc s1/\Fin P k J st sel rr J4 bc):codeAny (Md P) A (.call (.ref f) ⟨vs,[]⟩) Rr s:=by
 refine am F.frames λenvs hfr hal=>?_;have S:=I.acs R hx nf frm;refine aB hc λc1 c2=>?_;refine aB c2 λc2 c3=>?_
 obtain ⟨R1,F1⟩:=Pb (bD:=bD) (c':=c') (gh:=gh) (gm:=gm) R F hfr hal S I.Wo I.Wb (by refine ae I.n ?_;exact I.room) I.x (by exact ae I.len (ae I.n rfl)) I.lI I.lV I.lT (I.nodup R) I.lS (λj ao hj hget=>by
   rw [I.n] at hj;refine cx hj λi hs=>?_;refine am (I.get R hs) λa h1 h2=>?_;refine kj (I.at_ j _ hs) λh3 nM h4 h5=>?_;refine bp (R.objs _ nM h3 h4) λa' o h6 h7 h8=>?_;obtain rfl:=af (h1.symm.trans h6)
   exact ⟨a,o,h2,h7,h5 ao hget a o h1 h7 h8⟩) I.bnd I.sub I.aU hg (bt c1) (bt c2) (fJ c3) hu
 generalize hP:P.into s J J' (envs++P.outer) gh gm=P' at R1 F1
 have sM:P'.gh=gh:=by refine bH hP ?_;rfl
 have hmd:Md P'=Md P:=by refine bH hP ?_;rfl
 refine bH hmd ?_;refine GK P' sM J' s A Rr vs R1 F1 hv λrr st1 J1 s1 hq xo l Rl=>?_;refine bp (out P' rr st1 J1 s1 sM hq l Rl) λJ4 bc l4 R4 B=>?_;cases B with
 |mk cs hS ob' nw nI nV nT De Df Ze Z3 ps e3 hf hO nQ hu hk Ce C3 bd ev et hp=>
 have le:=l.trans l4;have FI:=ER (J4:=J4) hf;refine Pw (Ru hk) λk1 k2 k3 st3 qs r O0O kr hk=>?_;refine au hu.get λBC hu=>?_;have both:=λ {j l i:Nat} (h1:Ze.ob[j]?=some l) (h2:Z3.ob[j]?=some i)=>Xo I R R4 le FI e3 nI nV nT h1 h2;have len':Ze.ob.length=ob'.length:=FI.len;have lens:Z3.ob.length=Ze.ob.length:=by rw [e3,FI.ls,cJ,cJ,dK,dK];exact congrArg _ FI.m.symm
 have Lo:dX J4 Ze (J4.sub Ze.ob De):={Ce with
  ob:=yT λj i e=>by
   refine cx (l:=Z3.ob) (lens▸lt_of_get e) λi3 h3=>?_;refine kj (both e h3) λ_ a h _=>?_
   exact ⟨a,h⟩}
 have Ln:dX (J.back J4 nw nI nV nT) Z3 (J4.sub Ze.ob Df):={C3 with
  ob:=λj i e=>by
   rw [dS] at e;refine cx (l:=Ze.ob) (lens▸lt_of_get e) λl hl=>?_;refine kj (both hl e) λ_ a h1 h2=>?_
   exact (map_getD hl h1).trans h2.symm}
 have BP:∀i∈Z3.ob,i< 2048/\i< st3.n:=λi hi=>by
  have z:i< st3.n:=by
   refine ae O0O.n ?_;rw [e3] at hi;obtain hi |hi:=dZ.mp hi
   ·refine aQ (fZ hi) λj hj=>?_
    exact bz (I.at_ j i hj).1 (fh _ _)
   ·refine aQ (fZ hi) λj hj=>?_
    have hm:=dK cs.m st.n▸lt_of_get hj;exact af ((dQ _ _ _ hm).symm.trans hj)▸Ch hm _
  exact ⟨bz z (aI (O0O.n▸k1) (by decide)),z⟩
 have Mh:Z3.ob.Nodup:=by
  refine ae e3 ?_;refine aeo.mpr ⟨I.nd,wM λi j a h1 h2=>?_,λx hx y hy e=>?_⟩
  ·have m1:=dK cs.m st.n▸lt_of_get h1
   have m2:=dK cs.m st.n▸lt_of_get h2;exact MN ((af ((dQ _ _ _ m1).symm.trans h1)).trans (af ((dQ _ _ _ m2).symm.trans h2)).symm)
  ·refine aQ (fZ hx) λj hj=>?_
   refine aQ (fZ hy) λj' hj'=>?_;have m2:=dK cs.m st.n▸lt_of_get hj';have z:st.n+j'=y:=af ((dQ _ _ _ m2).symm.trans hj');exact cV.mpr (fh st.n j') (z▸e▸(I.at_ j x hj).1)
 have fW:J.Le (J.back J4 nw nI nV nT):=⟨⟨_,rfl⟩,⟨_,rfl⟩,⟨_,rfl⟩,rfl,rfl,rfl,⟨_,rfl⟩,λx o z=>le.fz x o (S.fz▸z),rfl,λ_ z=>z⟩;have W:=C2 Z3.ob qs st.objs R.wf λi hi=>(BP i hi).1;have Bp:=t7 cs.bs st.ni st.bnd R.eX (aI k2 (by decide));refine au bd.get λb1 b2=>?_;have objs:∀i ao,i< st3.n->st3.get i=some ao->(i< st.n/\st.get i=some ao/\i ∉ sel)\/ ∃a o,(J.back J4 nw nI nV nT).aA[i]?=some a/\s1.heap.get? a=some o/\OR (J.back J4 nw nI nV nT) o ao/\a∈J4.aA/\J4.fz a=none:=λi ao hi hg=>by
  have hg:(putAll Z3.ob qs st.objs).get i=some ao:=O0O.objs▸hg
  by_cases c:i∈Z3.ob
  ·refine aQ (fZ c) λj hj=>?_
   obtain ⟨q,hq⟩:=fo (l:=qs) (by refine ae (tS O0O.al) (ae BC (bH len' (bH lens ?_)));exact lt_of_get hj);have aa:=af ((Dy Z3.ob qs st.objs R.wf (λi hi=>(BP i hi).1) Mh j i q hj hq).symm.trans hg);clear hg;subst aa;refine am (EA O0O.al j q hq) λp p1 p2=>?_;refine cx (l:=Ze.ob) (lens▸lt_of_get hj) λl hl=>?_;refine kj (both hl hj) λw1 a w2 w3=>?_;refine cx (l:=ob') (BC▸lt_of_get p1) λp' p3=>?_;cases FI.at_ j l p' hl p3 with
   |mk Ly q4 z1 z2 z3=>refine bp (R4.objs l Ly w1 z1) λa' o y1 y2 y3=>?_;have aa:=af (w2.symm.trans y1);clear y1;subst aa;exact .inr ⟨a,o,w3,y2,(sq Ln p2).1 (hu j p' p p3 p1 o ((sq Lo z2).2 (um z3 y3))),bx w2,R4.apart l Ly a w1 z1 w2⟩
  ·have hi':i< st.n:=wp λh=>c (by
    refine ae e3 ?_;refine tn _ (bx (i:=i - st.n) ?_);rw [O0O.n] at hi
    exact ae (dQ _ _ _ (Cb h hi)) (ae (wh h) rfl))
   exact .inl ⟨hi',(W.2 i (R.kF hi') c).symm.trans hg,λh=>c (by refine ae e3 ?_;exact qg _ h)⟩
 have hfin:Rel P (J.back J4 nw nI nV nT) st3 s1/\J.Le (J.back J4 nw nI nV nT):=by
  clear R1 F1 sM hmd Rl;subst hP;have l9:∀{m:Nat} {a:Addr},(nJ J4 nw)[m]?=some a->∃j,nw[m]?=some j/\J4.aA[j]?=some a:=λ {m a} h=>by unfold nJ at h;rw [ib] at h;refine am (mo.mp h) λj h3 h4=>?_;refine cx (l:=J4.aA) (R4.bR.symm▸(FI.nl j (bx h3)).2) λb hb=>?_;exact ⟨j,h3,hb.trans (congrArg some ((jY hb).symm.trans h4))⟩
  refine Qd (nA:=nJ J4 nw) R hal S le R4 (λa ha=>?_) (wM λi j a h1 h2=>?_) (O0O.objs▸W.1) (O0O.bnd▸Bp.wf) (O0O.n▸k1) (by rw [O0O.n];unfold nJ;rw [dz];exact congrArg _ FI.m.symm) (by rw [O0O.ni,b1]) (by rw [O0O.nv,ev]) (et.trans ev.symm) (λi ao hi hg=>?_) ?_ (λi C d h hi hg=>?_) (λkk lo hi hk e=>?_) (λp hp=>?_) λp h=>?_
  ·refine aQ (fZ ha) λm hm=>?_
   refine am (l9 hm) λj g1 g2=>?_;refine ⟨bx g2,λq=>?_⟩;refine aQ (fZ q) λj' hj'=>?_;have e:=R4.inj g2 (aN le.aA hj');exact cV.mpr (FI.nl j (bx g1)).1 (e▸I.len▸lt_of_get hj')
  ·refine am (l9 h1) λp p1 p2=>?_
   refine am (l9 h2) λq q1 q2=>?_;exact Dv FI.nd p1 (R4.inj p2 q2▸q1)
  ·refine (objs i ao hi hg).imp_left λ ⟨h1,h2,h3⟩=>⟨h1,h2,λa ha q=>?_⟩
   refine ba (I.of R q) λj i' g1 g2=>?_;exact h3 (R.inj ha g2▸bx g1)
  ·obtain ⟨z1,e,z2,z3, -⟩ | ⟨z1,z2⟩:=FI.x
   ·refine aQ (fo (l:=J4.aA) (R4.bR.symm▸(FI.nl e (bx z3)).2)) λa ha=>?_
    refine .inr ⟨e,st.n,a,z2,O0O.x.trans (cf z1),?_,ha⟩;show (J.aA++nJ J4 nw)[st.n]?=some a;rw [<-R.bR,iX (cG _),qm];exact map_getD z3 ha
   ·exact .inl ⟨(O0O.x.trans (cu z1)).trans hx.symm,z2⟩
  ·have hO:=O0O.x.symm.trans h
   cases ce:cs.ex with
   |false=>rw [ce] at hO;exact aD hO
   |true=>
    rw [ce] at hO;obtain rfl:st.n=i:=af hO;obtain ⟨j,hj⟩:∃j,Z3.ob[j]?=some st.n:=by
     obtain ⟨z1,e,z2,z3, -⟩ | ⟨z1,z2⟩:=FI.x
     ·have hm:0< cs.m:=FI.m▸lt_of_get z3
      refine fZ (by refine ae e3 ?_;exact tn _ (bx (i:=0) (dQ _ _ _ hm)))
     ·exact cH (ce.symm.trans z1)
    obtain ⟨q,hq⟩:=fo (l:=qs) (by refine ae (tS O0O.al) (ae BC (bH len' (bH lens ?_)));exact lt_of_get hj);have hg:(putAll Z3.ob qs st.objs).get st.n=some (.exc C d):=O0O.objs▸hg;obtain rfl:=af ((Dy Z3.ob qs st.objs R.wf (λi hi=>(BP i hi).1) Mh j _ q hj hq).symm.trans hg);refine am (EA O0O.al j _ hq) λp p1 p2=>?_;exact Qz (k3 p (bx p1)) p2
  ·rw [O0O.bnd] at e
   have hk':kk< 2048:=bz (O0O.ni▸hk) (aI k2 (by decide))
   by_cases cc:kk< st.ni
   ·exact (R.bnd kk lo hi cc ((Bp.out kk hk' (.inl cc)).symm.trans e)).imp λi h=>⟨aN ⟨_,rfl⟩ h.1,h.2⟩
   ·have cc:=i5 cc
    have hlt:kk - st.ni< cs.bs.length:=Cb cc (O0O.ni▸hk);refine cx hlt λb hb=>?_;have z:=Bp.at_ _ b hb;rw [wh cc,e] at z;refine am (b2 _ lo hi (z▸hb)) λi g1 g2=>?_;refine ⟨i,?_,g2⟩;refine ae (iX (R.cY.symm▸cc)) (ae R.cY ?_);exact g1
  ·exact aN ⟨_,rfl⟩ (R.sub p (O0O.sub▸hp))
  ·rw [O0O.aU] at h
   exact (dZ.mp h).elim (hp p) λh=>(R.aU p h).mono fW
 refine aQ FI.res λa r1=>?_;have r1:fK rr=some (cs.ex,a):=r1;have rv:∀v,VR J1 a v->VR (J.back J4 nw nI nV nT) r v:=λv h=>(pK Ln kr).1 (nQ Lo a r1 v (h.mono l4));obtain rfl:=Ek r1;have P3:=post _ st3 (J.back J4 nw nI nV nT) s1 hk;cases ce:cs.ex with
 |false=>rw [ce] at P3;exact λv h=>P3 trivial hfin.2 hfin.1 v (rv v h)
 |true=>
  rw [ce] at P3;refine λv h=>P3 ?_ hfin.2 hfin.1 v (rv v h);obtain ⟨-,e, -,z3,z4⟩ | ⟨z1, -⟩:=FI.x
  ·rw [hO ce] at kr
   refine ah kr λi y1 y2=>?_;have hm:0< cs.m:=FI.m▸lt_of_get z3;rw [dS,e3,iX (cG _),qm,dQ _ _ _ hm] at y1;exact ⟨st.n,(af y2).symm.trans (congrArg _ (af y1).symm),O0O.x.trans (cf ce)⟩
  ·exact cH (ce.symm.trans z1)
end
section
variable{P:Pr}{J J' J3 Jf:G}{st:St}{s:Shared}{A:Around}{c c':Cx}{k kc:Kont}{Rr:Result->Shared->Prop}{f:Nat}{args:List AV}{vs:List Value}{gh:G->Prop}{Z:Th}{rr:bG}
noncomputable def Dt.grow(D:Dt)(nI:List Int)(nT:List AV):Dt:={D with iI:=D.iI++nI,tA:=D.tA++nT}
theorem OW.fw(le:J.Le J3){w:OW}{o:Option Int}(h:w.ev J=some o):w.ev J3=some o:=by
 cases w with
 |cp k=>exact (congrArg (λl:List (Option Int)=>l[k]?) le.oO).symm.trans h
 |no=>exact h
 |int e=>exact gk (λa z=>AI.fw le z) (λ_ _ z=>z) h
theorem NW.oG{g g':Nat->Option Int}(l:∀k i,g k=some i->g' k=some i){w:NW}{o:Note}(h:w.val g=some o):w.val g'=some o:=by
 cases w with
 |int e=>exact gk (λa z=>AI.oG l e a z) (λ_ _ z=>z) h
 |row s ws=>
  refine gk (λa z=>?_) (λ_ _ z=>z) h;clear h
  induction ws generalizing a with
  |nil=>exact z
  |cons x r ih=>exact gk (λi z=>AI.oG l x i z) (λb _ z=>gk (λa z=>ih a z) (λ_ _ z=>z) z) z
theorem Fh{g g':Nat->Option Int}(l:∀k i,g k=some i->g' k=some i){ws:List NW}:∀{r:List Note},bX (NW.val g) ws=some r->bX (NW.val g') ws=some r:=by
 induction ws with
 |nil=>exact λz=>z
 |cons x r ih=>exact λz=>gk (λ_ z=>NW.oG l z) (λb _ z=>gk (λa z=>ih z) (λ_ _ z=>z) z) z
theorem PK(le:J.Le J3){o:Option Nat}{M:List Note}(h:lC J o M):lC J3 o M:=by
 cases o with
 |none=>exact h
 |some i=>exact (congrArg (λl:List (List Note)=>l[i]?) le.pP).symm.trans h
theorem dF.mono(le:J.Le J3){v:Value}{a:AV}(h:dF J v a):dF J3 v a:=by
 cases h with
 |ref h e=>exact .ref (aN le.aA h) e
 |aY hk h=>exact .aY hk (aN le.vV h)
 |none e=>exact .none e
theorem lm{Y:Type}{l r:List Y}{k:Nat}{a:Y}(h:nth (app l r) k=some a):nth l k=some a\/ ∃j,k=l.length+j/\nth r j=some a:=by
 rw [dS,cW] at h
 by_cases c:k< l.length
 ·rw [qe c] at h;exact .inl ((dS _ _).trans h)
 ·have c:=i5 c
  rw [iX c] at h;exact .inr ⟨k - l.length,(wh c).symm,(dS _ _).trans h⟩
theorem eP{Y:Type}{f:Nat->Y}{m b j:Nat}{a:Y}(h:nth (mp f (upTo m b)) j=some a):j< m/\a=f (b+j):=by rw [dS,dD,ib] at h;refine am (mo.mp h) λi h1 h2=>?_;have hj:=dK m b▸lt_of_get h1;exact ⟨hj,h2.symm.trans (congrArg f (af ((dQ m b j hj).symm.trans h1)).symm)⟩
theorem qT{Y:Type}(l r:List Y)(j:Nat):(l++r)[l.length+j]?=r[j]?:=by rw [iX (fh _ _),My]
theorem UJ{m n:Nat}{nI:List Int}{nT:List AV}{D:Dt}(C:CorrD J Z J')(le:J.Le J3)(e1:Jf.iI=J'.iI++nI)(e2:Jf.sS=J'.sS)(e3:Jf.vV=J'.vV)(e4:Jf.oO=J'.oO)(e5:Jf.pP=J'.pP)(e6:Jf.tA=J'.tA++nT)(e7:Jf.fz=J3.fz)(e8:Jf.wd=J3.wd)(ha:∀(j:Nat) (a:Addr),J'.aA[j]?=some a->Jf.aA[j]?=some a)
  (li:Z.iw.length=J'.iI.length) (lt:nT.length=0\/Z.tw.length=J'.tA.length) (g1:J3.iI=J.iI++nI) (g2:J3.tA=J.tA++nT) (fr:∀T∈nT,Free false T):CorrD J3 (Z.grow m n nI.length J.iI.length nT.length J.tA.length) Jf where
 iw:=λk e h=>by
  obtain h | ⟨j,rfl,z⟩:=lm h
  ·exact (C.iw k e h).imp λi z=>⟨e1▸aN ⟨nI,rfl⟩ z.1,AI.fw le z.2⟩
  ·refine au (eP z) λhj aq=>?_
   have aa:=aq;clear z h aq;subst aa;refine cx hj λi hi=>?_;exact ⟨i,by rw [e1,li,qT];exact hi,by show J3.iI[_]?=_;rw [g1,qT];exact hi⟩
 sw:=λk w h=>(C.sw k w h).imp λi z=>⟨e2▸z.1,SW.fw le z.2⟩
 vw:=λk w h=>(C.vw k w h).imp λi z=>⟨e3▸z.1,z.2.1,z.2.2.mono le⟩
 ow:=λk w h=>(C.ow k w h).imp λi z=>⟨e4▸z.1,OW.fw le z.2⟩
 pw:=λk q h=>by
  cases C.pw k q h with
  |mk N ns h1 h2 h3 h4=>exact ⟨N,ns,PK le h1,Fh (λ_ _=>aN le.iI) h2,e5▸h3,h4⟩
 tw:=λj t h=>by
  obtain h | ⟨i,rfl,z⟩:=lm h
  ·cases C.tw j t h with
   |mk T r h1 h2 h3 h4=>
    refine ⟨T,r,e6▸aN ⟨nT,rfl⟩ h1,h2,λq=>(h3 q).imp λa z=>⟨aN le.aA z.1,ha 7 a z.2⟩,?_⟩;cases t with
    | «at» i=>exact aN le.tA h4
    |tree O a=>exact h4
  ·refine au (eP z) λhj aq=>?_
   have aa:=aq;clear z h aq;subst aa;refine cx hj λT hT=>?_;have l:=lt.resolve_left (Cz (mu hj));exact ⟨T,false,by rw [e6,l,qT];exact hT,fr T (bx hT),λq=>aE q,by show J3.tA[_]?=_;rw [g2,qT];exact hT⟩
 fz:=e7
 wd:=e8
inductive End(k:Kont)(J:G)(st:St)(Z:Th)(D:Dt)(rr:bG)(J4:G)(bc:St):Prop
 |raw {De:Dt} (cs:Cs) (hS:AV) (ob':List AO) (nw:List Nat) (nI:List Int) (nT:List AV) (Ze:Th) (ps:List (Nat×Option Nat)) (hf:sg Ze bc rr Z.ob.length nw (oR cs hS ob')=true) (hO:cs.ex=true->cs.res= .ref Z.ob.length) (nQ:dX J4 Ze (J4.sub Ze.ob De)->∀a,fK rr=some (cs.ex,a)->∀v,VR J4 a v->VR (J4.sub Ze.ob (D.grow nI nT)) cs.res v) (hu:ct (λp p'=>∀o,OR (J4.sub Ze.ob De) o p->OR (J4.sub Ze.ob (D.grow nI nT)) o p') ob' cs.objs) (hk:fH (Z.on st cs) st cs ps k=true) (Ce:CorrD J4 Ze (J4.sub Ze.ob De))
  (bd:Bd cs.bs nI) (et:nT.length=cs.nv) (fr:∀T∈nT,Free false T) (lt:nT.length=0\/Z.tw.length=D.tA.length) (hp:∀p∈ps,fF J p):End k J st Z D rr J4 bc
theorem End.mk{J4:G}{bc:St}{D:Dt}{De:Dt}(cs:Cs)(hS:AV)(ob':List AO)(nw:List Nat)(nI:List Int)(nT:List AV)(Ze:Th)(ps:List (Nat×Option Nat))(hf:iB Ze bc rr Z.ob.length nw (oR cs hS ob')=true)(hO:cs.ex=true->cs.res= .ref Z.ob.length)(nQ:∀v,VR (J4.sub Ze.ob De) hS v->VR (J4.sub Ze.ob (D.grow nI nT)) cs.res v)(hu:ct (λp p'=>∀o,OR (J4.sub Ze.ob De) o p->OR (J4.sub Ze.ob (D.grow nI nT)) o p') ob' cs.objs)(hk:fH (Z.on st cs) st cs ps k=true)(Ce:CorrD J4 Ze (J4.sub Ze.ob De))
  (bd:Bd cs.bs nI) (et:nT.length=cs.nv) (fr:∀T∈nT,Free false T) (lt:nT.length=0\/Z.tw.length=D.tA.length) (hp:∀p∈ps,fF J p):End k J st Z D rr J4 bc:=by
 refine Ui (RH hf) λq1 a q r1 r2 r3=>?_;exact .raw cs hS ob' nw nI nT Ze ps q1 hO (λCo a' ha v hv=>nQ v ((pK Co r2).2 (Gj r3 ((bU.inj (af (ha.symm.trans r1))).2▸hv)))) hu hk Ce bd et fr lt hp
theorem Ka{D1:Dt}{objs objs':List AO}{bs:List (Option (Int×Int))}{nv:Nat}{D:Dt}(gm:∀{a b:G},a.Le b->gh a->gh b)(R:Rel P J st s)(F:dB P J c A)(hc:iR c'.d c'.u c=true)(hu:c'.ups= [])(hin:fQ Z st objs=true)(C1:CorrD J Z (J.sub Z.ob D1))(C:CorrD J Z (J.sub Z.ob D))(li:Z.iw.length=D.iI.length)(hun:ct (λp p'=>∀o,OR (J.sub Z.ob D1) o p->OR (J.sub Z.ob D1) o p') objs objs')
  (hd:Bd bs D1.iI) (hb:bs.length<=2048) (lV:D1.vV.length=nv) (lT:D1.tA.length=nv) (lS:∀z∈D1.sS,z.length<=10000) (hg:gh (J.sub Z.ob D1)) (GK:∀P':Pr,P'.gh=gh->bZ P' c' f args (c6 objs' bs nv) kc) (hv:dX J Z (J.sub Z.ob D1)->ay (J.sub Z.ob D1) args vs) (post:Post P k J (sx Rr))
  (out:∀P':Pr,∀rr st1 J1 s1,P'.gh=gh->kc rr st1=true->(J.sub Z.ob D1).Le J1->Rel P' J1 st1 s1->∃J4 bc,J1.Le J4/\Rel P' J4 bc s1/\End k J st Z D rr J4 bc):codeAny (Md P) A (.call (.ref f) ⟨vs,[]⟩) Rr s:=by
 refine jw (UM R hin C1 hun.get hd hb lV lT lS) λI Co hx frm=>?_;refine Rt gm R F hc hu hx I rfl frm hg GK (hv Co) post λP' rr st1 J1 s1 h1 h2 h3 h4=>?_;refine bp (out P' rr st1 J1 s1 h1 h2 h3 h4) λJ4 bc l4 R4 E=>?_;refine ⟨J4,bc,l4,R4,?_⟩;have le:=h3.trans l4;cases E with
 | @raw De cs hS ob' nw nI nT Ze ps hf hO nQ hu hk Ce bd et fr lt hp=>
  have FI:=ER (J4:=J4) hf;have fW:J.Le (J.back J4 nw nI (ew nT.length .none) nT):=⟨⟨_,rfl⟩,⟨_,rfl⟩,⟨_,rfl⟩,rfl,rfl,rfl,⟨_,rfl⟩,λx o z=>le.fz x o z,rfl,λ_ z=>z⟩;have C3:=UJ (m:=cs.m) (n:=st.n) (D:=D) (Jf:=J4.sub Ze.ob (D.grow nI nT)) C fW rfl rfl rfl rfl rfl rfl rfl le.wd (λj a z=>?_) li lt rfl rfl fr
  ·refine .mk cs hS ob' nw nI (ew nT.length .none) nT De (D.grow nI nT) Ze (Z.on st cs) ps (cW _ _) hf hO nQ hu hk Ce ?_ bd (MC.trans et) et λp h=>(hp p h).mono fW
   have e:Z.on st cs=Z.grow cs.m st.n nI.length J.iI.length nT.length J.tA.length:=by unfold Th.on;rw [len_eq, <-(bd.get).1,R.cY,R.eU,et]
   refine ae e ?_;exact C3
  ·have hj:=I.len▸lt_of_get z
   exact map_getD (by rw [FI.ls,qe ((dK _ _).symm▸hj),dQ _ _ _ hj,bJ]) (aN le.aA z)
theorem con{objs objs':List AO}{bs:List (Option (Int×Int))}{nv:Nat}{D:Dt}(gm:∀{a b:G},a.Le b->gh a->gh b)(R:Rel P J st s)(F:dB P J c A)(hc:iR c'.d c'.u c=true)(hu:c'.ups= [])(hin:fQ Z st objs=true)(C:CorrD J Z (J.sub Z.ob D))(li:Z.iw.length=D.iI.length)(hun:ct (λp p'=>∀o,OR (J.sub Z.ob D) o p->OR (J.sub Z.ob D) o p') objs objs')
  (hd:Bd bs D.iI) (hb:bs.length<=2048) (lV:D.vV.length=nv) (lT:D.tA.length=nv) (lS:∀z∈D.sS,z.length<=10000) (hg:gh (J.sub Z.ob D)) (GK:∀P':Pr,P'.gh=gh->bZ P' c' f args (c6 objs' bs nv) kc) (hv:dX J Z (J.sub Z.ob D)->ay (J.sub Z.ob D) args vs) (post:Post P k J (sx Rr))
  (out:∀P':Pr,∀rr st1 J1 s1,P'.gh=gh->kc rr st1=true->(J.sub Z.ob D).Le J1->Rel P' J1 st1 s1->∃J4 bc,J1.Le J4/\Rel P' J4 bc s1/\End k J st Z D rr J4 bc):codeAny (Md P) A (.call (.ref f) ⟨vs,[]⟩) Rr s:=Ka gm R F hc hu hin C C li hun hd hb lV lT lS hg GK hv post out
end
structure Ow where
 o1:List Nat
 o2:List Nat
 ins:Bool
structure cw(w:Ow)(d:SD):Prop where
 o1:w.o1∈kH
 o2:w.o2∈kI
 v:d.v<=1
 L:d.L<=3
 r:d.r<=3
 D:∀e,nU (d.D e)
noncomputable def nq(ins up:Bool)(V:Nat->Option Int)(v:Nat):Option Int:=bf (ins&& !up) (oe (V v) some (V (2+v))) (V v)
noncomputable def AI.at(l:List Int)(e:AI):Option Int:=e.val λk=>l[k]?
noncomputable def NW.at(l:List Int)(n:NW):Option Note:=n.val λk=>l[k]?
namespace SD
section
variable(w:Ow)(d:SD)(V:Nat->Option Int)(N:List Note)
noncomputable def nW:Option Int:=bf (aM d.r 1) (some d.num) (nq w.ins false V (d.r - 2))
noncomputable def jH:Option Int:=bf (!w.ins&&d.up) none (nq w.ins d.up V d.v)
noncomputable def lv:Int:=(nq w.ins d.up V d.v).getD 0
noncomputable def rv:Int:=(d.nW w V).getD 0
noncomputable def el(p:Nat):fG:=d.D (cX d.L p)
noncomputable def oW(p:Nat):jy:=jC (aM d.L (p+1)) (d.el p).g (d.el p).ix w.o1 w.o2
noncomputable def tL(l:List Int)(p:Nat):Int:=bf (aM d.L (p+1)) (bf (ag (2* d.L - 2 - p) 0) (d.lv w V) (l.getD (2* d.L - 2 - p) 0)) (bf (ag p 0) (d.lv w V) (l.getD p 0))
noncomputable def fL(l:List Int)(p:Nat):Int:=bf (aM d.L (p+1)) (bf (ag (p+1) d.L) (d.rv w V) (l.getD p 0)) (d.tL w V l p)
noncomputable def l3(l:List Int)(p:Nat):List Int:=[d.tL w V l p,d.fL w V l p,(d.el p).n]
noncomputable def iW(l:List Int)(p:Nat):Int:=(ob (d.oW w p).res (AI.at (d.l3 w V l p))).getD 0
noncomputable def Zn(n:Nat):List Int:=cC [d.num] (λp l=>l++ [d.iW w V l p]) n
noncomputable def ns(p:Nat):List Note:=(bX (NW.at (d.l3 w V (d.Zn w V 5) p)) (d.oW w p).notes).getD []
noncomputable def Nn(n:Nat):List Note:=cC (bf (ag d.r 1) (N++ [.int d.num]) N) (λp x=>x++d.ns w V p) n
noncomputable def fY(p:Nat):Option Int:=bf (lH (d.oW w p)) (some (d.iW w V (d.Zn w V 5) p)) none
noncomputable def lx(n:Nat):b5:=cC (λ_=>.ok) (λ_ f p=>oe (.step p) (λ_=>f (p+1)) (d.fY w V p)) n 0
noncomputable def way:b5:=oe .lj (λ_=>bf (ag d.L 0) .ok (oe .fC (λ_=>d.lx w V (2* d.L - 1)) (d.jH w V))) (d.nW w V)
noncomputable def val:Option Int:=bf (isOk (d.way w V)) (some (d.rv w V)) none
noncomputable def msg:List Nat:=b5.rec (motive:=λ_=>List Nat) [] (noObj (d.r - 2)) (noObj d.v) (λp=>(d.oW w p).msg) (d.way w V)
noncomputable def last:Int:=bf (ag d.L 0) (d.rv w V) ((d.Zn w V 5).getD (2* d.L - 1) 0)
noncomputable def next(k:Nat):Option Int:=bf (isOk (d.way w V)&&ag k (placeOf w.ins d.up d.v)) (some (d.last w V)) (V k)
noncomputable def notes:List Note:=b5.rec (motive:=λ_=>List Note) (d.Nn w V N (2* d.L - 1)) N (d.Nn w V N 0) (λp=>d.Nn w V N (p+1)) (d.way w V)
end
end SD
noncomputable def iz(d:fG)(inner:AV):AV:=iA (cv (.lit [d.g])::inner::eD d.ix (.lit d.n))
noncomputable def mf(d:SD):Nat->Nat->AV:=cC (λ_=>cv (.lit [120+d.v])) (λ_ f e=>bf (bh (e+1) d.L) (iz (d.D (e+1)) (f (e+1))) (cv (.lit [120+d.v])))
noncomputable def inner(d:SD)(e:Nat):AV:=mf d (2 - e) e
noncomputable def ka(d:SD)(e:Nat):AV:=.bw (cv (.lit [(d.D e).g])::inner d e::eD (d.D e).ix (.lit (d.D e).n))
noncomputable def ku(d:SD)(e:Nat):AV:=.bw (mp (λ_=>.none) (AV.none::AV.none::eD (d.D e).ix (.lit (d.D e).n)))
noncomputable def kD(d:fG):AV:=(eD d.ix (.lit d.n)).headD .none
noncomputable def trees(w:Ow)(d:SD):List AV:=[cK w.o1,cS w.o2,ka d 0,ku d 0,ka d 1,ku d 1,ka d 2,ku d 2,inner d 0,inner d 1,inner d 2,ei (d.D 0).ix (.lit (d.D 0).n),ei (d.D 1).ix (.lit (d.D 1).n),ei (d.D 2).ix (.lit (d.D 2).n),.str (.lit [(d.D 0).g]),.str (.lit [(d.D 1).g]),.str (.lit [(d.D 2).g]),kD (d.D 0),kD (d.D 1),kD (d.D 2)]
noncomputable def kl(w:Ow)(d:SD)(V:Nat->Option Int):List Int:=d.Zn w V 5++ [(d.D 0).n,(d.D 1).n,(d.D 2).n,(d.val w V).getD 0]
noncomputable def so(w:Ow)(d:SD)(V:Nat->Option Int):List (List Nat):=((upTo 3 0).map λe=>[(d.D e).g])++(((upTo 5 0).map λp=>(d.oW w p).msg)++ [d.msg w V])
noncomputable def br(w:Ow)(d:SD)(V:Nat->Option Int)(N:List Note)(more:List Int)(vs:List Value)(ts:List AV):Dt:=⟨kl w d V++more,vs,[w.o1,w.o2]++so w d V,(upTo 4 0).map V++((upTo 5 0).map (d.fY w V)++(upTo 4 0).map (d.next w V)),N::((upTo 6 0).map (d.Nn w V N)++ [d.notes w V N]),ts⟩
noncomputable def ud(w:Ow)(d:SD):List AV:=ka d 0::ka d 0::(trees w d).drop 2
structure Pre(D:Dt)(J:G):Prop where
 iI:D.iI<+:J.iI
 vV:D.vV<+:J.vV
 sS:J.sS=D.sS
 oO:J.oO=D.oO
 pP:J.pP=D.pP
 tA:D.tA<+:J.tA
theorem Pre.le{D:Dt}{J J':G}(h:Pre D J)(l:J.Le J'):Pre D J':=⟨h.iI.trans l.iI,h.vV.trans l.vV,l.sS.symm.trans h.sS,l.oO.symm.trans h.oO,l.pP.symm.trans h.pP,h.tA.trans l.tA⟩
theorem rd(J:G)(sel:List Nat)(D:Dt):Pre D (J.sub sel D):=⟨bT _,bT _,rfl,rfl,rfl,bT _⟩
section
variable{w:Ow}{d:SD}{V:Nat->Option Int}{N:List Note}{more:List Int}{vs:List Value}{ts:List AV}
theorem lA(n:Nat):(d.Zn w V n).length=n+1:=by
 induction n with
 |zero=>rfl
 |succ n ih=>exact cJ.trans (congrArg (· +1) ih)
theorem rI{n m:Nat}(h:n<=m):d.Zn w V n<+:d.Zn w V m:=by
 induction h with
 |refl=>exact bT _
 |step _ ih=>exact ih.trans ⟨_,rfl⟩
theorem Wt{p j m:Nat}(h:j<=p)(hm:p<=m):(d.Zn w V m).getD j 0=(d.Zn w V p).getD j 0:=by refine cx (l:=d.Zn w V p) (iZ (fg h) (lA p).symm) λa ha=>?_;exact (jY (aN (rI hm) ha)).trans (jY ha).symm
theorem abI{p m:Nat}(hm:p<=m):d.l3 w V (d.Zn w V m) p=d.l3 w V (d.Zn w V p) p:=by
 have a:∀j,j<=p->_:=λj h=>Wt (w:=w) (d:=d) (V:=V) h hm;have t:d.tL w V (d.Zn w V m) p=d.tL w V (d.Zn w V p) p:=by
  unfold SD.tL;refine ae (a p (cG p)) ?_;cases c:aM d.L (p+1) with
  |false=>rfl
  |true=>have h:=bt c;exact ae (a (2* d.L - 2 - p) (Cg (Cg (aI (n9 2 h) (ck (congrArg (· +2) (NZ p))))))) rfl
 unfold SD.l3 SD.fL;exact ae t (ae (a p (cG p)) rfl)
theorem aei{p:Nat}(h:p< 5):(d.Zn w V 5)[p+1]?=some (d.iW w V (d.Zn w V 5) p):=by
 have e:(d.Zn w V (p+1))[p+1]?=some (d.iW w V (d.Zn w V p) p):=by show (d.Zn w V p++ [_])[p+1]?=_;rw [<-lA (w:=w) (d:=d) (V:=V) p,iX (cG _),qm];rfl
 refine ae (aN (rI h) e) ?_;unfold SD.iW;exact ae (abI (ot h)) rfl
noncomputable def kM(n:Nat)(e:AI):Bool:=AI.rec (motive:=λ_=>Bool) (λ_=>true) (λk=>bh k n) (λ_ _ a b=>a&&b) (λ_ _ a b=>a&&b) (λ_ _ a=>a) (λ_ _ a=>a) e
noncomputable def B7(e:AI):Bool:=kM 3 e
noncomputable def nOk(n:NW):Bool:=NW.rec (motive:=λ_=>Bool) B7 (λ_ l=>bF l B7) n
noncomputable def Il(o:jy):Bool:=oe true B7 o.res&&(bF o.notes nOk&&(aM (len o.notes) 2&&aM (len o.msg) 60))
theorem Q8:([false,true].all λs=>[103,104,107,117].all λg=>[0,1,2].all λix=>kH.all λa=>kI.all λb=>Il (jC s g ix a b))=true:=by kernel_rfl
theorem js{n:Nat}{l:List Int}(hl:l.length=n)(e:AI):kM n e=true->∃z,e.at l=some z:=by
 induction e with
 |lit i=>exact λ_=>⟨i,rfl⟩
 |var k=>exact λh=>fo (hl▸d7.mp h)
 |add a b ha hb=>intro h;refine aQ (ha (bq h).1) λx hx=>?_;refine aQ (hb (bq h).2) λy hy=>?_;exact ⟨x+y,bQ hx (bQ hy rfl)⟩
 |mul a b ha hb=>intro h;refine aQ (ha (bq h).1) λx hx=>?_;refine aQ (hb (bq h).2) λy hy=>?_;exact ⟨x* y,bQ hx (bQ hy rfl)⟩
 |md a m ha=>exact λh=>(ha h).elim λx hx=>⟨wP x m,bQ hx rfl⟩
 |dv a m ha=>exact λh=>(ha h).elim λx hx=>⟨qE x m,bQ hx rfl⟩
theorem EB{Y β:Type}{f:Y->Option β}{l:List Y}:(∀a∈l,∃b,f a=some b)->∃r,bX f l=some r:=by
 induction l with
 |nil=>exact λ_=>⟨[],rfl⟩
 |cons a l ih=>intro h;refine aQ (h a (.head _)) λx hx=>?_;refine aQ (ih λb hb=>h b (.tail _ hb)) λr hr=>?_;exact ⟨x::r,bQ hx (bQ hr rfl)⟩
structure aa1(w:Ow)(d:SD)(V:Nat->Option Int)(p:Nat):Prop where
 res:∀e,(d.oW w p).res=some e->e.at (d.l3 w V (d.Zn w V 5) p)=some (d.iW w V (d.Zn w V 5) p)
 ns:bX (NW.at (d.l3 w V (d.Zn w V 5) p)) (d.oW w p).notes=some (d.ns w V p)
 len:(d.ns w V p).length<=2
 msg:(d.oW w p).msg.length<=60
theorem uQ(b:Bool):b∈ [false,true]:=NF b (.head _) (.tail _ (.head _))
theorem rD(ok:cw w d)(p:Nat):aa1 w d V p:=by
 have h:Il (d.oW w p)=true:=be.mp (be.mp (be.mp (be.mp (be.mp Q8 _ (uQ _)) _ (ok.D _).1) _ (ok.D _).2) _ ok.o1) _ ok.o2;refine aB h λh1 h=>?_;refine aB h λh2 h=>?_;refine aB h λh3 h4=>?_;obtain ⟨r,hr⟩:=EB (f:=NW.at (d.l3 w V (d.Zn w V 5) p)) λn hn=>by
  have hn:=dm h2 n hn;cases n with
  |int e=>exact (js (n:=3) rfl e hn).elim λz hz=>⟨_,bQ hz rfl⟩
  |row s l=>exact (EB λe he=>js (n:=3) rfl e (dm hn e he)).elim λz hz=>⟨_,bQ hz rfl⟩
 have e:d.ns w V p=r:=congrArg (λo=>N7 o []) hr;refine ⟨λe he=>?_,e.symm▸hr,e.symm▸(tS hr).symm▸len_eq (d.oW w p).notes▸bt h3,len_eq (d.oW w p).msg▸bt h4⟩;rw [he] at h1;refine aQ (js (n:=3) (l:=d.l3 w V (d.Zn w V 5) p) rfl e h1) λz hz=>?_;unfold SD.iW;refine ae he ?_;exact hz.trans (congrArg (λo=>some (N7 o 0)) hz).symm
theorem dE{Y:Type}{f:Nat->Y}{n k:Nat}(h:k< n):((upTo n 0).map f)[k]?=some (f k):=by rw [ib,dQ n 0 k h,bJ];rfl
theorem gw{Y:Type}{f:Nat->Y}{n:Nat}:((upTo n 0).map f).length=n:=(dz _).trans (dK n 0)
theorem bW{Y:Type}{l r:List Y}{k:Nat}{a:Y}(h:l[k]?=some a):(l++r)[k]?=some a:=aN ⟨r,rfl⟩ h
theorem cO{Y:Type}{l r:List Y}{k:Nat}{a:Y}(n:Nat)(hn:l.length=n)(h:r[k]?=some a):(l++r)[n+k]?=some a:=hn▸(qT l r k).trans h
section
variable{J:G}(h:Pre (br w d V N more vs ts) J)
include h
theorem Pre.i{k:Nat}{i:Int}(e:(d.Zn w V 5)[k]?=some i):J.iI[k]?=some i:=aN h.iI (bW (bW e))
theorem Pre.i6(k:Nat){i:Int}(e: [(d.D 0).n,(d.D 1).n,(d.D 2).n,(d.val w V).getD 0][k]?=some i):J.iI[6+k]?=some i:=aN h.iI (bW (cO 6 (lA 5) e))
theorem Pre.o{k:Nat}(hk:k< 4):J.oO[k]?=some (V k):=h.oO▸bW (dE hk)
theorem Pre.s{p:Nat}(hp:p< 5):J.oO[4+p]?=some (d.fY w V p):=h.oO▸cO 4 gw (bW (dE hp))
theorem Pre.g{e:Nat}(he:e< 3):J.sS[2+e]?=some [(d.D e).g]:=h.sS▸cO 2 rfl (bW (dE he))
theorem Pre.m{p:Nat}(hp:p< 5):J.sS[5+p]?=some (d.oW w p).msg:=by refine ae h.sS (ae (show 5+p=2+(3+p) from (ie 2 3 p)) ?_);exact cO 2 rfl (cO 3 gw (bW (dE hp)))
theorem Pre.mm:J.sS[10]?=some (d.msg w V):=h.sS▸rfl
omit h in
theorem gc:(kl w d V).length=10:=cJ.trans (congrArg (· +4) (lA 5))
theorem Pre.n{p:Nat}(hp:p< 6):J.pP[1+p]?=some (d.Nn w V N p):=h.pP▸cO (l:=[N]) 1 rfl (bW (dE hp))
theorem Pre.t{j:Nat}{T:AV}(e:ts[j]?=some T):J.tA[j]?=some T:=aN h.tA e
end
theorem ry(ok:cw w d)(n:Nat):(d.Nn w V N n).length<=N.length+1+2* n:=by
 induction n with
 |zero=>
  show (bf (ag d.r 1) (N++ [.int d.num]) N).length<=N.length+1;cases ag d.r 1 with
  |true=>exact ck cJ
  |false=>exact oz _
 |succ n ih=>show (d.Nn w V N n++d.ns w V n).length<=N.length+1+2* n+2;exact cJ▸i9 ih (rD ok n).len
theorem abn{L p:Nat}(h:p+2<=2* L):cX L p< L:=by
 unfold cX;cases c:aM L (p+1) with
 |true=>exact Cb (bt c) (NZ L▸h)
 |false=>exact dy (wx _ _) (CO (wj λe=>Nat.not_succ_le_zero (p+1) (show p+2<=2* 0 from e▸h)) (by decide))
theorem aa7{J:G}{l:List Int}(h:l<+:J.iI){e:AI}{i:Int}(q:e.at l=some i):e.ev J=some i:=AI.oG (λ_ _=>aN h) e i q
theorem FJ{J:G}{l:List Int}(h:l<+:J.iI){ws:List NW}{r:List Note}(q:bX (NW.at l) ws=some r):bX (NW.ev J) ws=some r:=Fh (λ_ _=>aN h) q
theorem eB{J:G}{k:Nat}{x:List Nat}(h:J.sS[k]?=some x):(SW.var [] k []).ev J=some x:=(congrArg (λo=>ob o λx=>some ([]++(x++ []))) h).trans (congrArg some (i8 x))
end
noncomputable def jx(n b:Nat):List AV:=mp (λk=>.int (.var k)) (upTo n b)
noncomputable def iE(a b:AI)(l:Nat):AO:=.list none [.int a,.int b,.ref l]
noncomputable def pre0:AO:=.list (some 0) []
noncomputable def adv{Y:Type}(l:List Y):Option (Y×Y×Y):=ob (nth l 0) λa=>ob (nth l 1) λb=>ob (nth l 2) λc=>some (a,b,c)
noncomputable def rE(st:St)(i:Nat):Option (AI×AI×Nat):=ob (listAt st i) λq=>ob (adv q.2) λt=>ob (intOf t.1) λa=>ob (intOf t.2.1) λb=>ob (refOf t.2.2) λr=>some (a,b,r)
noncomputable def I4(n:Nat):List (Option (Int×Int)):=none::some (0,1000)::nones n
noncomputable def Gu(n:Nat):List AO:=[iE (.var 0) (.var 1) 1,.list none (jx n 2)]
noncomputable def vb(h m:Int):Cs:=⟨false,.int (.var 4),[iE (.var 2) (.var 3) 1,pre0],0,[none,some (0,h),some (0,m)],0⟩
noncomputable def X4(n b:Nat):Option Nat×List NW:=(none,mp (λk=>.int (.var k)) (upTo n b))
noncomputable def K8(n:Nat)(a b w:AI):Th:=⟨[0,1],[.var 0,.var 1,a,b,w],[],[],[],[X4 n 2],[]⟩
noncomputable def inR(st:St)(w:AI)(lo hi:Int):Bool:=aj (rangeOf st w) λp=> !(bA p.1 lo||bA hi p.2)
noncomputable def adZ(r:bG):Option AI:=ob (fK r) λq=>intOf q.2
noncomputable def Ma(n most:Nat):Kont:=λr st=>aj (rE st 0) λt=>aj (restOf st 1 1 t.2.1) λ_=>aj (adZ r) λw=>(kM st.ni w&&(kM st.ni t.1&&(kM st.ni t.2.1&&inR st w 0 (most - 1))))&&iB (K8 n t.1 t.2.1 w) st r 2 [] (vb 0 0)
noncomputable def Hz(n most:Nat):Bool:=run true kp 400 (.call mb (.glob 998) [.ref 0,.int (.lit most)]) (c6 (Gu n) (I4 n) 0) (Ma n most)
noncomputable def H8:List Nat:=[2,3,4,5,6,9,11]
noncomputable def litN(v:AV):Option Nat:=ob (ob (intOf v) cZ) natOf
noncomputable def AZ(p l:Nat)(a b:AI):Th:=⟨[p,l],[a,b],[],[],[],[(some 0,[])],[]⟩
noncomputable def Vp:List AO:=[iE (.var 0) (.var 1) 1,pre0]
noncomputable def Kc(p most l:Nat)(a b:AI)(h:Int)(c:Cx)(args:List AV)(st:St)(k:Kont):Option Bool:=bf ((iR 40 180 c&&(vp H8 most&&bA h 1000))&&(iL [.ref p,.int (.lit most)] args&&fQ (AZ p l a b) st Vp)) (some (fH ((AZ p l a b).on st (vb (h+1) (most - 1))) st (vb (h+1) (most - 1)) [] k)) none
noncomputable def ym(c:Cx)(args:List AV)(st:St)(k:Kont):Option Bool:=ob (ob (nth args 0) refOf) λp=>ob (ob (nth args 1) litN) λmost=>ob (rE st p) λt=>ob (kC st t.2.1 0) λh=>Kc p most t.2.2 t.1 t.2.1 h c args st k
noncomputable def Hy:iO:=o8 λa c args st k=>bf (ag a 998) (ym c args st k) none
noncomputable def adw{Y:Type}(l:List Y):Option (Y×Y×Y×Y):=ob (nth l 0) λa=>ob (nth l 1) λb=>ob (nth l 2) λc=>ob (nth l 3) λd=>some (a,b,c,d)
noncomputable def itemOf(v:AV)(i:Nat):Option AV:=ob (iM v) λl=>nth l i
noncomputable def iC(O k:Nat):Bool:=ag (k / 1000000) (O+1)
noncomputable def BG(v:AV):Bool:=aj (ob (itemOf v 1) intOf) λe=>dO (ei 1 e) v||dO (ei 2 e) v
noncomputable def pA(v:AV):Bool:=aj (ob (itemOf v 0) gx) λk=>aj (itemOf v 1) λx=>iC 2 k&&((dq x||BG x)&&dO (.tup [.aY k,x]) v)
noncomputable def AS(v:AV):Bool:=BG v||aj (ob (itemOf v 1) gx) λk=>iC 3 k&&dO (.tup [.str (.lit [110,97,109,101]),.aY k]) v
noncomputable def yO:List AO:=[iE (.var 0) (.var 1) 1,pre0,.list none [.int (.var 2)]]
noncomputable def vd(B:Int):Cs:=⟨false,.aY 2000000,[iE (.var 3) (.var 4) 1,pre0,.list none [.int (.var 5)]],0,[none,some (0,B+30),none],1⟩
noncomputable def K9(a b e:AI):Th:=⟨[0,1,2],[.var 0,.var 1,.var 2,a,b,e],[],[],[],[(some 0,[])],[]⟩
noncomputable def Bc(p l nt:Nat)(a b e:AI):Th:=⟨[p,l,nt],[a,b,e],[],[],[],[(some 0,[])],[]⟩
noncomputable def oneAt(st:St)(i:Nat):Option AI:=ob (listAt st i) λq=>ob (nth q.2 0) intOf
noncomputable def adu(B:Int)(r:bG)(st:St)(a b e:AI):Bool:=(kM st.ni a&&(kM st.ni b&&(kM st.ni e&&inR st b 0 (B+30))))&&sg (K9 a b e) st r 3 [] (vd 0)
noncomputable def adt(B:Int)(r:bG)(st:St):Bool:=aj (rE st 0) λu=>aj (oneAt st 2) λe=>adu B r st u.1 u.2.1 e
noncomputable def ads(res:AV)(ar:AV)(kn ch:Nat)(els:List AV)(rt:AV):Bool:=(dO (.tup [ar,.aY kn,.ref ch,rt]) res&&(dO (lR true) ar||dO (lR false) ar))&&((iC 3 kn&&aM (len els) 3)&&(bF els pA&&AS rt))
noncomputable def Mb(B:Int):Kont:=λr st=>aj (fK r) λres=>aj (ob (iM res.2) adw) λt=>aj (gx t.2.1) λkn=>aj (refOf t.2.2.1) λch=>bh ch st.n&&aj (cF true 8 (.ref ch) st) λq=>aj (lU q.1) λels=>ads res.2 t.1 kn ch els t.2.2.2&&adt B r q.2
noncomputable def acl(B:Int):Bool:=run true Hy 1000 (.call hJ (.glob 1012) [.ref 0,.ref 2]) (c6 yO [none,some (0,B),none] 0) (Mb B)
noncomputable def stages:List Nat:=[10,40,70,100]
noncomputable def xT(h:Int):Option Nat:=aW none (λ (B:Nat) _ r=>bf (bA (B:Int) h) r (some B)) stages
noncomputable def KW(p nt l:Nat)(a b e:AI)(B:Nat)(c:Cx)(args:List AV)(st:St)(k:Kont):Option Bool:=bf (iR 20 90 c&&(iL [.ref p,.ref nt] args&&fQ (Bc p l nt a b e) st yO)) (some (fH ((Bc p l nt a b e).on st (vd B)) st (vd B) [] k)) none
noncomputable def AX(c:Cx)(args:List AV)(st:St)(k:Kont):Option Bool:=ob (ob (nth args 0) refOf) λp=>ob (ob (nth args 1) refOf) λnt=>ob (rE st p) λt=>ob (ob (kC st t.2.1 0) xT) λB=>ob (oneAt st nt) λe=>KW p nt t.2.2 t.1 t.2.1 e B c args st k
theorem aat:(stages.all λB=>acl B)=true:=by kernel_rfl
theorem WV:((d6 40).all λn=>H8.all λm=>Hz (n+1) m)=true:=by kernel_rfl
noncomputable def mc:Fr:=me [(230439025,.at 1),(31354237295,.at 2),(27327821935,.at 3)] 0
noncomputable def zW:List AO:=[.dict 99000 true [(Ec,.unk)],.cell (some (.ref 4)),.cell none,.cell none,iE (.lit 0) (.lit 0) 5,pre0]
noncomputable def BW:St:=c6 zW [] 0
noncomputable def IY:iO:=o8 λa c args st k=>bf (ag a 998) (ym c args st k) (bf (ag a 1012) (AX c args st k) none)
noncomputable def HG(st:St)(i:Nat):Option (List Nat):=ob (sD st i) λd=>ob (fX st d 215822691) λb=>ob (sD st b) λbd=>ob (fX st bd 27612723687) λbf_=>ob (fX st bd 31366658157) λbl=>ob (fX st d 513945122911976) λg=>ob (sD st g) λgd=>ob (fX st gd 27612723687) λgf=>ob (fX st gd 31366658157) λgl=>ob (fX st d 4013342374375) λfr=>ob (fX st d 1932144) λo=>some [d,i,bd,b,bf_,bl,gd,g,gf,gl,fr,o]
noncomputable def vo(C:List (List Nat))(a:List Nat):Bool:=aW false (λx _ r=>bf (ag (enc a) (enc x)) true r) C
noncomputable def KX(v:AV):Option (List Nat):=ob (strOf v) litS
noncomputable def Ih(a b:List Nat)(ins:Bool)(m:Nat):List AO:=app (rQ false (.val (cK a)) (.val (cS b)) (qV (.lit 0) (.lit 2)) vr vr 0) [vx,vE 0,.list none (mp (λj=>.aY (2000000+j)) (upTo m 0)),Kn ins]
noncomputable def B3(sel:List Nat)(x y:OW)(a b:List Nat)(ks:List Nat):Th:=⟨sel,[],[.lit a,.lit b],[],[x,y],[],mp (λk=>.at (k % 1000000)) ks⟩
noncomputable def uZ(st:St)(t:Nat)(n:Nm):OW:=oe .no (λe=>.int e) (ob (n5 st t n) intOf)
noncomputable def BT(st:St)(w:OW):Bool:=OW.rec (motive:=λ_=>Bool) (λ_=>false) true (kM st.ni) w
noncomputable def l9(st:St)(j:Nat):Bool:=bh j st.n&&aj (st.get j) λ_=>true
noncomputable def kA2(st:St)(sel:List Nat)(x y:OW)(a b:List Nat)(ks:List Nat)(ins:Bool):Bool:=(BT st x&&BT st y)&&pD (B3 sel x y a b ks) st sel (Ih a b ins (len ks))
noncomputable def kA1(st:St)(sel:List Nat)(t:Nat)(a b:List Nat)(ks:List Nat)(ins:Bool):Bool:=((vo kH a&&vo kI b)&&(gq (app sel [1,2,3])&&bF (app sel [1,2,3]) (l9 st)))&&((bF ks (iC 1)&&(aM 1 (len ks)&&aM (len ks) 4))&&kA2 st sel (uZ st t 121) (uZ st t 122) a b ks ins)
noncomputable def kA:Kont:=rc bB bB bB (λst=>ji st.x&&aj (fX st 0 Eb) λi=>aj (fX st 0 Ff) λo=>aj (fX st 0 Ia) λt=>aj (fX st 0 Du) λp=>aj (ob (n5 st 0 Ea) boolOf) λins=>aj (HG st i) λsel=>aj (listAt st o) λq=>aj (ob (nth q.2 0) KX) λa=>aj (ob (nth q.2 1) KX) λb=>aj (ob (listAt st p) λq=>bX gx q.2) λks=>kA1 st (app sel [o,t,p,0]) t a b ks ins) cP cP bB bB
noncomputable def ad1:Bool:=run true IY 3000 (.sts mc (qd 15 (qc 1 ki))) BW kA
theorem ra:ad1=true:=by kernel_rfl
theorem acb:([1,2,3,4].all λm=>AT false m)=true:=by kernel_rfl
theorem acd:([1,2,3,4].all λm=>AT true m)=true:=by kernel_rfl
theorem aaH:([0,1].all λv=>[0,1,2,3].all λL=>[0,1,2].all λa=>[0,1,2].all λb=>[0,1,2].all λc=>ID v L a b c)=true:=by kernel_rfl
theorem XS:([0,1,2,3].all H2)=true:=by kernel_rfl
theorem aaf:([0,1,2,3].all λL=>[0,1,2,3].all λr=>gv false false 0 L r)=true:=by kernel_rfl
theorem aag:([0,1,2,3].all λL=>[0,1,2,3].all λr=>gv false false 1 L r)=true:=by kernel_rfl
theorem ab2:([0,1].all λv=>[0,1,2,3].all λL=>[0,1,2,3].all λr=>gv false false v L r)=true:=b7.mpr ⟨aaf,b7.mpr ⟨aag,rfl⟩⟩
theorem WW:([0,1,2,3].all λL=>[0,1,2,3].all λr=>gn false false 0 L r)=true:=by kernel_rfl
theorem WX:([0,1,2,3].all λL=>[0,1,2,3].all λr=>gn false false 1 L r)=true:=by kernel_rfl
theorem abi:([0,1].all λv=>[0,1,2,3].all λL=>[0,1,2,3].all λr=>gn false false v L r)=true:=b7.mpr ⟨WW,b7.mpr ⟨WX,rfl⟩⟩
theorem aah:([0,1,2,3].all λL=>[0,1,2,3].all λr=>gv false true 0 L r)=true:=by kernel_rfl
theorem aai:([0,1,2,3].all λL=>[0,1,2,3].all λr=>gv false true 1 L r)=true:=by kernel_rfl
theorem ab3:([0,1].all λv=>[0,1,2,3].all λL=>[0,1,2,3].all λr=>gv false true v L r)=true:=b7.mpr ⟨aah,b7.mpr ⟨aai,rfl⟩⟩
theorem WY:([0,1,2,3].all λL=>[0,1,2,3].all λr=>gn false true 0 L r)=true:=by kernel_rfl
theorem WZ:([0,1,2,3].all λL=>[0,1,2,3].all λr=>gn false true 1 L r)=true:=by kernel_rfl
theorem abj:([0,1].all λv=>[0,1,2,3].all λL=>[0,1,2,3].all λr=>gn false true v L r)=true:=b7.mpr ⟨WY,b7.mpr ⟨WZ,rfl⟩⟩
theorem aaj:([0,1,2,3].all λL=>[0,1,2,3].all λr=>gv true false 0 L r)=true:=by kernel_rfl
theorem aak:([0,1,2,3].all λL=>[0,1,2,3].all λr=>gv true false 1 L r)=true:=by kernel_rfl
theorem ab4:([0,1].all λv=>[0,1,2,3].all λL=>[0,1,2,3].all λr=>gv true false v L r)=true:=b7.mpr ⟨aaj,b7.mpr ⟨aak,rfl⟩⟩
theorem W0:([0,1,2,3].all λL=>[0,1,2,3].all λr=>gn true false 0 L r)=true:=by kernel_rfl
theorem Xa:([0,1,2,3].all λL=>[0,1,2,3].all λr=>gn true false 1 L r)=true:=by kernel_rfl
theorem abk:([0,1].all λv=>[0,1,2,3].all λL=>[0,1,2,3].all λr=>gn true false v L r)=true:=b7.mpr ⟨W0,b7.mpr ⟨Xa,rfl⟩⟩
theorem aal:([0,1,2,3].all λL=>[0,1,2,3].all λr=>gv true true 0 L r)=true:=by kernel_rfl
theorem aam:([0,1,2,3].all λL=>[0,1,2,3].all λr=>gv true true 1 L r)=true:=by kernel_rfl
theorem ab5:([0,1].all λv=>[0,1,2,3].all λL=>[0,1,2,3].all λr=>gv true true v L r)=true:=b7.mpr ⟨aal,b7.mpr ⟨aam,rfl⟩⟩
theorem Xb:([0,1,2,3].all λL=>[0,1,2,3].all λr=>gn true true 0 L r)=true:=by kernel_rfl
theorem Xc:([0,1,2,3].all λL=>[0,1,2,3].all λr=>gn true true 1 L r)=true:=by kernel_rfl
theorem abl:([0,1].all λv=>[0,1,2,3].all λL=>[0,1,2,3].all λr=>gn true true v L r)=true:=b7.mpr ⟨Xb,b7.mpr ⟨Xc,rfl⟩⟩
theorem WQ:([0,1].all λv=>[0,1,2,3].all λL=>[false,true].all λb0=>[false,true].all λb1=>[false,true].all λb2=>Hu v L b0 b1 b2)=true:=by kernel_rfl
theorem Vx(w:World)(os:OsState):(vS treeTable pw w 11 iK 12 ⟨ofL (S00 w.params),11, #[],boot_drawn,boot_toks,os⟩ (topStub pw)).map (λr=>(r.1.n,r.1.gens,r.1.drawn,r.1.toks,r.1.os,r.2,(S0 w.params).map λp=>r.1.T.at p.1))=
  some (15, #[],boot_drawn,187,os,⟨denote treeTable cM,cM,posM,BM⟩,(S0 w.params).map λp=>some p.2):=by kernel_rfl
theorem adR(w:World)(os:OsState):(kK treeTable pw w 11 iK 1 2600 ⟨ofL (S0 w.params),15, #[],boot_drawn,187,os⟩ (piecesOf b1 jA cM posM BM)).map (λr=>(r.1,r.2.1.n,r.2.1.gens,r.2.1.drawn,r.2.1.toks,r.2.1.os,r.2.2.1,r.2.2.2,(S1 w.params).map (λp=>r.2.1.T.at p.1),(K1 w.params).map λp=>r.2.1.T.at p.1))=
  some (.next,286, #[],boot_drawn,559,os,cM,⟨150,0,154,25⟩,(S1 w.params).map (λp=>some p.2),(K1 w.params).map λp=>some p.2):=by kernel_rfl
theorem adS(w:World)(os:OsState):(kK treeTable pw w 11 iK 1 3600 ⟨ofL (S1 w.params),286, #[],boot_drawn,559,os⟩ (piecesOf b2 jA cM ⟨150,0,154,25⟩ BM)).map (λr=>(r.1,r.2.1.n,r.2.1.gens,r.2.1.drawn,r.2.1.toks,r.2.1.os,r.2.2.1,r.2.2.2,(S2 w.params).map (λp=>r.2.1.T.at p.1),(K2 w.params).map λp=>r.2.1.T.at p.1))=
  some (.next,761, #[],boot_drawn,1265,os,cM,⟨463,0,463,8⟩,(S2 w.params).map (λp=>some p.2),(K2 w.params).map λp=>some p.2):=by kernel_rfl
theorem adT(w:World)(os:OsState):(kK treeTable pw w 11 iK 1 1900 ⟨ofL (S2 w.params),761, #[],boot_drawn,1265,os⟩ (piecesOf b3 jA cM ⟨463,0,463,8⟩ BM)).map (λr=>(r.1,r.2.1.n,r.2.1.gens,r.2.1.drawn,r.2.1.toks,r.2.1.os,r.2.2.1,r.2.2.2,(S3 w.params).map (λp=>r.2.1.T.at p.1),(X3 w.params++K3 w.params).map λp=>r.2.1.T.at p.1))=
  some (.next,1074, #[],boot_drawn,1766,os,cM,⟨855,0,901,76⟩,(S3 w.params).map (λp=>some p.2),(X3 w.params++K3 w.params).map λp=>some p.2):=by kernel_rfl
section
variable{P:Pr}{J:G}{st st':St}{s:Shared}{w:Ow}{d:SD}{V:Nat->Option Int}{N:List Note}{more:List Int}{vs:List Value}
theorem wK{i:Nat}{q:Option Nat×List AV}(h:listAt st i=some q):st.get i=some (.list q.1 q.2):=by refine ah h λo h1 h2=>?_;exact mz h2▸h1
theorem DQ(R:Rel P J st s){i:Nat}(hi:i< st.n)(h:zD i st=some st'):∃J',J.Le J'/\Rel P J' st' s:=by
 obtain ⟨⟨pre,xs⟩,h1,h⟩:=cz h;refine bb h1 λhx h1=>?_;have hx:=mN hx;obtain ⟨⟨ys,st1⟩,h2,h⟩:=cz h;obtain ⟨⟨pre',xs'⟩,h3,h⟩:=cz h;have g:=wK h1;refine bp (R.objs i _ hi g) λa o a1 a2 r=>?_;have step:∀{us:List Value},ay J xs us->(∀{J1:G},J.Le J1->ay J1 ys us->OR J1 o (.list pre ys))->∃J',J.Le J'/\Rel P J' st' s:=λhv k=>by obtain ⟨J1,l1,R1,v1,K1,f1,e1,z1⟩:=xv (λh R hv=>yA true 8 h R hv) h2 R hv;have g1:=wK h3;refine ⟨J1,l1,?_⟩;have q:=R1.upd (e1▸a1) (R1.apart i _ a (K1.n▸hi) g1 (e1▸a1)) (K1.x▸hx) ⟨rfl,λ_ _=>rfl⟩ a2 (k l1 v1) (.inr ⟨_,g1,λ ⟨_,_,e,_⟩=>nomatch e⟩);exact af h▸q
 obtain ⟨us,m,rfl,r⟩:=r;cases pre with
 |none=>exact step r λ_ v=>⟨us,m,rfl,v⟩
 |some k=>
  cases r with
  |mk N p q y1 y2 y3 y4 y5=>exact step y5 λl v=>⟨us,m,rfl,N,p,q,l.pP▸y1,y2,y3,y4.mono l,v⟩
theorem tH:mM=nm "steps":=by kernel_rfl
theorem tN:m7=nm "next_number":=by kernel_rfl
theorem lq(R:Rel P J st s){i:Nat}{n:Nm}{x:Str}{a:AI}(hx:n=nm x)(hi:i< st.n)(h:wordAt st i n=some a):∃z,a.ev J=some z:=by refine ah h λes h1 h2=>?_;refine ah h2 λe h3 h4=>?_;refine ah h4 λav h5 h6=>?_;refine ah h1 λo h7 h8=>?_;refine jz (wC h8) λcap loc ai=>?_;subst ai;refine bp (R.objs i _ hi h7) λb ob y1 y2 r=>?_;obtain ⟨en,m, -, -, -, -, -,y3⟩:=r;have q:=y3 x;rw [<-hx,h3,jR h5,dl h6] at q;refine am q λv _ hv=>?_;refine ba hv.int_inv λz t _ hz=>?_;exact ⟨z,hz⟩
theorem lE{a b:Int}(h:bA a b=false):b<=a:=jb.mp λq=>cH ((gU a b).mpr q▸h)
theorem oI(R:Rel P J st s){e:AI}{lo h i:Int}(hw:e.ev J=some i)(hh:kC st e lo=some h):lo<=i/\i<=h/\h<=14000:=by refine ah hh λp h1 h2=>?_;refine bb h2 λh3 h4=>?_;refine aB h3 λh5 h6=>?_;refine au (jc R e h1 hw) λq1 q2=>?_;have aa:=af h4;clear hh h2 h4;subst aa;exact ⟨c8 (lE (fJ h5)) q1,q2,mw ((gU _ _).mp h6)⟩
theorem tP(R:Rel P J st s){hi x:Int}{k:Nat}{e r:AI}(h:restOf st hi k e=some r)(hx:e.ev J=some x):∃z,r.ev J=some z/\0<=z/\z<=hi:=by refine ah h λl h1 h=>?_;refine bb h λh2 h=>?_;refine ah h λp h3 h=>?_;refine eO h λh4 h=>?_;have aa:=af h;clear h;subst aa;have q:=(w9 h2).symm.trans hx;refine ah q λa _ q=>?_;refine ah q λz q _=>?_;refine au (jc R _ h3 q) λq1 q2=>?_;refine au (jL.mp h4) λh5 h6=>?_;exact ⟨z,q,c8 (lE h5) q1,c8 q2 (lE h6)⟩
structure u7(J:G)(V:Nat->Option Int):Prop where
 V:∀k,k< 4->J.oO[k]?=some (V k)
theorem w4(R:Rel P J st s)(O0O:u7 J V){ins up:Bool}{v:Nat}{o:Option Nat}(hv:v<=1)(h:rO st ins up v=some o):f0 (motive:=λ_=>Prop) o (nq ins up V v=none) λj=>∃i,nq ins up V v=some i/\J.iI[j]?=some i:=by
 have one:∀{v:Nat} {o:Option Nat},v< 4->eA st.aU v=some o->f0 (motive:=λ_=>Prop) o (V v=none) λj=>∃i,V v=some i/\J.iI[j]?=some i:=λ {v o} hv h=>by
  have q:=R.aU _ (qz h);cases o with
  |none=>exact af ((O0O.V v hv).symm.trans q)
  |some j=>obtain ⟨i,q1,q2⟩:=q;exact ⟨i,af ((O0O.V v hv).symm.trans q1),q2⟩
 have v4:v< 4:=dy hv (by decide);unfold rO at h;unfold nq;cases c:(ins&& !up) with
 |false=>rw [c] at h;exact one v4 h
 |true=>
  rw [c] at h;refine ah h λo' h1 h2=>?_;have z:=one (Nat.add_lt_of_lt_sub' (dy hv (by decide))) h1;cases o' with
  |some j=>have aa:=af h2;clear h h2;subst aa;refine am z λi q1 q2=>?_;exact ⟨i,congrArg (oe (V v) some) q1,q2⟩
  |none=>have e:bf true (oe (V v) some (V (2+v))) (V v)=V v:=congrArg (oe (V v) some) z;refine ae e ?_;exact one v4 h2
theorem Dk(R:Rel P J st s)(O0O:u7 J V){ins up:Bool}{v:Nat}{e:AI}(hv:v<=1)(h:j7 st ins up v=some e):∃i,nq ins up V v=some i/\e.ev J=some i:=by refine ah h λo h1 h2=>?_;refine am (cz h2) λj aq h3=>?_;have aa:=aq;clear h2 aq;subst aa;exact af h3▸w4 R O0O hv h1
theorem getD_some{Y:Type}{o:Option Y}{a z:Y}(h:o=some a):o.getD z=a:=h▸rfl
theorem KL{r:Nat}(h:r<=3):r - 2<=1:=Cg h
theorem Ew(R:Rel P J st s)(O0O:u7 J V)(ok:cw w d)(Z0Z:∀(k:Nat) i,(d.Zn w V 5)[k]?=some i->J.iI[k]?=some i){p:Nat}{set:Bool}{wt wf:AI}(h:yb st w.ins d.up d.v d.L d.r p set wt wf=true):set=aM d.L (p+1)/\p+2<=2* d.L/\wt.ev J=some (d.tL w V (d.Zn w V 5) p)/\wf.ev J=some (d.fL w V (d.Zn w V 5) p):=by
 refine aB h λh1 h=>?_;refine aB h λh2 h=>?_;refine aB h λh3 h4=>?_;have hp:=bt h2;have hL:=ok.L;have var:∀{k:Nat},k< 6->(AI.var k).ev J=some ((d.Zn w V 5).getD k 0):=λ {k} hk=>by refine cx (l:=d.Zn w V 5) (iZ hk (lA 5).symm) λi hi=>?_;exact (Z0Z k i hi).trans (congrArg some (jY hi).symm)
 have LN:∀{e:AI},j7 st w.ins d.up d.v=some e->e.ev J=some (d.lv w V):=λq=>by refine am (Dk R O0O ok.v q) λi q1 q2=>?_;exact q2.trans (congrArg some (getD_some q1).symm)
 have ht:wt.ev J=some (d.tL w V (d.Zn w V 5) p):=by
  refine aF h3 λe g1 g2=>?_;have aa:=AI.jl g2;clear g2;subst aa;unfold L6 at g1;unfold SD.tL;cases c:aM d.L (p+1) with
  |true=>
   rw [c] at g1;have g1:bf (ag (2* d.L - 2 - p) 0) (j7 st w.ins d.up d.v) (some (.var (2* d.L - 2 - p)))=some wt:=g1;show _=some (bf (ag (2* d.L - 2 - p) 0) (d.lv w V) ((d.Zn w V 5).getD (2* d.L - 2 - p) 0));cases c2:ag (2* d.L - 2 - p) 0 with
   |true=>rw [c2] at g1;exact LN g1
   |false=>rw [c2] at g1;exact af g1▸var (dy (wx _ p) (dy (MI (n9 2 ok.L) 2) (by decide)))
  |false=>
   rw [c] at g1;have g1:bf (ag p 0) (j7 st w.ins d.up d.v) (some (.var p))=some wt:=g1;show _=some (bf (ag p 0) (d.lv w V) ((d.Zn w V 5).getD p 0));cases c2:ag p 0 with
   |true=>rw [c2] at g1;exact LN g1
   |false=>rw [c2] at g1;exact af g1▸var (wm (p6 hp ok.L))
 have h1:=eq_of_beq h1;refine ⟨h1,hp,ht,?_⟩;unfold SD.fL;cases c:aM d.L (p+1) with
 |false=>rw [h1,c] at h4;exact AI.jl h4▸ht
 |true=>
  rw [h1,c] at h4;refine aF h4 λe g1 g2=>?_;have aa:=AI.jl g2;clear g2;subst aa;have g1:bf (ag (p+1) d.L) (bf (aM d.r 1) (some (.var 0)) (j7 st w.ins false (d.r - 2))) (some (.var p))=some wf:=g1;show _=some (bf (ag (p+1) d.L) (d.rv w V) ((d.Zn w V 5).getD p 0));cases c2:ag (p+1) d.L with
  |false=>rw [c2] at g1;exact af g1▸var (wm (p6 hp ok.L))
  |true=>
   rw [c2] at g1;have g1:bf (aM d.r 1) (some (.var 0)) (j7 st w.ins false (d.r - 2))=some wf:=g1;show _=some (d.rv w V);unfold SD.rv SD.nW;cases c3:aM d.r 1 with
   |true=>rw [c3] at g1;exact af g1▸Z0Z 0 d.num (aN (rI (n:=0) (ig 5)) rfl)
   |false=>rw [c3] at g1;refine am (Dk R O0O (KL ok.r) g1) λi q1 q2=>?_;exact q2.trans (congrArg some (getD_some q1).symm)
theorem Dj(R:Rel P J st s)(O0O:u7 J V)(ok:cw w d)(Z0:J.iI[0]?=some d.num)(S:∀p,p< 5->J.oO[4+p]?=some (d.fY w V p)){q:b5×Nat}(h:yz st w.ins d.up d.v d.L d.r=some q):d.way w V=q.1/\(isOk q.1=true->J.iI[q.2]?=some (d.rv w V)):=by
 refine ah h λo h1 h=>?_;have hr:f0 (motive:=λ_=>Prop) o (d.nW w V=none) λj=>∃i,d.nW w V=some i/\J.iI[j]?=some i:=by
  unfold GO at h1;unfold SD.nW;cases c:aM d.r 1 with
  |true=>rw [c] at h1;exact af h1▸⟨d.num,rfl,Z0⟩
  |false=>rw [c] at h1;exact w4 R O0O (KL ok.r) h1
 cases o with
 |none=>exact af h▸⟨congrArg (oe _ _) hr,λq=>aE q⟩
 |some j=>
  refine am hr λi hr hj=>?_;have e0:d.way w V=bf (ag d.L 0) .ok (oe .fC (λ_=>d.lx w V (2* d.L - 1)) (d.jH w V)):=congrArg (oe b5.lj λ_=>bf (ag d.L 0) .ok (oe .fC (λ_=>d.lx w V (2* d.L - 1)) (d.jH w V))) hr;have hj:J.iI[j]?=some (d.rv w V):=hj.trans (congrArg some (getD_some hr).symm);refine ae e0 ?_;have h:bf (ag d.L 0) (some (b5.ok,j)) (ob (zN st w.ins d.up d.v) λo=>oe (some (.fC,j)) (λ_=>ob (F6 st (2* d.L - 1)) λw=>some (w,j)) o)=some q:=h;cases c:ag d.L 0 with
  |true=>rw [c] at h;exact af h▸⟨rfl,λ_=>hj⟩
  |false=>
   rw [c] at h;refine ah h λo h2 h=>?_;have hl:f0 (motive:=λ_=>Prop) o (d.jH w V=none) λ_=>∃i,d.jH w V=some i:=by
    unfold zN at h2;unfold SD.jH;cases c:(!w.ins&&d.up) with
    |true=>rw [c] at h2;exact af h2▸rfl
    |false=>
     rw [c] at h2;have z:=w4 R O0O ok.v h2;cases o with
     |none=>exact z
     |some j=>exact z.imp λi z=>z.1
   cases o with
   |none=>exact af h▸⟨congrArg (oe _ _) hl,λq=>aE q⟩
   |some j'=>
    refine aQ hl λi' hl=>?_;refine ah h λu h3 h=>?_;have e1:oe b5.fC (λ_=>d.lx w V (2* d.L - 1)) (d.jH w V)=d.lx w V (2* d.L - 1):=congrArg (oe b5.fC λ_=>d.lx w V (2* d.L - 1)) hl;have key:∀(n p:Nat) {u:b5},p+n<=5->cC (λ_=>some b5.ok) (λ_ f p=>ob (eA st.aU (4+p)) λo=>oe (some (.step p)) (λ_=>f (p+1)) o) n p=some u->cC (λ_=>b5.ok) (λ_ f p=>oe (.step p) (λ_=>f (p+1)) (d.fY w V p)) n p=u:=λn=>by
     induction n with
     |zero=>exact λp u _ h=>af h
     |succ n ih=>
      intro p u hp h;refine ah h λo g1 g2=>?_;have q:=R.aU _ (qz g1);have s:=S p (bz (Cc (qo n)) hp);show oe (b5.step p) (λ_=>_) (d.fY w V p)=u;cases o with
      |none=>refine ae (af (s.symm.trans q)) ?_;exact af g2
      |some k=>refine am q λi q1 _=>?_;refine ae (af (s.symm.trans q1)) ?_;exact ih (p+1) (aI (ck (dx p 1 n)) hp) g2
    exact af h▸⟨e1.trans (key _ 0 (aI (ck (bJ _)) (pL ok.L)) h3),λ_=>hj⟩
end
section
variable{P:Pr}{J:G}{st:St}{s:Shared}{w:Ow}{d:SD}{V:Nat->Option Int}{N:List Note}{more:List Int}{vs:List Value}{ts:List AV}
theorem lK{n:Nat}{c:Cx}{f:Nat}{args:List AV}{bD:St}{kc:Kont}{hR:iO}(hr:run true hR n (.call c (.glob f) args) bD kc=true)(hx:(b6.get f).isSome=true)(P:Pr)(O0O:∀tk st k,hR tk st k=some true->Goal (eN P) P tk st k):bZ P c f args bD kc:=(n6.mp hx).elim λx hx=>(rF (rest P true) O0O n (.call c (.glob f) args) bD kc hr).2 f x rfl hx
theorem oE(P:Pr):∀tk st k,kp tk st k=some true->Goal (eN P) P tk st k:=λ_ _ _ h=>aD h
theorem qy{g:Nat->Cx->List AV->St->Kont->Option Bool}(H:∀a c args st k,g a c args st k=some true->bZ P c a args st k):∀tk st k,o8 g tk st k=some true->Goal (eN P) P tk st k:=by
 intro tk st k h;cases tk with
 |call c f args=>
  have h:oe none (λa=>g a c args st k) (pi f)=some true:=h;cases hf:pi f with
  |none=>rw [hf] at h;exact aD h
  |some a=>rw [hf] at h;have aa:=wV hf;clear h hf;subst aa;have key:=H a c args st k h;exact ⟨key.call,λa' x e _=>AV.noConfusion e λe=>e▸key⟩
 |_=>exact aD h
structure zc(J:G)(w:Ow)(d:SD)(V:Nat->Option Int)(N:List Note)(p:Nat):Prop where
 z:J.iI[p+1]?=some (d.iW w V (d.Zn w V 5) p)
 n:J.iI[6+cX d.L p]?=some (d.el p).n
 m:(SW.var [] (5+p) []).ev J=some (d.oW w p).msg
 o:J.oO[4+p]?=some (d.fY w V p)
 n0:∃N0 ns,lC J (iD d.r p).1 N0/\bX (NW.ev J) (iD d.r p).2=some ns/\N0++ns=d.Nn w V N p
 n1:J.pP[2+p]?=some (d.Nn w V N (p+1))
 l0:(d.Nn w V N p).length<=8000000
 l1:(d.Nn w V N p++d.ns w V p).length<=8000000
 e3:cX d.L p< 3
theorem Pre.nb(H:Pre (br w d V N more vs ts) J){p:Nat}(hp:p< 5):∃N0 ns,lC J (iD d.r p).1 N0/\bX (NW.ev J) (iD d.r p).2=some ns/\N0++ns=d.Nn w V N p:=by
 unfold iD;cases c:ag p 0 with
 |true=>
  have aa:=aH c;clear hp c;subst aa;have q0:J.pP[0]?=some N:=H.pP▸rfl;cases c1:ag d.r 1 with
  |true=>exact ⟨N,[.int d.num],q0,bQ (bQ (H.i (aN (rI (n:=0) (ig 5)) rfl)) rfl) rfl,(congrArg (λb=>bf b (N++ [Note.int d.num]) N) c1).symm⟩
  |false=>exact ⟨N,[],q0,rfl,(i8 N).trans (congrArg (λb=>bf b (N++ [Note.int d.num]) N) c1).symm⟩
 |false=>exact ⟨_,[],H.n (qh hp),rfl,i8 _⟩
theorem Pre.step(H:Pre (br w d V N more vs ts) J)(ok:cw w d)(hN:N.length<=7000000){p:Nat}(hp:p+2<=2* d.L):zc J w d V N p:=by
 have hL:=ok.L;have e3:cX d.L p< 3:=bz (abn hp) hL;have nP:p< 5:=Nat.le_of_succ_le_succ (p6 hp hL);have l:=λn (h:n<=5)=>aI (ry (w:=w) (V:=V) (N:=N) ok n) (aI (sX hN h) (by decide:7000000+1+10<=8000000));refine ⟨H.i (aei nP),H.i6 _ ?_,eB (H.m nP),H.s nP,?_,?_,l p (ot nP),l (p+1) nP,e3⟩
 ·show _=some (d.D (cX d.L p)).n
  generalize cX d.L p=e at e3
  match e,e3 with
  |0,_=>rfl
  |1,_=>rfl
  |2,_=>rfl
 ·exact H.nb nP
 ·have q:=H.n (p:=p+1) (tC nP)
  rw [ja p 1, <-ie] at q;refine ae (ja p 1) ?_;exact q
theorem Fg{i:Nat}{M:List Note}(h:J.pP[i]?=some M):lC J (some i) M:=h
theorem qY{J':G}{q:Option Nat×List NW}{k:Nat}{M:List Note}(h:∃N0 ns,lC J q.1 N0/\bX (NW.ev J) q.2=some ns/\N0++ns=M)(e:J'.pP[k]?=some M)(l:M.length<=8000000):jk J J' k q:=by refine bp h λN0 ns h1 h2 jJ=>?_;have aa:=jJ;clear h jJ;subst aa;exact ⟨N0,ns,h1,h2,e,l⟩
theorem gj{J':G}{q k:Nat}{M:List Note}(h:J.pP[q]?=some M)(e:J'.pP[k]?=some M)(l:M.length<=8000000):jk J J' k (some q,[]):=qY ⟨M,[],h,rfl,i8 M⟩ e l
theorem GA{p:Nat}{j:Nat}(F:zc J w d V N p)(h:lH (d.oW w p)=true):fF J (4+p,some (p+1)):=⟨_,F.o.trans (congrArg some (cf h)),F.z⟩
theorem GB{p:Nat}(F:zc J w d V N p)(h:lH (d.oW w p)=false):fF J (4+p,none):=F.o.trans (congrArg some (cu h))
theorem AL{J' J1:G}{P':Pr}{st1:St}{s1:Shared}(R:Rel P' J1 st1 s1)(l:J'.Le J1){i:Nat}(h:i< J'.aA.length):i< st1.n:=R.bR▸bz h l.aA.length_le
theorem eQ{O j:Nat}{T:AV}{J':G}{q:AV}(h:J.tA[j]?=some T)(hj:j< 1000000)(ht:fS O T=true)(hq:isAny q=false)(t:∀v,VR J T v↔VR J' q v):aV J (.aY (gM O j)) J' q:=⟨hq.symm,λv=>(kY hj).trans ⟨λ ⟨U,a,b,c⟩=>(t v).1 (af (h.symm.trans a)▸c),λc=>⟨T,h,ht,(t v).2 c⟩⟩⟩
theorem hW{p q:AV}{J':G}(t:aV J p J' q)(v:Value):VR J p v↔VR J' q v:=aV.casesOn t λ_ h=>h v
theorem iV{p q:List AV}{J':G}(t:bS J p J' q)(v:List Value):ay J p v↔ay J' q v:=bS.casesOn t λh _=>h v
theorem rM{J':G}{e e':AI}(h:e.ev J=e'.ev J'):aV J (.int e) J' (.int e'):=⟨rfl,λv=>⟨gV h,gV h.symm⟩⟩
theorem pu{J':G}{e e':SW}(h:e.ev J=e'.ev J'):aV J (.str e) J' (.str e'):=⟨rfl,λv=>⟨nc h,nc h.symm⟩⟩
theorem iH{J':G}(hf:J.fz=J'.fz){l l':List AV}(h:bS J l J' l'):aV J (.tup l) J' (.tup l'):=⟨rfl,λv=>⟨pc hf h,pc hf.symm h.sym⟩⟩
theorem ge{J':G}(hf:J.fz=J'.fz){l l':List AV}(h:bS J l J' l'):aV J (.bw l) J' (.bw l'):=⟨rfl,λv=>⟨jd hf h,jd hf.symm h.sym⟩⟩
theorem j9{J':G}(hf:J.fz=J'.fz){C:Nat}{ns:List Nm}{l l':List AV}(h:bS J l J' l'):aV J (.inst C ns l) J' (.inst C ns l'):=⟨rfl,λv=>⟨oK hf h,oK hf.symm h.sym⟩⟩
theorem bO{J':G}:aV J .none J' .none:=⟨rfl,λv=>⟨λh=>VR.into (a:=.none) h.out,λh=>VR.into (a:=.none) h.out⟩⟩
theorem oZ{J':G}(hf:J.fz=J'.fz){ix:Nat}{e e':AI}(h:e.ev J=e'.ev J'):aV J (ei ix e) J' (ei ix e'):=by
 unfold ei;cases ag ix 0 with
 |true=>exact bO
 |false=>
  refine iH hf (aC ?_ (aC (rM h) bu));cases ag ix 1 with
  |true=>exact cm _
  |false=>exact cm _
theorem CU(ix:Nat)(e:AI):isAny (ei ix e)=false:=by unfold ei;cases ag ix 0<;>rfl
theorem GN{J4:G}{k:Nat}{z:Int}{o:jy}{l:List Int}(hz:J4.iI[k]?=some z)(hl:l<+:J4.iI)(h:∀e,o.res=some e->e.at l=some z):(oe (AI.var k) (λw=>w) o.res).ev J4=some z:=by
 cases e:o.res with
 |none=>exact hz
 |some x=>exact aa7 hl (h x e)
theorem uy{J4:G}{b:Bool}{o:List Nat}{k:Nat}(h:J4.sS[k]?=some o):(nX b o k).ev J4=some o:=by
 cases b with
 |true=>rfl
 |false=>exact eB h
theorem Rc(b:Bool)(g:Nat):(some ([]++([g]++bf b [60,45] [])))=some (ri b g):=by cases b with |true=>rfl |false=>rfl
theorem adX:(b6.get 1047).isSome=true:=by kernel_rfl
theorem VE(hts:∀(k:Nat) T,((trees w d).drop 2)[k]?=some T->ts[2+k]?=some T)(ok:cw w d)(hN:N.length<=7000000)(hP:∀J,P.gh J->Pre (br w d V N more vs ts) J)(runs:∀set p,iF set (d.el p).g (d.el p).ix w.o1 w.o2=true){set:Bool}{c:Cx}{args:List AV}{k:Kont}{p ir:Nat}{wt wf:AI}(h:KM w.ins d.up d.v d.L d.r set c args st k p ir wt wf=some true):bZ P c 1047 args st k:=by
 refine bb h λh1 h=>?_;have hk:=af h;refine aB h1 λh1 h2=>?_;refine aB h1 λhc hw=>?_;refine aB h2 λha hin=>?_;intro J s A Rr vs' R F hvs post;have H:=hP J R.gh;refine jw (Ew R ⟨λk=>H.o⟩ ok (λk i=>H.i) hw) λe1 hp p9 p8=>?_;have SF:=H.step ok hN hp;have OK:=rD (V:=V) ok p;obtain rfl:=jX ha
 generalize hZ:d.Zn w V 5=Z0Z at p9 p8
 obtain ⟨x2,q2⟩:∃x,J.aA[2]?=some x:=by refine am (hvs.get (i:=5) rfl) λv _ z=>?_;refine am z.mP λx _ hx=>?_;exact ⟨x,hx⟩
 have s0:J.sS[0]?=some w.o1:=H.sS▸rfl;have s1:J.sS[1]?=some w.o2:=H.sS▸rfl;let D:Dt:=⟨[d.tL w V Z0Z p,d.fL w V Z0Z p,(d.el p).n,d.iW w V Z0Z p],[.ref x2],[w.o1,w.o2,(d.oW w p).msg],[],[d.Nn w V N p,d.Nn w V N (p+1)],[.none]⟩
 have C:CorrD J (Bb d.r p (cX d.L p) ir wt wf) (J.sub [0,1,ir] D):={
  iw:=aR (aO ⟨_,rfl,p9⟩ (aO ⟨_,rfl,p8⟩ (aO ⟨_,rfl,SF.n⟩ (aO ⟨_,rfl,hZ▸SF.z⟩ aS))))
  sw:=aR (aO ⟨_,rfl,eB s0⟩ (aO ⟨_,rfl,eB s1⟩ (aO ⟨_,rfl,SF.m⟩ aS)))
  vw:=aR (aO ⟨_,rfl,rfl,.ref q2 rfl⟩ aS)
  ow:=aR aS
  pw:=aR (aO (qY SF.n0 rfl SF.l0) (aO (gj SF.n1 rfl SF.l1) aS))
  tw:=aR aS
  fz:=rfl
  wd:=rfl}
 refine con (c':=mb) (gh:=λ_=>True) (bs:=Ic) (nv:=1) (objs':=zY set (nX (gE set (d.el p).g) w.o1 0) (nX (gF set (d.el p).g) w.o2 1)) (kc:=Gi set (gE set (d.el p).g) (gF set (d.el p).g) w.o1 w.o2 (jC set (d.el p).g (d.el p).ix w.o1 w.o2)) (args:=argsR set (d.el p).g (d.el p).ix) (λ_ _=>trivial) R F hc rfl hin C rfl (.cons (λ_ h=>h) (.cons (λo h=>?_) (.cons (λ_ h=>h) .nil))) ⟨trivial,trivial,trivial,trivial,rfl⟩ (by decide) rfl rfl (cT.mpr ⟨R.ej _ (bx s0),cT.mpr ⟨R.ej _ (bx s1),eH.mpr (aI OK.msg (by decide))⟩⟩) trivial (λP' _=>lK (runs set p) adX P' (oE P')) (λCo=>?_) post λP' rr st1 J1 s1 _ hq le R1=>?_
 ·obtain ⟨us,m,rfl,h⟩:=h
  exact ⟨us,m,rfl,(iV (aC (pu ((eB rfl).trans (uy rfl).symm)) (aC (pu ((eB rfl).trans (uy rfl).symm)) bu)) _).1 h⟩
 ·have e3:=SF.e3
  have ht:J.tA[11+cX d.L p]?=some (ei (d.el p).ix (.lit (d.el p).n)):=by
   unfold SD.el
   generalize cX d.L p=e at e3
   have q:∀(k:Nat) T,((trees w d).drop 2)[k]?=some T->J.tA[2+k]?=some T:=λk T h=>H.t (hts k T h)
   match e,e3 with
   |0,_=>exact q 9 _ rfl
   |1,_=>exact q 10 _ rfl
   |2,_=>exact q 11 _ rfl
  have hs:(SW.var [] (2+cX d.L p) (bf set [60,45] [])).ev J=(SW.lit (ri set (d.el p).g)).ev (J.sub [0,1,ir] D):=by refine (congrArg (λo=>ob o λx=>some ([]++(x++bf set [60,45] []))) (H.g e3)).trans (Rc set (d.el p).g)
  refine (iV (aC (pu hs) (aC ?_ (aC (pJ Co (.ref 2) _ rfl).sym (aC (pJ Co (.ref 1) _ rfl).sym (aC (pJ Co (.ref 0) _ rfl).sym (aC (pJ Co (.aY 0) _ rfl).sym bu)))))) _).1 hvs;exact eQ (O:=0) ht (pY e3 rfl) rfl (CU _ _) λv=>hW (oZ (J:=J) (J':=J.sub [0,1,ir] D) (e:=.lit (d.el p).n) (e':=.var 2) rfl rfl) v
 ·refine aF hq λbc g1 g2=>?_
  obtain ⟨J4,l4,R4⟩:=DQ R1 (AL R1 le (by show 0< 3;decide)) g1;have le:=le.trans l4;have pI:∀{k:Nat} {i:Int},D.iI[k]?=some i->J4.iI[k]?=some i:=aN le.iI;have p3:d.l3 w V Z0Z p<+:J4.iI:=Ct.trans (l₂:=D.iI) ⟨[d.iW w V Z0Z p],rfl⟩ le.iI;have pS:J4.sS=D.sS:=le.sS.symm;have pP:J4.pP=D.pP:=le.pP.symm;have eo:jC set (d.el p).g (d.el p).ix w.o1 w.o2=d.oW w p:=e1▸rfl;rw [eo] at g2
  have Ce:CorrD J4 (GY (gE set (d.el p).g) (gF set (d.el p).g) w.o1 w.o2 (d.oW w p)) (J4.sub [0,1,2] (D.grow [] [])):={
   iw:=aR (aO ⟨_,rfl,pI rfl⟩ (aO ⟨_,rfl,pI rfl⟩ (aO ⟨_,rfl,pI rfl⟩ (aO ⟨_,rfl,GN (pI rfl) p3 (hZ▸OK.res)⟩ aS))))
   sw:=aR (aO ⟨_,rfl,uy (pS▸rfl)⟩ (aO ⟨_,rfl,uy (pS▸rfl)⟩ (aO ⟨_,rfl,rfl⟩ aS)))
   vw:=aR (aO ⟨_,rfl,rfl,.aY (by decide) (aN le.vV rfl)⟩ aS)
   ow:=aR aS
   pw:=aR (aO (gj (pP▸rfl) rfl SF.l0) (aO ⟨d.Nn w V N p,d.ns w V p,Fg (pP▸rfl),FJ p3 (hZ▸OK.ns),rfl,SF.l1⟩ aS))
   tw:=aR aS
   fz:=rfl
   wd:=rfl}
  refine aB hk λk1 k2=>?_;refine ⟨J4,bc,l4,R4,?_⟩;cases er:lH (d.oW w p) with
  |true=>rw [er] at g2;exact .mk (sC set true) _ _ [] [] [] _ [(4+p,some (p+1))] g2 (λq=>aE q) (λ_ h=>h) (fm (λ_ _ h=>h) _) k1 Ce rfl rfl (λ_ h=>nomatch h) (.inl rfl) (eH.mpr (GA (j:=0) SF er))
  |false=>rw [er] at g2;exact .mk (sC set false) _ _ [] [] [] _ [(4+p,none)] g2 (λq=>aE q) (λ_ h=>h) (fm (λ_ _ h=>h) _) k2 Ce rfl rfl (λ_ h=>nomatch h) (.inl rfl) (eH.mpr (GB SF er))
end
section
variable{P:Pr}{J J':G}{st:St}{s:Shared}{w:Ow}{d:SD}{V:Nat->Option Int}{N:List Note}{more:List Int}{vs:List Value}{p7:List AV}{Z:Th}
theorem lO(hf:J.fz=J'.fz){e e':AI}(h:e.ev J=e'.ev J'):aV J (cD e) J' (cD e'):=j9 hf (aC (cm _) (aC (ge hf (aC (rM h) bu)) (aC bO (aC ⟨rfl,λv=>⟨λh=>VR.into (a:=.bM) h.out,λh=>VR.into (a:=.bM) h.out⟩⟩ (aC ⟨rfl,λv=>⟨λh=>VR.into (a:=.bM) h.out,λh=>VR.into (a:=.bM) h.out⟩⟩ bu)))))
theorem dW(hf:J.fz=J'.fz){e e':SW}(h:e.ev J=e'.ev J'):aV J (cv e) J' (cv e'):=j9 hf (aC (cm _) (aC (pu h) (aC bO bu)))
theorem mW(hf:J.fz=J'.fz){l l':List AV}(h:bS J l J' l')(t:bS J (mp (λ_=>.none) l) J' (mp (λ_=>.none) l')):aV J (iA l) J' (iA l'):=j9 hf (aC (cm _) (aC (ge hf h) (aC (ge hf t) (aC bO (aC bO bu)))))
theorem pk(hf:J.fz=J'.fz){ix:Nat}{e e':AI}(h:e.ev J=e'.ev J'):bS J (eD ix e) J' (eD ix e')/\bS J (mp (λ_=>.none) (eD ix e)) J' (mp (λ_=>.none) (eD ix e')):=by
 unfold eD;cases ag ix 0 with
 |true=>exact ⟨bu,bu⟩
 |false=>
  cases ag ix 1 with
  |true=>exact ⟨aC (lO hf h) bu,aC bO bu⟩
  |false=>exact ⟨aC (mW hf (aC (dW hf rfl) (aC (lO hf h) bu)) (aC bO (aC bO bu))) bu,aC bO bu⟩
theorem qU(hf:J.fz=J'.fz)(e:Nat):aV J (inner d e) J' (inner d e):=by
 unfold inner
 generalize 2 - e=n
 induction n generalizing e with
 |zero=>exact dW hf rfl
 |succ n ih=>
  show aV J (bf (bh (e+1) d.L) (iz (d.D (e+1)) (mf d n (e+1))) _) J' (bf (bh (e+1) d.L) (iz (d.D (e+1)) (mf d n (e+1))) _);cases bh (e+1) d.L with
  |true=>have i:=pk hf (ix:=(d.D (e+1)).ix) (e:=.lit (d.D (e+1)).n) (e':=.lit (d.D (e+1)).n) rfl;exact mW hf (aC (dW hf rfl) (aC (ih (e+1)) i.1)) (aC bO (aC bO i.2))
  |false=>exact dW hf rfl
theorem Ql(e:Nat):isAny (inner d e)=false:=by
 unfold inner;cases 2 - e with
 |zero=>rfl
 |succ n=>show isAny (bf (bh (e+1) d.L) _ _)=false;cases bh (e+1) d.L<;>rfl
theorem qq(e:Nat):Free false (inner d e):=λJ J' hf _=>qU hf e
theorem DH:(kH.all λo=>nl true (cK o))=true/\(kI.all λo=>nl true (cS o))=true:=⟨by kernel_rfl,by kernel_rfl⟩
theorem qO(ok:cw w d):Free true (cK w.o1):=ES _ (be.mp DH.1 _ ok.o1)
theorem qP(ok:cw w d):Free true (cS w.o2):=ES _ (be.mp DH.2 _ ok.o2)
theorem HK(R:Rel P J st s){objs:List AO}(h:fQ Z st objs=true){j i:Nat}(e:Z.ob[j]?=some i):i< st.n:=by
 refine aB h λ_ h=>?_;refine aB h λ_ h=>?_;refine au (uk (J:=J) h) λg1 g2=>?_;refine cx (l:=objs) (g1▸lt_of_get e) λp hp=>?_;cases g2 j i p e hp with
 |mk ao q z=>exact z
theorem HY(ins:Bool):12<=mE ins:=by cases ins with |true=>exact (by decide:12<=16) |false=>exact cG 12
theorem uO{ins:Bool}{j:Nat}(h:j< 12):(upTo (mE ins) 0)[j]?=some j:=(dQ _ _ _ (bz h (HY ins))).trans (congrArg some (bJ j))
theorem Xg(ins:Bool):∃j,envOf ins= .ref j/\(upTo (mE ins) 0)[j]?=some j:=by cases ins with |true=>exact ⟨13,rfl,rfl⟩ |false=>exact ⟨7,rfl,rfl⟩
theorem iG(C:dX J Z J'){j i:Nat}(e:Z.ob[j]?=some i):aV J (.ref i) J' (.ref j):=⟨rfl,λv=>⟨pa (C.ob j i ((dS _ _).trans e)).symm,pa (C.ob j i ((dS _ _).trans e))⟩⟩
theorem II{ins:Bool}{a:AV}{Q:Nat->AV->Prop}(h:ins=true->Q 0 a):∀k b,nth (bf ins [a] []) k=some b->Q k b:=by
 cases ins with
 |true=>exact aR (aO (h rfl) aS)
 |false=>exact aR aS
theorem ph{k:Nat}{o:Option Int}(h:J.oO[k]?=some o):(OW.cp k).ev J=some o:=h
theorem t0{b:Bool}{T:AV}{i:Nat}(h:J.tA[i]?=some T):IW J (si b T i) T:=by
 cases b with
 |true=>exact ⟨rfl,rfl⟩
 |false=>exact h
theorem UG(ok:cw w d){J:G}{rest:List AV}(ht:J.tA=cK w.o1::cS w.o2::rest)(h7:∃a,J.aA[7]?=some a){x0 x1:Option Int}(h0:J.oO[0]?=some x0)(h1:J.oO[1]?=some x1)(bk bs:Bool){o:Obj}(h:OR J o (rL kT sT 0)):OR J o (rL (kOf bk w.o1) (AK bs w.o2) 0):=by
 have Cu:dX J ⟨[],[],[],[],[.cp 0,.cp 1],[],[si bk (cK w.o1) 0,si bs (cS w.o2) 1]⟩ J:={
  iw:=aR aS
  sw:=aR aS
  vw:=aR aS
  ow:=aR (aO ⟨_,h0,h0⟩ (aO ⟨_,h1,h1⟩ aS))
  pw:=aR aS
  tw:=aR (aO ⟨cK w.o1,true,ht▸rfl,qO ok,λ_=>h7.imp λa h=>⟨h,h⟩,t0 (ht▸rfl)⟩ (aO ⟨cS w.o2,true,ht▸rfl,qP ok,λ_=>h7.imp λa h=>⟨h,h⟩,t0 (ht▸rfl)⟩ aS))
  fz:=rfl
  wd:=rfl
  ob:=aR aS}
 exact (sq Cu (by cases bk<;>cases bs<;>rfl)).1 h
theorem acZ(set:Bool):(b6.get (bf set 703 688)).isSome=true:=by
 have h:(b6.get 703).isSome=true/\(b6.get 688).isSome=true:=⟨by kernel_rfl,by kernel_rfl⟩;cases set with
 |true=>exact h.1
 |false=>exact h.2
theorem T0(hf:J.fz=J'.fz)(ht:∀{j:Nat} {T:AV},(trees w d)[j]?=some T->J.tA[j]?=some T){e:Nat}(he:e< 3)(hn:J'.iI[2]?=some (d.D e).n)(hi:J'.tA[2]?=some (inner d e)):aV J (jv e) J' (stepT (d.D e).g (d.D e).ix):=by
 have t:J.tA[2+2* e]?=some (ka d e)/\J.tA[3+2* e]?=some (ku d e):=by
  match e,he with
  |0,_=>exact ⟨ht rfl,ht rfl⟩
  |1,_=>exact ⟨ht rfl,ht rfl⟩
  |2,_=>exact ⟨ht rfl,ht rfl⟩
 have i:=pk hf (ix:=(d.D e).ix) (e:=.lit (d.D e).n) (e':=.var 2) hn.symm;have n1:aV J (inner d e) J' (.aY (gM 0 2)):=(eQ hi (by decide) rfl (Ql e) λv=>hW (qU hf.symm e) v).sym;have a:=ge hf (aC (dW hf (e:=.lit [(d.D e).g]) (e':=.lit [(d.D e).g]) rfl) (aC n1 i.1));have b:=ge hf (aC bO (aC bO i.2));exact j9 hf (aC (cm _) (aC (eQ (O:=0) t.1 (vm he rfl) rfl rfl λv=>hW a v) (aC (eQ (O:=0) t.2 (vm he rfl) rfl rfl λv=>hW b v) (aC bO (aC bO bu)))))
theorem Uo(ok:cw w d)(hN:N.length<=7000000)(hP:∀J,P.gh J->Pre (br w d V N more vs (trees w d++p7)) J)(runs:∀set p,im set w.ins (d.el p).g (d.el p).ix w.o1 w.o2=true){set:Bool}{c:Cx}{args:List AV}{k:Kont}{p:Nat}{a b wt wf:AI}(ha:wordAt st 0 mM=some a)(hb:wordAt st 0 m7=some b)(h:Km set w.ins d.up d.v d.L d.r c args st k p a b wt wf=some true):bZ P c (bf set 703 688) args st k:=by
 refine bb h λh1 h=>?_;have hk:=af h;refine aB h1 λh1 h2=>?_;refine aB h1 λhc hw=>?_;refine aB h2 λh1 h2=>?_;refine aB h2 λh3 hin=>?_;refine aF h1 λhi1 r1 h1=>?_;refine aF h1 λhi2 r2 LT=>?_;obtain ⟨⟨l,lst⟩,d1,d2⟩:=bI h3;refine aB d2 λd2 d3=>?_;obtain ⟨⟨C0,ns0,ta⟩,d4,d5⟩:=bI d3;obtain rfl:=jX d2;obtain rfl:=wI d4;have d5:374=C0:=(aH d5).symm;subst d5;have aa:=CG d1;clear h h1 h2 h3;subst aa;intro J s A Rr vs' R F hvs post;have H:=hP J R.gh;refine jw (Ew R ⟨λk=>H.o⟩ ok (λk i=>H.i) hw) λe1 hp p9 p8=>?_;have SF:=H.step ok hN hp;have OK:=rD (V:=V) ok p
 generalize hZ:d.Zn w V 5=Z0Z at p9 p8
 have lt:=λ {j i:Nat} e=>HK R hin (j:=j) (i:=i) e;have n7:7< st.n:=lt (uO (by decide));have h7:∃a,J.aA[7]?=some a:=fo (R.bR.symm▸n7);refine aQ (lq R tH (mu n7) ha) λsv hsv=>?_;refine aQ (lq R tN (mu n7) hb) λnv sN=>?_;have b1:=oI R hsv r1;have b2:=oI R sN r2;obtain ⟨fr,hfr⟩:∃fr:Value,w.ins=true->handedIn fr=true/\dF J fr (.ref 16):=by
  cases hi:w.ins with
  |false=>exact ⟨.none,λq=>aE q⟩
  |true=>rw [hi] at LT;refine aQ (fo (l:=J.aA) (R.bR.symm▸d7.mp LT)) λx hx=>?_;exact ⟨.ref x,λ_=>⟨rfl,.ref hx rfl⟩⟩
 let D:Dt:=⟨[d.tL w V Z0Z p,d.fL w V Z0Z p,(d.el p).n,sv,nv,d.iW w V Z0Z p],[fr,.none,.none],[(d.oW w p).msg],J.oO,[d.Nn w V N p,d.Nn w V N (p+1)],[cK w.o1,cS w.o2,inner d (cX d.L p)]⟩;have g7:∃a,J.aA[7]?=some a/\(J.sub (upTo (mE w.ins) 0) D).aA[7]?=some a:=h7.imp λa h=>⟨h,map_getD (uO (by decide)) h⟩;have ht:J.tA[8+cX d.L p]?=some (inner d (cX d.L p)):=by
  have e3:=SF.e3
  generalize cX d.L p=e at e3
  match e,e3 with
  |0,_=>exact H.t rfl
  |1,_=>exact H.t rfl
  |2,_=>exact H.t rfl
 have C:CorrD J (Ba w.ins d.r p (cX d.L p) wt wf a b) (J.sub (upTo (mE w.ins) 0) D):={
  iw:=aR (aO ⟨_,rfl,p9⟩ (aO ⟨_,rfl,p8⟩ (aO ⟨_,rfl,SF.n⟩ (aO ⟨_,rfl,hsv⟩ (aO ⟨_,rfl,sN⟩ (aO ⟨_,rfl,hZ▸SF.z⟩ aS))))))
  sw:=aR (aO ⟨_,rfl,SF.m⟩ aS)
  vw:=II λq=>⟨fr,rfl,hfr q⟩
  ow:=aR (aO ⟨_,H.o (k:=0) (by decide),H.o (k:=0) (by decide)⟩ (aO ⟨_,H.o (k:=1) (by decide),H.o (k:=1) (by decide)⟩ (aO ⟨_,H.o (k:=2) (by decide),H.o (k:=2) (by decide)⟩ (aO ⟨_,H.o (k:=3) (by decide),H.o (k:=3) (by decide)⟩ aS))))
  pw:=aR (aO (qY SF.n0 rfl SF.l0) (aO (gj SF.n1 rfl SF.l1) aS))
  tw:=aR (aO ⟨_,true,rfl,qO ok,λ_=>g7,H.t rfl⟩ (aO ⟨_,true,rfl,qP ok,λ_=>g7,H.t rfl⟩ (aO ⟨_,false,rfl,qq _,λq=>aE q,ht⟩ aS)))
  fz:=rfl
  wd:=rfl}
 refine con (c':=mb) (gh:=λ_=>True) (bs:=LC) (nv:=3) (objs':=yN w.ins (kOf (gE set (d.el p).g) w.o1) (AK (gF set (d.el p).g) w.o2)) (kc:=HP w.ins (gE set (d.el p).g) (gF set (d.el p).g) w.o1 w.o2 (jC set (d.el p).g (d.el p).ix w.o1 w.o2)) (args:=zd set w.ins (d.el p).g (d.el p).ix) (λ_ _=>trivial) R F hc rfl hin C rfl ?_ ⟨trivial,trivial,trivial,⟨b1.1,c8 b1.2.1 (c8 b1.2.2 (by decide))⟩,⟨b2.1,c8 b2.2.1 (c8 b2.2.2 (by decide))⟩,trivial,rfl⟩ (by decide) rfl rfl (eH.mpr (aI OK.msg (by decide))) trivial (λP' _=>lK (runs set p) (acZ set) P' (oE P')) (λCo=>?_) post λP' rr st1 J1 s1 _ hq le R1=>?_
 ·have u:∀p:AO,∀o,OR (J.sub (upTo (mE w.ins) 0) D) o p->OR (J.sub (upTo (mE w.ins) 0) D) o p:=λ_ _ h=>h
  exact .cons (u _) (.cons (u _) (.cons (u _) (.cons (u _) (.cons (u _) (.cons (u _) (.cons (u _) (.cons (u _) (.cons (λo h=>UG (J:=J.sub (upTo (mE w.ins) 0) D) (rest:=[inner d (cX d.L p)]) ok rfl (g7.imp λa h=>h.2) (H.o (k:=0) (by decide)) (H.o (k:=1) (by decide)) _ _ h) (fm u _)))))))))
 ·unfold zd
  rw [cW];refine bp (rh.1 hvs) λp1 p2 ai v1 v2=>?_;subst ai;refine rh.2 ⟨p1,p2,rfl,(iV ?_ _).1 v1,?_⟩
  ·have ec:aV J (jv (cX d.L p)) (J.sub (upTo (mE w.ins) 0) D) (stepT (d.el p).g (d.el p).ix):=T0 (J:=J) (J':=J.sub (upTo (mE w.ins) 0) D) rfl (λe=>H.t (bW e)) SF.e3 rfl rfl
   have vt:aV J (cD wt) (J.sub (upTo (mE w.ins) 0) D) (cD (.var 0)):=lO (J:=J) (J':=J.sub (upTo (mE w.ins) 0) D) rfl p9;have vf:aV J (cD wf) (J.sub (upTo (mE w.ins) 0) D) (cD (.var 1)):=lO (J:=J) (J':=J.sub (upTo (mE w.ins) 0) D) rfl p8;have ee:aV J (envOf w.ins) (J.sub (upTo (mE w.ins) 0) D) (envOf w.ins):=by refine am (Xg w.ins) λj q1 q2=>?_;refine ae q1 ?_;exact iG Co q2
   refine aC (iG Co (uO (by decide))) (aC ec (aC vt ?_));cases hs:set with
   |true=>exact aC vf (aC ee bu)
   |false=>exact aC ee bu
  ·refine am v2.l1 λv aq hv=>?_
   have aa:=aq;clear v2 aq;subst aa;cases hv.pp with
   |mk g1 g2 g3 g4 g5 g6 g8 g9 gz g=>exact .cons (.inst g1 g2 g3 g4 g5 g6 g8 g9 gz .nil) .nil
 ·refine aF hq λa' q1 hq=>?_
  refine aF hq λb' q2 hq=>?_;refine aF hq λr1' q3 hq=>?_;refine aF hq λr2' q4 hq=>?_;refine aF hq λbc g1 g2=>?_;have len:12<=(J.sub (upTo (mE w.ins) 0) D).aA.length:=aI (HY w.ins) (ck ((dz _).trans (dK _ _)).symm);have n0:11< st1.n:=AL R1 le len;refine aQ (lq R1 tH (mu n0) q1) λx5 BD=>?_;refine aQ (lq R1 tN (mu n0) q2) λx6 BE=>?_;refine am (tP R1 q3 BD) λz5 B8 te=>?_;refine am (tP R1 q4 BE) λz6 B9 tf=>?_;refine am (DQ R1 n0 g1) λJ4 l4 R4=>?_;have le:=le.trans l4;have pI:∀{k:Nat} {i:Int},D.iI[k]?=some i->J4.iI[k]?=some i:=aN le.iI;have pO:J4.oO=J.oO:=le.oO.symm;have pP:J4.pP=D.pP:=le.pP.symm;have pT:∀{k:Nat} {i:AV},D.tA[k]?=some i->J4.tA[k]?=some i:=aN le.tA;have p3:d.l3 w V Z0Z p<+:J4.iI:=Ct.trans (l₂:=D.iI) ⟨_,rfl⟩ le.iI;have eo:jC set (d.el p).g (d.el p).ix w.o1 w.o2=d.oW w p:=e1▸rfl;rw [eo] at g2;refine aB hk λk1 k2=>?_;have Ce:∀nw,CorrD J4 (Ah w.ins (gE set (d.el p).g) (gF set (d.el p).g) w.o1 w.o2 (d.oW w p) nw r1' r2') (J4.sub (app (upTo (mE w.ins) 0) nw) (D.grow [z5,z6] [])):=λnw=>by
   have LR:∃a,J4.aA[7]?=some a/\(J4.sub (app (upTo (mE w.ins) 0) nw) (D.grow [z5,z6] [])).aA[7]?=some a:=g7.imp λa h=>⟨aN le.aA h.2,map_getD (by rw [cW];exact aN ⟨nw,rfl⟩ (uO (by decide))) (aN le.aA h.2)⟩
   exact {
    iw:=aR (aO ⟨_,rfl,pI rfl⟩ (aO ⟨_,rfl,pI rfl⟩ (aO ⟨_,rfl,pI rfl⟩ (aO ⟨_,rfl,pI rfl⟩ (aO ⟨_,rfl,pI rfl⟩ (aO ⟨_,rfl,GN (pI rfl) p3 (hZ▸OK.res)⟩ (aO ⟨_,rfl,AI.fw l4 B8⟩ (aO ⟨_,rfl,AI.fw l4 B9⟩ aS))))))))
    sw:=aR (aO ⟨_,rfl,rfl⟩ aS)
    vw:=II λq=>⟨fr,rfl,(hfr q).1,.aY (by decide) (aN le.vV rfl)⟩
    ow:=aR (aO ⟨_,H.o (k:=0) (by decide),ph (pO▸H.o (k:=0) (by decide))⟩ (aO ⟨_,H.o (k:=1) (by decide),ph (pO▸H.o (k:=1) (by decide))⟩ (aO ⟨_,H.o (k:=2) (by decide),ph (pO▸H.o (k:=2) (by decide))⟩ (aO ⟨_,H.o (k:=3) (by decide),ph (pO▸H.o (k:=3) (by decide))⟩ aS))))
    pw:=aR (aO (gj (pP▸rfl) rfl SF.l0) (aO ⟨d.Nn w V N p,d.ns w V p,Fg (pP▸rfl),FJ p3 (hZ▸OK.ns),rfl,SF.l1⟩ aS))
    tw:=aR (aO ⟨_,true,rfl,qO ok,λ_=>LR,t0 (pT rfl)⟩ (aO ⟨_,true,rfl,qP ok,λ_=>LR,t0 (pT rfl)⟩ (aO ⟨_,false,rfl,qq _,λq=>aE q,pT rfl⟩ aS)))
    fz:=rfl
    wd:=rfl}
  refine ⟨J4,bc,l4,R4,?_⟩;have g2:iB (Ah w.ins (gE set (d.el p).g) (gF set (d.el p).g) w.o1 w.o2 (d.oW w p) (excOf rr bc) r1' r2') bc rr (upTo (mE w.ins) 0).length (excOf rr bc) (pR w.ins (lH (d.oW w p)))=true:=(dK (mE w.ins) 0).symm▸g2;cases er:lH (d.oW w p) with
  |true=>rw [er] at g2;exact .mk (pR w.ins true) _ _ _ [z5,z6] [] _ [(4+p,some (p+1))] g2 (λq=>aE q) (λ_ h=>h) (fm (λ_ _ h=>h) _) k1 (Ce _) ⟨te,tf,rfl⟩ rfl (λ_ h=>nomatch h) (.inl rfl) (eH.mpr (GA (j:=0) SF er))
  |false=>rw [er] at g2;exact .mk (pR w.ins false) _ _ _ [z5,z6] [] _ [(4+p,none)] g2 (λ_=>congrArg AV.ref (dK (mE w.ins) 0).symm) (λ_ h=>h) (fm (λ_ _ h=>h) _) k2 (Ce _) ⟨te,tf,rfl⟩ rfl (λ_ h=>nomatch h) (.inl rfl) (eH.mpr (GB SF er))
end
noncomputable def sI:List Nat:=[103,104,117]
noncomputable def pW:List Nat:=[0,1,2]
theorem sB(set ins:Bool):(sI.all λg=>pW.all λix=>im set ins g ix [] [])=true:=by
 cases set with
 |true=>cases ins with
  |true=>kernel_rfl
  |false=>kernel_rfl
 |false=>cases ins with
  |true=>kernel_rfl
  |false=>kernel_rfl
theorem sG(ins:Bool):(pW.all λix=>kH.all λo=>im false ins 107 ix o [])=true:=by
 cases ins with
 |true=>kernel_rfl
 |false=>kernel_rfl
theorem sS(ins:Bool):(pW.all λix=>kI.all λo=>im true ins 107 ix [] o)=true:=by
 cases ins with
 |true=>kernel_rfl
 |false=>kernel_rfl
theorem rB(set:Bool):(sI.all λg=>pW.all λix=>iF set g ix [] [])=true:=by
 cases set with
 |true=>kernel_rfl
 |false=>kernel_rfl
theorem rG:(pW.all λix=>kH.all λo=>iF false 107 ix o [])=true:=by kernel_rfl
theorem rS:(pW.all λix=>kI.all λo=>iF true 107 ix [] o)=true:=by kernel_rfl
theorem all2{Q:Nat->Nat->Bool}{l r:List Nat}(h:(l.all λa=>r.all (Q a))=true){a b:Nat}(ha:a∈l)(hb:b∈r):Q a b=true:=be.mp (be.mp h a ha) b hb
theorem uF{Y:Type}{Q:Nat->Y->Bool}{l:List Nat}{r:List Y}(h:(l.all λa=>r.all (Q a))=true){a:Nat}{b:Y}(ha:a∈l)(hb:b∈r):Q a b=true:=be.mp (be.mp h a ha) b hb
theorem EU{Q:Nat->Prop}(h:∀g∈sI,Q g)(h':Q 107){g:Nat}(hg:g∈ [103,104,107,117]):Q g:=by
 obtain rfl |hg:=jQ.mp hg
 ·exact h _ (.head _)
 obtain rfl |hg:=jQ.mp hg
 ·exact h _ (.tail _ (.head _))
 obtain rfl |hg:=jQ.mp hg
 ·exact h'
 ·exact fe.mp hg▸h _ (.tail _ (.tail _ (.head _)))
theorem Ib{g:Nat}(h:g∈sI):ag g 107=false:=by have q:(sI.all λg=> !(ag g 107))=true:=rfl;exact fJ (be.mp q g h)
theorem Tp(set ins:Bool){d:fG}(hd:nU d){o1 o2:List Nat}(h1:o1∈kH)(h2:o2∈kI):im set ins d.g d.ix o1 o2=true:=by
 obtain ⟨g,ix,n⟩:=d;obtain ⟨hg,hix⟩:=hd;refine EU (Q:=λg=>im set ins g ix o1 o2=true) (λg hg=>?_) ?_ hg
 ·have e:im set ins g ix o1 o2=im set ins g ix [] []:=by
   unfold im jC Ad gE gF;rw [Ib hg];cases set<;>rfl
  exact e.trans (all2 (sB set ins) hg hix)
 ·cases set with
  |false=>exact (show im false ins 107 ix o1 []=true from uF (sG ins) hix h1)
  |true=>exact (show im true ins 107 ix [] o2=true from uF (sS ins) hix h2)
theorem aan(set:Bool){d:fG}(hd:nU d){o1 o2:List Nat}(h1:o1∈kH)(h2:o2∈kI):iF set d.g d.ix o1 o2=true:=by
 obtain ⟨g,ix,n⟩:=d;obtain ⟨hg,hix⟩:=hd;refine EU (Q:=λg=>iF set g ix o1 o2=true) (λg hg=>?_) ?_ hg
 ·have e:iF set g ix o1 o2=iF set g ix [] []:=by
   unfold iF jC Ad gE gF;rw [Ib hg];cases set<;>rfl
  exact e.trans (all2 (rB set) hg hix)
 ·cases set with
  |false=>exact (show iF false 107 ix o1 []=true from uF rG hix h1)
  |true=>exact (show iF true 107 ix [] o2=true from uF rS hix h2)
section
variable{P:Pr}{J J':G}{st:St}{s:Shared}{w:Ow}{d:SD}{V:Nat->Option Int}{N:List Note}{more:List Int}{vs:List Value}{p7:List AV}{Z:Th}
theorem oM{Y:Type}{f g:Y->AV}{l:List Y}(h:∀a∈l,aV J (f a) J' (g a)):bS J (mp f l) J' (mp g l):=by
 induction l with
 |nil=>exact bu
 |cons a r ih=>exact aC (h a (.head _)) (ih λb hb=>h b (.tail _ hb))
theorem mB{T:AV}(h:∀J J':G,J.fz=J'.fz->aV J T J' T):Free false T:=λJ J' hf _=>h J' J hf
theorem gS(e:Nat):Free false (ka d e):=mB λJ J' hf=>ge hf (aC (dW (J:=J) (J':=J') hf rfl) (aC (qU hf e) (pk (J:=J) (J':=J') hf rfl).1))
theorem mA(e:Nat):Free false (ku d e):=mB λJ J' hf=>ge hf (aC bO (aC bO (pk (J:=J) (J':=J') hf rfl).2))
theorem wH(ix:Nat)(n:Int):Free false (ei ix (.lit n)):=mB λJ J' hf=>oZ (J:=J) (J':=J') hf rfl
theorem wU(l:List Nat):Free false (.str (.lit l)):=mB λJ J' hf=>cm l
theorem tJ(D:fG):Free false (kD D):=mB λJ J' hf=>by
 unfold kD eD;cases ag D.ix 0 with
 |true=>exact bO
 |false=>
  cases ag D.ix 1 with
  |true=>exact lO (J:=J) (J':=J') hf rfl
  |false=>exact mW hf (aC (dW (J:=J) (J':=J') hf rfl) (aC (lO (J:=J) (J':=J') hf rfl) bu)) (aC bO (aC bO bu))
theorem wA:∀T∈ud w d,Free false T:=by have c:∀{T:AV} {l:List AV},Free false T->(∀T∈l,Free false T)->∀T'∈T::l,Free false T':=λa b=>cT.mpr ⟨a,b⟩;exact c (gS 0) (c (gS 0) (c (gS 0) (c (mA 0) (c (gS 1) (c (mA 1) (c (gS 2) (c (mA 2) (c (qq 0) (c (qq 1) (c (qq 2) (c (wH _ _) (c (wH _ _) (c (wH _ _) (c (wU _) (c (wU _) (c (wU _) (c (tJ _) (c (tJ _) (c (tJ _) (λ_ h=>nomatch h))))))))))))))))))))
noncomputable def ky(J:G)(w:Ow)(d:SD):Prop:=∀(j:Nat) T,(trees w d)[2+j]?=some T->J.tA[2+j]?=some T
theorem ky.at_(h:ky J w d){e:Nat}(he:e< 3):J.tA[2+2* e]?=some (ka d e)/\J.tA[3+2* e]?=some (ku d e)/\J.tA[14+e]?=some (.str (.lit [(d.D e).g]))/\J.tA[17+e]?=some (kD (d.D e)):=by
 match e,he with
 |0,_=>exact ⟨h 0 _ rfl,h 1 _ rfl,h 12 _ rfl,h 15 _ rfl⟩
 |1,_=>exact ⟨h 2 _ rfl,h 3 _ rfl,h 13 _ rfl,h 16 _ rfl⟩
 |2,_=>exact ⟨h 4 _ rfl,h 5 _ rfl,h 14 _ rfl,h 17 _ rfl⟩
noncomputable def dY(d:SD)(e:Nat):Bool:= !(ag (d.D e).ix 0)
theorem RO(D:fG):isAny (kD D)=false:=by unfold kD eD;cases ag D.ix 0<;>first |rfl | (cases ag D.ix 1<;>rfl)
theorem HE(hf:J.fz=J'.fz)(h':ky J' w d){e:Nat}(he:e< 3){x y:AV}(hx:aV J y J' x):bS J (cv (.lit [(d.D e).g])::y::eD (d.D e).ix (.lit (d.D e).n)) J' (KZ e::x::bf (dY d e) [.aY (1000000+(17+e))] [])/\∀v,VR J (ku d e) v↔VR J' (.aY (1000000+(3+2* e))) v:=by
 refine jw (h'.at_ he) λ_ a2 a3 a4=>?_;refine ⟨aC (j9 hf (aC (cm _) (aC (eQ (J:=J') (J':=J) (O:=0) a3 (pY he rfl) rfl rfl λv=>hW (cm [(d.D e).g]) v).sym (aC bO bu)))) (aC hx ?_),λv=>(hW (eQ (J:=J') (J':=J) (O:=0) (q:=ku d e) a2 (by omega) rfl rfl λv=>hW (mA e J J' hf.symm (λq=>aE q)) v) v).symm⟩;have t:=(eQ (J:=J') (J':=J) (O:=0) a4 (pY he rfl) rfl (RO _) λv=>hW (tJ (d.D e) J J' hf.symm (λq=>aE q)) v).sym;unfold dY;unfold kD at t;unfold eD at t ⊢;cases c0:ag (d.D e).ix 0 with
 |true=>exact bu
 |false=>
  rw [c0] at t;cases c1:ag (d.D e).ix 1 with
  |true=>rw [c1] at t;exact aC t bu
  |false=>rw [c1] at t;exact aC t bu
theorem Ry(hf:J.fz=J'.fz)(h':ky J' w d)(hL:d.L<=3){b:Nat->Bool}(hb:∀e,e< 3->b e=dY d e)(n:Nat):∀e,aV J (mf d n e) J' (vL d.v d.L b n (e+1)):=by
 induction n with
 |zero=>exact λe=>dW (J:=J) (J':=J') hf rfl
 |succ n ih=>
  intro e;show aV J (bf (bh (e+1) d.L) (iz (d.D (e+1)) (mf d n (e+1))) (cv (.lit [120+d.v]))) J' (bf (bh (e+1) d.L) (tE (e+1) (vL d.v d.L b n (e+1+1)) (b (e+1))) (cv (.lit [120+d.v])));cases c:bh (e+1) d.L with
  |false=>exact dW (J:=J) (J':=J') hf rfl
  |true=>have e3:=bz (d7.mp c) hL;refine au (HE hf h' e3 (ih (e+1))) λt1 t2=>?_;refine ae (hb _ e3) ?_;exact j9 hf (aC (cm _) (aC (ge hf t1) (aC ⟨rfl,t2⟩ (aC bO (aC bO bu)))))
theorem EG(hf:J.fz=J'.fz)(h:ky J w d)(h':ky J' w d)(hL:d.L<=3){b:Nat->Bool}(hb:∀e,e< 3->b e=dY d e){e:Nat}(he:e< d.L):aV J (jv e) J' (pQ d.v d.L b e):=by
 have e3:e< 3:=bz he hL;refine jw (h.at_ e3) λa1 a2 _ _=>?_;refine au (HE hf h' e3 (Ry hf h' hL hb (2 - e) e)) λt1 t2=>?_;have q:pQ d.v d.L b e=tE e (vL d.v d.L b (2 - e) (e+1)) (dY d e):=by unfold pQ;refine ae (Nat.succ_sub (aen e3):3 - e=(2 - e)+1) (bH (hb e e3) ?_);exact cf (d7.mpr he)
 have f1:=ge hf t1;refine ae q ?_;exact j9 hf (aC (cm _) (aC (eQ (O:=0) a1 (vm e3 rfl) rfl rfl λv=>hW f1 v) (aC (eQ (O:=0) a2 (vm e3 rfl) rfl rfl t2) (aC bO (aC bO bu)))))
theorem Fy{J4:G}{D:Dt}{ls:List Nat}{nI:List Int}(fr:∀T∈D.tA,Free false T)(le:D.tA<+:J4.tA){n b:Nat}(hn:b+n<=D.tA.length)(j:Nat)(t:TW)(h:nth (mp .at (upTo n b)) j=some t):lu J4 (J4.sub ls (D.grow nI [])) (b+j) t:=by refine au (eP h) λhj aq=>?_;have aa:=aq;clear h aq;subst aa;refine cx (l:=D.tA) (bz (Ch hj b) hn) λT hT=>?_;exact ⟨T,false,aN ⟨[],rfl⟩ hT,fr T (bx hT),λq=>aE q,aN le hT⟩
theorem acH:(b6.get 617).isSome=true:=by kernel_rfl
theorem Rx(ok:cw w d):Hu d.v d.L (dY d 0) (dY d 1) (dY d 2)=true:=by have a:d.v∈ [0,1]:=(ic.mpr (fg ok.v):d.v∈d6 2);have b:d.L∈ [0,1,2,3]:=(ic.mpr (fg ok.L):d.L∈d6 4);exact be.mp (be.mp (be.mp (be.mp (be.mp WQ _ a) _ b) _ (uQ _)) _ (uQ _)) _ (uQ _)
theorem bits_is(f:Nat->Bool){e:Nat}(h:e< 3):bits (f 0) (f 1) (f 2) e=f e:=by
 match e,h with
 |0,_=>rfl
 |1,_=>rfl
 |2,_=>rfl
theorem uB{n e:Nat}(h:e∈upTo n 0):e< n:=by refine aQ (fZ h) λj hj=>?_;have q:=dK n 0▸lt_of_get hj;exact (af ((dQ n 0 j q).symm.trans hj))▸(bJ j).symm▸q
theorem Pu(ok:cw w d)(hP:∀J,P.gh J->Pre (br w d V N more vs (trees w d++p7)) J){c:Cx}{args:List AV}{k:Kont}(h:EF d.v d.L c args st k=some true):bZ P c 617 args st k:=by
 refine bb h λh1 h=>?_;have hk:=af h;refine aB h1 λh1 h2=>?_;refine aB h1 λhc hin=>?_;refine aB h2 λh2 h3=>?_;have hL:=bt h2;have aa:=jX h3;clear h h1 h2 h3;subst aa;intro J s A Rr vs' R F hvs post;have H:=hP J R.gh;have hT:ky J w d:=λj T e=>H.t (bW e);let D:Dt:=⟨[],ew 20 .none,[],[],[],ud w d⟩;have hT':∀{J1:G},D.tA<+:J1.tA->ky J1 w d:=λl j T e=>aN l (show (ud w d)[2+j]?=some T by rw [ja] at e ⊢;exact e);have fz:∀T∈D.tA,Free false T:=wA;have hb:=λ (e:Nat) (h:e< 3)=>bits_is (dY d) h
 have C:CorrD J AY (J.sub [] D):={
  iw:=aR aS
  sw:=aR aS
  vw:=aR aS
  ow:=aR aS
  pw:=aR aS
  tw:=aR (aO ⟨_,false,rfl,gS 0,λq=>aE q,H.t rfl⟩ (aO ⟨_,false,rfl,gS 0,λq=>aE q,H.t rfl⟩ (aO ⟨_,false,rfl,gS 0,λq=>aE q,H.t rfl⟩ (aO ⟨_,false,rfl,mA 0,λq=>aE q,H.t rfl⟩ (aO ⟨_,false,rfl,gS 1,λq=>aE q,H.t rfl⟩ (aO ⟨_,false,rfl,mA 1,λq=>aE q,H.t rfl⟩ (aO ⟨_,false,rfl,gS 2,λq=>aE q,H.t rfl⟩ (aO ⟨_,false,rfl,mA 2,λq=>aE q,H.t rfl⟩ aS))))))))
  fz:=rfl
  wd:=rfl}
 refine con (c':=mb) (gh:=λ_=>True) (bs:=[]) (nv:=20) (objs':=[]) (kc:=L9 d.v d.L (bits (dY d 0) (dY d 1) (dY d 2))) (args:=[pQ d.v d.L (bits (dY d 0) (dY d 1) (dY d 2)) 0]) (λ_ _=>trivial) R F hc rfl hin C rfl .nil rfl (by decide) rfl rfl (λ_ h=>nomatch h) trivial (λP' _=>lK (Rx ok) acH P' (oE P')) (λCo=>?_) post λP' rr st1 J1 s1 _ hq le R1=>?_
 ·exact (iV (aC (EG (J:=J) (J':=J.sub [] D) rfl hT (hT' (bT _)) ok.L hb (bz Nat.zero_lt_one hL)) bu) _).1 hvs
 ·refine ⟨J1,st1,.refl _,R1,.mk (va d.v d.L) _ (LE d.v d.L (bits (dY d 0) (dY d 1) (dY d 2))) _ [] [] _ [] hq (λq=>aE q) (λ_ h=>h) (.cons (λo h=>?_) .nil) hk ?_ rfl rfl (λ_ h=>nomatch h) (.inl rfl) (λ_ h=>nomatch h)⟩
  ·obtain ⟨us,m,rfl,h⟩:=h
   have LW:ky (J1.sub (rT rr) (D.grow [] [])) w d:=hT' ⟨[],rfl⟩;exact ⟨us,m,rfl,(iV (oM λe he=>(EG (J:=J1.sub (rT rr) (D.grow [] [])) (J':=J1.sub (rT rr) (D.grow [] [])) rfl LW LW ok.L hb (uB he)).sym) _).1 h⟩
  ·exact {
    iw:=aR aS
    sw:=aR aS
    vw:=aR aS
    ow:=aR aS
    pw:=aR aS
    tw:=λj t h=>bJ j▸Fy (n:=20) (b:=0) fz le.tA (cG 20) j t h
    fz:=rfl
    wd:=rfl}
end
section
variable{P:Pr}{J J':G}{st:St}{s:Shared}{w:Ow}{d:SD}{V:Nat->Option Int}{N:List Note}{more:List Int}{vs:List Value}{p7:List AV}{ts:List AV}{Z:Th}
theorem ST(hts:∀(k:Nat) T,((trees w d).drop 2)[k]?=some T->ts[2+k]?=some T)(ok:cw w d)(hN:N.length<=7000000)(hP:∀J,P.gh J->Pre (br w d V N more vs ts) J):∀tk st k,Ir w.ins d.up d.v d.L d.r tk st k=some true->Goal (eN P) P tk st k:=qy λa c args st k h=>by refine bb h λh1 h=>?_;have aa:=aH h1;clear h h1;subst aa;refine ah h λq _ h=>?_;refine ah h λp _ h=>?_;refine ah h λir _ h=>?_;refine ah h λrow _ h=>?_;refine ah h λwt _ h=>?_;exact VE hts ok hN hP (λset p=>aan set (ok.D _) ok.o1 ok.o2) h
theorem RF(ok:cw w d)(hN:N.length<=7000000)(hP:∀J,P.gh J->Pre (br w d V N more vs (trees w d++p7)) J):∀tk st k,HF w.ins d.up d.v d.L d.r tk st k=some true->Goal (eN P) P tk st k:=qy λa c args st k h=>by
 have step:∀{set:Bool},yS set w.ins d.up d.v d.L d.r c args st k=some true->bZ P c (bf set 703 688) args st k:=λh=>by refine ah h λq _ h=>?_;refine ah h λp _ h=>?_;refine ah h λa ha h=>?_;refine ah h λb hb h=>?_;refine ah h λwt _ h=>?_;exact Uo ok hN hP (λset p=>Tp set w.ins (ok.D _) ok.o1 ok.o2) ha hb h
 obtain ⟨h1,h⟩ |h:=dj h
 ·exact aH h1▸Pu ok hP h
 obtain ⟨h1,h⟩ |h:=dj h
 ·exact aH h1▸step (set:=false) h
 refine bb h λh1 h=>?_;exact aH h1▸step (set:=true) h
theorem ab7:(b6.get 1054).isSome=true:=by kernel_rfl
theorem abo:(b6.get 847).isSome=true:=by kernel_rfl
theorem lQ{Q:Nat->Nat->Nat->Bool}(h:([0,1].all λv=>[0,1,2,3].all λL=>[0,1,2,3].all λr=>Q v L r)=true){v L r:Nat}(hv:v<=1)(hL:L<=3)(hr:r<=3):Q v L r=true:=be.mp (be.mp (be.mp h v (ic.mpr (fg hv):v∈d6 2)) L (ic.mpr (fg hL):L∈d6 4)) r (ic.mpr (fg hr):r∈d6 4)
theorem It(ok:cw w d):gv w.ins d.up d.v d.L d.r=true/\gn w.ins d.up d.v d.L d.r=true:=by
 cases w.ins with
 |true=>cases d.up with
  |true=>exact ⟨lQ ab5 ok.v ok.L ok.r,lQ abl ok.v ok.L ok.r⟩
  |false=>exact ⟨lQ ab4 ok.v ok.L ok.r,lQ abk ok.v ok.L ok.r⟩
 |false=>cases d.up with
  |true=>exact ⟨lQ ab3 ok.v ok.L ok.r,lQ abj ok.v ok.L ok.r⟩
  |false=>exact ⟨lQ ab2 ok.v ok.L ok.r,lQ abi ok.v ok.L ok.r⟩
theorem rd2(hts:∀(k:Nat) T,((trees w d).drop 2)[k]?=some T->ts[2+k]?=some T)(ok:cw w d)(hN:N.length<=7000000)(hP:∀J,P.gh J->Pre (br w d V N more vs ts) J):bZ P hJ 1054 [vA d.up d.v d.L d.r,.ref 2,.ref 1,.ref 0] (c6 (rC w.ins 0 0) (nones 10) 26) (BI w.ins d.up d.v d.L d.r):=lK (It ok).1 ab7 P (ST hts ok hN hP)
theorem ev2(ok:cw w d)(hN:N.length<=7000000)(hP:∀J,P.gh J->Pre (br w d V N more vs (trees w d++p7)) J):bZ P hJ 847 [.ref 1,sk d.up d.v d.L d.r,envOf w.ins] (c6 (rA w.ins (.var 10) (.var 11) 0 0) Av 26) (BH w.ins d.up d.v d.L d.r):=lK (It ok).2 abo P (RF ok hN hP)
theorem Pc{n b p:Nat}(h:cC (λ_=>b5.ok) (λ_ f p=>oe (.step p) (λ_=>f (p+1)) (d.fY w V p)) n b= .step p):b<=p/\p< b+n:=by
 induction n generalizing b with
 |zero=>exact b5.noConfusion h
 |succ n ih=>
  have h:oe (b5.step b) (λ_=>cC (λ_=>b5.ok) (λ_ f p=>oe (.step p) (λ_=>f (p+1)) (d.fY w V p)) n (b+1)) (d.fY w V b)= .step p:=h;cases c:d.fY w V b with
  |none=>rw [c] at h;obtain rfl:b=p:=b5.noConfusion h id;exact ⟨cG _,Cc (qo n)⟩
  |some i=>rw [c] at h;refine au (ih h) λh1 h2=>?_;exact ⟨wm h1,dx b n 1▸h2⟩
theorem uC(ok:cw w d){p:Nat}(h:d.way w V= .step p):p< 5:=by
 unfold SD.way at h;cases c:d.nW w V with
 |none=>rw [c] at h;exact b5.noConfusion h
 |some i=>
  rw [c] at h;have h:bf (ag d.L 0) .ok (oe .fC (λ_=>d.lx w V (2* d.L - 1)) (d.jH w V))=b5.step p:=h;cases c0:ag d.L 0 with
  |true=>rw [c0] at h;exact b5.noConfusion h
  |false=>
   rw [c0] at h;have h:oe .fC (λ_=>d.lx w V (2* d.L - 1)) (d.jH w V)=b5.step p:=h;cases c1:d.jH w V with
   |none=>rw [c1] at h;exact b5.noConfusion h
   |some j=>rw [c1] at h;exact bz (Pc h).2 (aI (ck (bJ _)) (pL ok.L))
theorem qZ{Y:Type}{f:Nat->Y}{n k:Nat}{r:List Y}{a:Y}(h:nth (app (mp f (upTo n 0)) r) k=some a):(k< n/\a=f k)\/ ∃j,k=n+j/\nth r j=some a:=by
 obtain h | ⟨j,e,h⟩:=lm h
 ·refine au (eP h) λh1 h2=>?_
  exact .inl ⟨h1,h2.trans (congrArg f (bJ k))⟩
 ·exact .inr ⟨j,by rw [e,dD,dz,dK],h⟩
section
variable{J4:G}{j:Nat}(H:Pre (br w d V N more vs ts) J4)(ok:cw w d)
include H
theorem aaT{nI:List Int}{iw:List AI}(hj:isOk (d.way w V)=true->J4.iI[j]?=some (d.rv w V))(hi:∀k e,nth iw k=some e->∃i,(more++nI)[k]?=some i/\e.ev J4=some i)(k:Nat)(e:AI)(h:nth (app (mp AI.var (upTo 9 0)) (bf (isOk (d.way w V)) (.var j) (.var 9)::iw)) k=some e):∃i,((br w d V N more vs ts).iI++nI)[k]?=some i/\e.ev J4=some i:=by
 have id:∀{k:Nat} {i:Int},((br w d V N more vs ts).iI)[k]?=some i->∃i,((br w d V N more vs ts).iI++nI)[k]?=some i/\(AI.var k).ev J4=some i:=λ {k i} e=>⟨i,bW e,aN H.iI e⟩;obtain ⟨h1,rfl⟩ | ⟨m,rfl,z⟩:=qZ h
 ·refine aQ (fo (l:=kl w d V) (iZ (qh h1) gc.symm)) λi hi=>?_
  exact id (bW hi)
 ·cases m with
  |zero=>
   have e9:(br w d V N more vs ts).iI[9]?=some ((d.val w V).getD 0):=bW (cO 6 (lA 5) (k:=3) rfl);have aa:=af z;clear z h;subst aa;cases c:isOk (d.way w V) with
   |false=>exact id e9
   |true=>exact ⟨_,bW e9,(hj c).trans (congrArg some (getD_some (show d.val w V=some (d.rv w V) from cf c)).symm)⟩
  |succ m=>refine am (hi m e z) λi h1 h2=>?_;refine ⟨i,?_,h2⟩;show ((kl w d V++more)++nI)[9+(m+1)]?=some i;rw [jO,show 9+(m+1)=10+m from dx 9 m 1];exact cO 10 gc h1
include ok
theorem aaW(k:Nat)(e:SW)(h:nth (app (mp (λk=>SW.var [] k []) (upTo 10 0)) [G6 d.v d.r (d.way w V)]) k=some e):∃i,(br w d V N more vs ts).sS[k]?=some i/\e.ev J4=some i:=by
 obtain ⟨h1,rfl⟩ | ⟨m,rfl,z⟩:=qZ h
 ·refine cx (l:=(br w d V N more vs ts).sS) (bz h1 (by decide:10<=11)) λx hx=>?_
  exact ⟨x,hx,eB (H.sS▸hx)⟩
 ·cases m with
  |succ m=>exact aD z
  |zero=>
   have aa:=af z;clear z h;subst aa;refine ⟨d.msg w V,rfl,?_⟩;have q:=H.mm;unfold SD.msg at q ⊢;cases c:d.way w V with
   |ok=>rw [c] at q;exact eB q
   |lj=>rfl
   |fC=>rfl
   |step p=>exact eB (H.m (uC ok c))
theorem aaU(hj:isOk (d.way w V)=true->J4.iI[j]?=some (d.rv w V))(k:Nat)(e:OW)(h:nth (app (mp .cp (upTo 9 0)) (mp (yW w.ins d.up d.v d.L j (d.way w V)) (upTo 4 0))) k=some e):∃i,(br w d V N more vs ts).oO[k]?=some i/\e.ev J4=some i:=by
 obtain ⟨h1,rfl⟩ | ⟨m,rfl,z⟩:=qZ h
 ·refine cx (l:=(br w d V N more vs ts).oO) (bz h1 (by decide:9<=13)) λx hx=>?_
  exact ⟨x,hx,ph (H.oO▸hx)⟩
 ·refine au (eP z) λh1 e2=>?_
  rw [bJ] at e2;clear z h;subst e2;refine ⟨d.next w V m,?_,?_⟩
  ·refine ae (show 9+m=4+(5+m) from (ie 4 5 m)) ?_
   exact cO 4 gw (cO 5 gw (dE h1))
  ·unfold yW SD.next
   cases c:(isOk (d.way w V)&&ag m (placeOf w.ins d.up d.v)) with
   |false=>exact ph (H.o h1)
   |true=>
    refine bQ (a:=d.last w V) ?_ rfl;unfold SD.last;cases c0:ag d.L 0 with
    |true=>exact hj (bq c).1
    |false=>
     have hz:2* d.L - 1< (d.Zn w V 5).length:=by rw [lA];exact i7 (pL ok.L)
     refine cx hz λz hz=>?_;exact (H.i hz).trans (congrArg some (jY hz).symm)
theorem aaV(hN:N.length<=6000000){J':G}(e':J'.pP=(br w d V N more vs ts).pP)(k:Nat)(q:Option Nat×List NW)(h:nth (app (mp (λk=>(some k,[])) (upTo 7 0)) [FD d.L d.r (d.way w V)]) k=some q):jk J4 J' k q:=by
 have l:∀n,n<=5->(d.Nn w V N n).length<=8000000:=λn h=>aI (ry ok n) (aI (sX hN h) (by decide));have lN:N.length<=8000000:=aI hN (by decide);have n0:J4.pP[0]?=some N:=H.pP▸rfl;have to:∀{k:Nat} {M:List Note},J4.pP[k]?=some M->J'.pP[k]?=some M:=λh=>e'.trans H.pP.symm▸h;have at':∀{p:Nat},p< 6->jk J4 J' (1+p) (some (1+p),[]):=λhp=>gj (H.n hp) (to (H.n hp)) (l _ (aen hp));obtain ⟨h1,rfl⟩ | ⟨m,rfl,z⟩:=qZ h
 ·cases k with
  |zero=>exact gj n0 (to n0) lN
  |succ k=>exact ja 1 k▸at' (tj h1)
 ·cases m with
  |succ m=>exact aD z
  |zero=>
   have aa:=af z;clear z h;subst aa;have e7:J'.pP[7+0]?=some (d.notes w V N):=e'▸rfl;have far:∀{p q:Nat},p< 6->q=1+p->d.notes w V N=d.Nn w V N p->jk J4 J' (7+0) (some q,[]):=λhp hq e=>hq▸gj (H.n hp) (e▸e7) (l _ (aen hp));have zero:d.notes w V N=d.Nn w V N 0->jk J4 J' (7+0) (iD d.r 0):=λe=>qY (H.nb (by decide)) (e▸e7) (l 0 (by decide));unfold SD.notes at far zero e7;cases c:d.way w V with
   |lj=>rw [c] at e7;exact gj n0 e7 lN
   |fC=>rw [c] at zero;exact zero rfl
   |step p=>rw [c] at far;have:=uC ok c;exact far (p:=p+1) (tC this) ((ie 1 1 p).trans (congrArg (1+ ·) (ja 1 p))) rfl
   |ok=>
    rw [c] at far zero;show jk J4 J' 7 (bf (ag d.L 0) (iD d.r 0) (some (2* d.L),[]));have:=ok.L;cases c0:ag d.L 0 with
    |true=>exact zero (congrArg (d.Nn w V N) (congrArg (2* · - 1) (aH c0):2* d.L - 1=0))
    |false=>have:=dC c0;exact far (p:=2* d.L - 1) (i7 (pL ok.L)) ((ja _ _).trans (wk (CD (by decide) (wj this)))).symm rfl
end
theorem Eu{J4:G}{ls:List Nat}{nI:List Int}{j:Nat}{iw:List AI}{vw:List AV}{tw:List TW}(H:Pre (br w d V N more vs ts) J4)(ok:cw w d)(hN:N.length<=6000000)(hj:isOk (d.way w V)=true->J4.iI[j]?=some (d.rv w V))
  (hi:∀k e,nth iw k=some e->∃i,(more++nI)[k]?=some i/\e.ev J4=some i) (hv:∀k a,nth vw k=some a->∃v,vs[k]?=some v/\handedIn v=true/\dF J4 v a) (ht:∀j t,nth tw j=some t->lu J4 (J4.sub ls ((br w d V N more vs ts).grow nI [])) j t):
  CorrD J4 (uX ls w.ins d.up d.v d.L d.r (d.way w V) j iw vw tw) (J4.sub ls ((br w d V N more vs ts).grow nI [])) where
 iw:=aaT H hj hi
 sw:=aaW H ok
 vw:=hv
 ow:=aaU H ok hj
 pw:=aaV H ok hN rfl
 tw:=ht
 fz:=rfl
 wd:=rfl
end
noncomputable def kV(d:SD):AV:=bf (bh 0 d.L) (iz (d.D 0) (inner d 0)) (cv (.lit [120+d.v]))
noncomputable def m9(d:SD):List AV:=[lR d.up,.str (.lit [120+d.v]),I7 d,jq d.r (.lit d.num),kV d,ly d.r (.lit d.num)]
noncomputable def bN(ev:Bool)(w:Ow)(d:SD):List AV:=bf ev (trees w d) (ud w d)++m9 d
noncomputable def pf(w:Ow)(d:SD):List AV:=(trees w d).drop 2++m9 d
structure dk(J:G)(w:Ow)(j:Nat)(d:SD)(V:Nat->Option Int)(N:List Note):Prop where
 ok:cw w d
 lN:N.length<=6000000
 z:j=0->V 2=none/\V 3=none/\N= []
 iI:∀(k:Nat) i,(kl w d V)[k]?=some i->J.iI[10* j+k]?=some i
 s0:J.sS[0]?=some w.o1
 s1:J.sS[1]?=some w.o2
 sS:∀(k:Nat) x,(so w d V)[k]?=some x->J.sS[2+9* j+k]?=some x
 oV:∀k,k< 4->J.oO[4* j+k]?=some (V k)
 oS:∀p,p< 5->J.oO[20+5* j+p]?=some (d.fY w V p)
 oX:∀k,k< 4->J.oO[4* j+4+k]?=some (d.next w V k)
 oW:J.oO[40+j]?=some (d.val w V)
 n0:J.pP[j]?=some N
 nn:∀p,p< 6->J.pP[5+6* j+p]?=some (d.Nn w V N p)
 nx:J.pP[j+1]?=some (d.notes w V N)
 k0:J.tA[4]?=some (cK w.o1)
 k1:J.tA[5]?=some (cS w.o2)
 tA:∀(i:Nat) T,(pf w d)[i]?=some T->J.tA[6+24* j+i]?=some T
section
variable{P:Pr}{J J':G}{st:St}{s:Shared}{w:Ow}{d:SD}{V:Nat->Option Int}{N:List Note}{more:List Int}{vs:List Value}{j:Nat}
theorem dk.mono(l:J.Le J')(h:dk J w j d V N):dk J' w j d V N:=⟨h.ok,h.lN,h.z,λk i e=>aN l.iI (h.iI k i e),l.sS▸h.s0,l.sS▸h.s1,l.sS▸h.sS,l.oO▸h.oV,l.oO▸h.oS,l.oO▸h.oX,l.oO▸h.oW,l.pP▸h.n0,l.pP▸h.nn,l.pP▸h.nx,aN l.tA h.k0,aN l.tA h.k1,λk i e=>aN l.tA (h.tA k i e)⟩
theorem w7(hf:J.fz=J'.fz){r:Nat}{e e':AI}(h:e.ev J=e'.ev J'):aV J (jq r e) J' (jq r e'):=by
 unfold jq;cases ag r 0 with
 |true=>exact iH hf (aC (cm _) (aC (rM h) bu))
 |false=>
  cases ag r 1 with
  |true=>exact iH hf (aC (cm _) (aC (rM h) bu))
  |false=>exact iH hf (aC (cm _) (aC (cm _) bu))
theorem w8(hf:J.fz=J'.fz){r:Nat}{e e':AI}(h:e.ev J=e'.ev J'):aV J (ly r e) J' (ly r e'):=by
 unfold ly;cases ag r 0 with
 |true=>exact lO hf h
 |false=>
  cases ag r 1 with
  |true=>exact mW hf (aC (dW hf rfl) (aC (lO hf h) bu)) (aC bO (aC bO bu))
  |false=>exact dW hf rfl
theorem ED(hf:J.fz=J'.fz)(D:fG){x y:AV}(h:aV J x J' y):aV J (iz D x) J' (iz D y):=
 have i:=pk (J:=J) (J':=J') hf (ix:=D.ix) (e:=.lit D.n) (e':=.lit D.n) rfl
 mW hf (aC (dW (J:=J) (J':=J') hf rfl) (aC h i.1)) (aC bO (aC bO i.2))
theorem aco(hf:J.fz=J'.fz):aV J (kV d) J' (kV d):=by
 unfold kV;cases bh 0 d.L with
 |true=>exact ED hf _ (qU hf 0)
 |false=>exact dW hf rfl
theorem C8:∀T∈m9 d,Free false T:=by have c:∀{T:AV} {l:List AV},(∀J J':G,J.fz=J'.fz->aV J T J' T)->(∀T∈l,Free false T)->∀T'∈T::l,Free false T':=λa b=>cT.mpr ⟨mB a,b⟩;exact c (λJ J' hf=>cm _) (c (λJ J' hf=>cm _) (c (λJ J' hf=>ge hf (oM λe _=>iH hf (aC (cm _) (aC (oZ (J:=J) (J':=J') hf rfl) bu)))) (c (λJ J' hf=>w7 (J:=J) (J':=J') hf rfl) (c (λJ J' hf=>aco hf) (c (λJ J' hf=>w8 (J:=J) (J':=J') hf rfl) (λ_ h=>nomatch h))))))
theorem QD(ok:cw w d)(h:N.length<=6000000):(d.notes w V N).length<=8000000:=by
 have l:∀n,n<=5->(d.Nn w V N n).length<=8000000:=λn q=>aI (ry ok n) (aI (sX h q) (by decide));unfold SD.notes;cases c:d.way w V with
 |ok=>exact l _ (pL ok.L)
 |lj=>exact aI h (by decide)
 |fC=>exact l 0 (by decide)
 |step p=>exact l (p+1) (uC ok c)
theorem Rj:∀T∈pf w d,Free false T:=λT h=>(dZ.mp h).elim (λh=>wA T (.tail _ (.tail _ h))) (C8 T)
theorem Ep(ev:Bool):(bN ev w d).drop 2=pf w d:=by cases ev<;>rfl
section
variable(H:dk J w j d V N){ts:List AV}
include H
theorem adm{iw:List AI}(hi:∀k e,nth iw k=some e->∃i,more[k]?=some i/\e.ev J=some i)(k:Nat)(e:AI)(h:nth (app (mp .var (upTo 10 (10* j))) iw) k=some e):∃i,(br w d V N more vs ts).iI[k]?=some i/\e.ev J=some i:=by
 obtain z | ⟨m,e1,z⟩:=lm h
 ·refine au (eP z) λh1 aq=>?_
  have aa:=aq;clear h z aq;subst aa;refine aQ (fo (l:=kl w d V) (iZ h1 gc.symm)) λi hi=>?_;exact ⟨i,bW hi,H.iI k i hi⟩
 ·refine am (hi m e z) λi h1 h2=>?_
  have e2:k=10+m:=e1;exact ⟨i,e2▸cO 10 gc h1,h2⟩
theorem adp(k:Nat)(e:SW)(h:nth (app (mp (λk=>.var [] k []) (upTo 2 0)) (mp (λk=>.var [] k []) (upTo 9 (2+9* j)))) k=some e):∃i,(br w d V N more vs ts).sS[k]?=some i/\e.ev J=some i:=by
 obtain ⟨h1,rfl⟩ | ⟨m,e1,z⟩:=qZ h
 ·match k,h1 with
  |0,_=>exact ⟨_,rfl,eB H.s0⟩
  |1,_=>exact ⟨_,rfl,eB H.s1⟩
 ·refine au (eP z) λh1 aq=>?_
  have aa:=aq;clear h z aq;subst aa;refine aQ (fo (l:=so w d V) h1) λx hx=>?_;exact ⟨x,e1▸cO 2 rfl hx,eB (H.sS m x hx)⟩
theorem adn(k:Nat)(e:OW)(h:nth (Mi j) k=some e):∃i,(br w d V N more vs ts).oO[k]?=some i/\e.ev J=some i:=by
 obtain h | ⟨m,e1,u⟩:=lm h
 ·cases c:ag j 0 with
  |true=>rw [c] at h;have aa:=aH c;clear c;subst aa;refine fP (H.z rfl) λz2 z3 _=>?_;have q:∀k,k< 4->(br w d V N more vs ts).oO[k]?=some (V k):=λk hk=>bW (dE hk);exact aR (P:=λk e=>∃i,(br w d V N more vs ts).oO[k]?=some i/\e.ev J=some i) (aO ⟨_,q 0 (by decide),H.oV 0 (by decide)⟩ (aO ⟨_,q 1 (by decide),H.oV 1 (by decide)⟩ (aO ⟨_,q 2 (by decide),congrArg some z2.symm⟩ (aO ⟨_,q 3 (by decide),congrArg some z3.symm⟩ aS)))) k e h
  |false=>rw [c] at h;refine au (eP (f:=OW.cp) (m:=4) (b:=4* j) h) λh1 aq=>?_;have aa:=aq;clear aq;subst aa;exact ⟨_,bW (dE h1),H.oV k h1⟩
 ·have l4:(bf (ag j 0) [OW.cp 0,.cp 1,.no,.no] (cps 4 (4* j))).length=4:=by cases ag j 0<;>rfl
  rw [l4] at e1;subst e1;obtain z | ⟨n,e2,z⟩:=lm u
  ·refine au (eP (f:=OW.cp) (m:=5) (b:=20+5* j) z) λh1 aq=>?_
   have aa:=aq;clear u z aq;subst aa;exact ⟨_,cO 4 gw (bW (dE h1)),H.oS m h1⟩
  ·refine au (eP (f:=OW.cp) (m:=4) (b:=4* j+4) z) λh1 aq=>?_
   have aa:=aq;clear u z aq;subst aa;have e3:m=5+n:=e2;exact ⟨_,e3▸cO 4 gw (cO 5 gw (dE h1)),H.oX n h1⟩
theorem ado{J':G}(e':J'.pP=N::((upTo 6 0).map (d.Nn w V N)++ [d.notes w V N]))(k:Nat)(q:Option Nat×List NW)(h:nth (Mj j) k=some q):jk J J' k q:=by
 have l:∀n,n<=5->(d.Nn w V N n).length<=8000000:=λn h=>aI (ry H.ok n) (aI (sX H.lN h) (by decide));have lN:N.length<=8000000:=aI H.lN (by decide);cases k with
 |zero=>
  obtain rfl:=af h;refine qY ⟨N,[],?_,rfl,i8 N⟩ (e'▸rfl) lN;show lC J (bf (ag j 0) none (some j)) N;cases c:ag j 0 with
  |true=>exact (H.z (aH c)).2.2
  |false=>exact H.n0
 |succ k=>
  obtain z | ⟨m,e1,z⟩:=lm (show nth (app (mp (λk=>(some k,([]:List NW))) (upTo 6 (5+6* j))) [(some (j+1),[])]) k=some q from h)
  ·refine au (eP z) λh1 aq=>?_
   have aa:=aq;clear z aq;subst aa;exact gj (H.nn k h1) (e'▸(bW (dE h1):((upTo 6 0).map (d.Nn w V N)++ [d.notes w V N])[k]?=_)) (l k (aen h1))
  ·have e2:k=6+m:=e1
   cases m with
   |succ m=>exact aD z
   |zero=>have aa:=af z;clear z;subst aa;clear e1;subst e2;exact gj H.nx (e'▸rfl) (QD H.ok H.lN)
theorem adq{ev:Bool}{J':G}(e':J'.tA=bN ev w d)(h7:ev=true->∃a,J.aA[7]?=some a/\J'.aA[7]?=some a)(k:Nat)(t:TW)(h:nth (Mq ev j) k=some t):lu J J' k t:=by
 obtain h | ⟨m,e1,h⟩:=lm h
 ·cases ev with
  |true=>exact aR (P:=λk t=>lu J J' k t) (l:=[.at 4,.at 5]) (aO ⟨_,true,e'▸rfl,qO H.ok,h7,H.k0⟩ (aO ⟨_,true,e'▸rfl,qP H.ok,h7,H.k1⟩ aS)) k t h
  |false=>exact aR (P:=λk t=>lu J J' k t) (l:=[.at (6+24* j),.at (6+24* j)]) (aO ⟨_,false,e'▸rfl,gS 0,λq=>aE q,H.tA 0 _ rfl⟩ (aO ⟨_,false,e'▸rfl,gS 0,λq=>aE q,H.tA 0 _ rfl⟩ aS)) k t h
 ·refine au (eP h) λh1 aq=>?_
  have aa:=aq;clear h aq;subst aa;have l2:(bf ev [TW.at 4,.at 5] [.at (6+24* j),.at (6+24* j)]).length=2:=by cases ev<;>rfl
  rw [l2] at e1;refine aQ (fo (l:=pf w d) h1) λT hT=>?_;have q:(bN ev w d)[2+m]?=some T:=by rw [<-Ep ev,MQ] at hT;exact hT
  exact ⟨T,false,e'▸e1▸q,Rj T (bx hT),λq=>aE q,H.tA m T hT⟩
end
theorem yE(H:dk J w j d V N){ob:List Nat}{iw:List AI}{vw:List AV}{ev:Bool}(hi:∀k e,nth iw k=some e->∃i,more[k]?=some i/\e.ev J=some i)(hv:∀k a,nth vw k=some a->∃v,vs[k]?=some v/\handedIn v=true/\dF J v a)
  (h7:ev=true->∃a,J.aA[7]?=some a/\(J.sub ob (br w d V N more vs (bN ev w d))).aA[7]?=some a):CorrD J (nY ob iw vw ev j) (J.sub ob (br w d V N more vs (bN ev w d))) where
 iw:=adm (vs:=vs) (ts:=bN ev w d) H hi
 sw:=adp (more:=more) (vs:=vs) (ts:=bN ev w d) H
 vw:=hv
 ow:=adn (more:=more) (vs:=vs) (ts:=bN ev w d) H
 pw:=ado H rfl
 tw:=adq H rfl h7
 fz:=rfl
 wd:=rfl
end
noncomputable def vM:SD:=⟨false,0,0,λ_=>⟨103,0,0⟩,0,0⟩
section
variable(w:Ow)(dd:Nat->SD)(V0:Nat->Option Int)
noncomputable def stage(j:Nat):(Nat->Option Int)×List Note:=cC (V0,[]) (λj q=>((dd j).next w q.1,(dd j).notes w q.1 q.2)) j
noncomputable def ia(j:Nat):Nat->Option Int:=(stage w dd V0 j).1
noncomputable def pZ(j:Nat):List Note:=(stage w dd V0 j).2
noncomputable def cat{Y:Type}(f:Nat->List Y)(n b:Nat):List Y:=cC (λ_=>[]) (λ_ g j=>f j++g (j+1)) n b
noncomputable def sE:Dt:=⟨cat (λj=>kl w (dd j) (ia w dd V0 j)) 4 0,ew 102 .none,[w.o1,w.o2]++cat (λj=>so w (dd j) (ia w dd V0 j)) 4 0,cat (λi=>(upTo 4 0).map (ia w dd V0 i)) 5 0++(cat (λj=>(upTo 5 0).map ((dd j).fY w (ia w dd V0 j))) 4 0++(upTo 4 0).map λj=>(dd j).val w (ia w dd V0 j)),(upTo 5 0).map (pZ w dd V0)++cat (λj=>(upTo 6 0).map ((dd j).Nn w (ia w dd V0 j) (pZ w dd V0 j))) 4 0,(upTo 4 0).map (λj=>eE (dd j))++([cK w.o1,cS w.o2]++cat (λj=>pf w (dd j)) 4 0)⟩
noncomputable def fT(J:G):Prop:=∀j,j<=3->dk J w j (dd j) (ia w dd V0 j) (pZ w dd V0 j)
end
section
variable{J J':G}{w:Ow}{dd:Nat->SD}{V0:Nat->Option Int}
theorem fT.mono(l:J.Le J')(h:fT w dd V0 J):fT w dd V0 J':=λj hj=>(h j hj).mono l
theorem mX{Y:Type}{f:Nat->List Y}{m:Nat}(hl:∀j,(f j).length=m)(n:Nat):∀{b j k:Nat} {a:Y},j< n->(f (b+j))[k]?=some a->(cat f n b)[m* j+k]?=some a:=by
 induction n with
 |zero=>exact λh=>absurd h (oj _)
 |succ n ih=>
  intro b j k a h e;cases j with
  |zero=>exact (bJ k).symm▸bW e
  |succ j=>have q:=cO m (hl b) (ih (b:=b+1) (tj h) (dx b j 1▸e));rw [<-ie,ja m] at q;exact q
theorem xn{Y:Type}{f:Nat->List Y}{m:Nat}(hl:∀j,(f j).length=m)(n:Nat):∀{b:Nat},(cat f n b).length=m* n:=by
 induction n with
 |zero=>exact rfl
 |succ n ih=>exact λ {b}=>cJ.trans ((congrArg (· +(cat f n (b+1)).length) (hl b)).trans ((ja m _).trans (congrArg (· +m) ih)))
theorem QX(ok:∀j,cw w (dd j))(j:Nat):(pZ w dd V0 j).length<=11* j:=by
 induction j with
 |zero=>exact cG 0
 |succ j ih=>
  show ((dd j).notes w (ia w dd V0 j) (pZ w dd V0 j)).length<=11* j+11;have l:∀n,n<=5->((dd j).Nn w (ia w dd V0 j) (pZ w dd V0 j) n).length<=11* j+11:=λn h=>aI (ry (ok j) n) (sX ih h);unfold SD.notes;cases c:(dd j).way w (ia w dd V0 j) with
  |ok=>exact l _ (pL (ok j).L)
  |lj=>exact aI ih (fh _ _)
  |fC=>exact l 0 (by decide)
  |step p=>exact l (p+1) (uC (ok j) c)
theorem Uf(H:Pre (sE w dd V0) J)(ok:∀j,cw w (dd j))(z:V0 2=none/\V0 3=none):fT w dd V0 J:=λj hj=>
 have j4:j< 4:=fg hj;have B6:∀{Y:Type} {f:Nat->Nat->Y} {n:Nat} (j:Nat),((upTo n 0).map (f j)).length=n:=λj=>gw;have LD:(cat (λi=>(upTo 4 0).map (ia w dd V0 i)) 5 0).length=20:=xn (m:=4) B6 5;have d20:(cat (λj=>(upTo 5 0).map ((dd j).fY w (ia w dd V0 j))) 4 0).length=20:=xn (m:=5) (λj=>gw) 4;have at0:∀{Y:Type} {f:Nat->Y} {k:Nat} {x:Y},f j=x->f (0+j)=x:=λh=>(bJ j).symm▸h
 {ok:=ok j
  lN:=aI (QX ok j) (aI (n9 11 hj) (by decide))
  z:=λe=>e▸⟨z.1,z.2,rfl⟩
  iI:=λk i e=>aN H.iI (mX (λj=>gc) 4 j4 ((bJ j).symm▸e))
  s0:=H.sS▸rfl
  s1:=H.sS▸rfl
  sS:=λk x e=>H.sS▸ie 2 (9* j) k▸cO 2 rfl (mX (m:=9) (λj=>rfl) 4 j4 ((bJ j).symm▸e))
  oV:=λk hk=>H.oO▸bW (mX (m:=4) B6 5 (qh j4) ((bJ j).symm▸dE hk))
  oS:=λp hp=>H.oO▸ie 20 (5* j) p▸cO 20 LD (bW (mX (m:=5) (λj=>gw) 4 j4 ((bJ j).symm▸dE hp)))
  oX:=λk hk=>H.oO▸bW (mX (m:=4) (j:=j+1) (b:=0) B6 5 (tC j4) ((bJ (j+1)).symm▸dE hk))
  oW:=H.oO▸ie 20 20 j▸cO 20 LD (cO 20 d20 (dE j4))
  n0:=H.pP▸bW (dE (qh j4))
  nn:=λp hp=>H.pP▸ie 5 (6* j) p▸cO 5 gw (mX (m:=6) (λj=>gw) 4 j4 ((bJ j).symm▸dE hp))
  nx:=H.pP▸bW (dE (tC j4))
  k0:=aN H.tA rfl
  k1:=aN H.tA rfl
  tA:=λi T e=>aN H.tA (by
   refine ae ((ie 6 _ i).trans (ie 4 2 (24* j+i))) ?_
   exact cO 4 gw (cO 2 rfl (mX (m:=24) (λj=>rfl) 4 j4 ((bJ j).symm▸e))))}
end
theorem Di{env:Env}:∀(l l':List Stmt),execs (l++l') env=(execs l env>>= λf=>match f with | .next=>execs l' env |f=>pure f)
 | [],l'=>by rw [Cm,execs_nil,pure_bind]
 |c::r,l'=>by
  rw [wo,execs_cons,execs_cons,bind_assoc]
  congr 1
  funext f
  cases f with
  |next=>exact Di r l'
  |_=>rw [pure_bind]
theorem G8{M:Model}{A:Around}{env:Env}{l l':List Stmt}{Q:Flow->Shared->Prop}{E:Value->Shared->Prop}{s:Shared}(h:wpAny M A (execs l env) (λf s=>f= .next/\wpAny M A (execs l' env) Q E s) E s):wpAny M A (execs (l++l') env) Q E s:=by rw [Di];exact az (da h (λf s' ⟨e,h⟩=>by subst e;exact h) λ_ _ h=>h)
theorem xe{Y:Type}(f:Y->X):∀(n:Nat) (l:List Y),qd n (aK f l)=aK f (l.take n)
 |0,l=>rfl
 |n+1,[]=>rfl
 |n+1,a::r=>by show X.cons (f a) (qd n (aK f r))=X.cons (f a) (aK f (r.take n));exact ae (xe f n r) rfl
theorem xd{Y:Type}(f:Y->X):∀(n:Nat) (l:List Y),qc n (aK f l)=aK f (l.drop n)
 |0,l=>rfl
 |n+1,[]=>by
  have:∀n,qc n X.nil=X.nil:=λn=>by induction n with |zero=>rfl |succ n ih=>rfl
  exact this (n+1)
 |n+1,a::r=>xd f n r
noncomputable def Pr.with(P:Pr)(a₀:List Addr)(gh:G->Prop)(gm:∀{a b:G},a.Le b->gh a->gh b):Pr:=⟨P.W,P.h₀,P.f₀,P.outer,P.os,a₀,gh,gm⟩
section
variable{P:Pr}{J J':G}{st bD:St}{s:Shared}{sel:List Nat}{gh:G->Prop}{gm:∀{a b:G},a.Le b->gh a->gh b}
theorem Rel.cut(R:Rel P J st s)(hx:st.x=none)(I:eh s J st J' bD sel)(hnf:∀a∈J'.nf,a∈J.nf)(ha:∀a∈P.a₀,a∈J'.aA)(hn:∀a∈J'.nf,∃j i p,sel[j]?=some i/\J.aA[i]?=some a/\bD.get j=some p/\eg p)(hg:gh J'):Rel (P.with P.a₀ gh gm) J' bD s:=by
 have sub:∀a∈J'.aA,a∈J.aA:=λa h=>by obtain ⟨j,i, -,h⟩:=I.of R h;exact bx h
 have old:∀a∈J.aA,a ∉ J'.aA->P.h₀.objs.size<=a:=λa h1 h2=>(R.an a h1).resolve_left λq=>h2 (ha a q);refine {wf:=I.Wo,eX:=I.Wb,room:=by refine ae I.n ?_;exact I.room,bR:=by exact ae I.len (ae I.n rfl),cY:=I.lI,lenV:=I.lV,eU:=I.lT,old:=R.old,x3:=?_,range:=λa h=>R.range a (sub a h),nodup:=I.nodup R,objs:=λj ao hj hg=>?_,apart:=λj ao a hj hg h=>?_,fz:=λa o h=>R.fz a o (by refine bH I.fz ?_;exact h),eZ:=λa o h=>by refine ae I.fz ?_;exact R.eZ a o h,dh:=λa o h=>?_,frame:=λb o h1 h2 h3 h4=>?_,size:=R.size,big:=R.big,ff:=λenv he=>?_,exc:=λi h=>(by rw [I.x] at h;cases h),fly:=λi C d h=>(by rw [I.x] at h;cases h),wd:=I.wd.trans R.wd,ej:=I.lS,nf:=λa h=>?_,gh:=hg,an:=λa h=>R.an a (sub a h),gens:=R.gens,os_:=R.os_,bnd:=I.bnd,sub:=λp h=>(by rw [I.sub] at h;cases h),aU:=λp h=>(by rw [I.aU] at h;cases h)}
 ·refine am R.x3 λvs h1 h2=>?_
  refine ⟨vs,h1,?_⟩;unfold nC at h2 ⊢;refine ae I.fz ?_;exact h2
 ·rw [I.n] at hj
  have hs:=k6 hj;refine am (I.get R hs) λa h1 h2=>?_;refine kj (I.at_ j _ hs) λh3 nM h4 h5=>?_;refine bp (R.objs _ nM h3 h4) λa' o h6 h7 h8=>?_;cases h1.symm.trans h6;exact ⟨a,o,h2,h7,h5 ao hg a o h1 h7 h8⟩
 ·refine am (I.pos R h) λi h1 h2=>?_
  refine kj (I.at_ j i h1) λh3 nM h4 _=>?_;refine ae I.fz ?_;exact R.apart i nM a h3 h4 h2
 ·rw [I.fz] at h
  rcases R.dh a o h with q |q |q
  ·exact .inl q
  ·by_cases c:a∈J'.aA
   ·exact .inr (.inl c)
   ·exact .inr (.inr (old a q c))
  ·exact .inr (.inr q)
 ·have hb:b ∉ J.aA:=λq=>absurd (cU h1) (cV.mpr (old b q h2))
  refine au (R.frame b o h1 hb h3 h4) λq1 q2=>?_;exact ⟨λ_=>q1 (.inl hx),q2⟩
 ·refine gb (R.ff env he) λh1 L o h2 h3 h4 h5 h6 h7=>?_
  exact ⟨h1,L,o,h2,h3,h4,h5,λq=>h6 (sub L q),by refine ae I.fz ?_;exact h7⟩
 ·refine jw (R.nf a (hnf a h)) λq1 q2 q3 q4=>?_
  refine qG (hn a h) λj i p g1 g2 g3 g4=>?_;refine am (I.get R g1) λb h1 h2=>?_;cases g2.symm.trans h1;refine ⟨q1,by refine ae I.fz ?_;exact q2,bx h2,λj' ao hj' hg hb=>?_⟩;have hj:j'=j:=Ck (mn.mp hb).1 (I.nodup R) |>.mp (hb.trans h2.symm)
  subst hj;cases g3.symm.trans hg;exact g4
noncomputable def St.bare(st:St):St:=⟨.nil,st.n,st.ni,st.nv,.nil,[],[],none⟩
theorem Rel.act(R:Rel P J st s){P0:Pr}{J0:G}{st0:St}{s0:Shared}(R0:Rel P0 J0 st0 s0)(hP:P=P0.with P0.a₀ gh gm)(hx:P0.outer= [])(hf:∀a o,J0.fz a=some o->J.fz a=some o)(hnf:∀a∈J0.nf,a∈J.nf)(hA:∀a∈J0.aA,a∈J.aA)(ha:∀a∈P0.a₀,a∈J0.aA):Rel P0 {J0 with fz:=J.fz} st0.bare s/\J0.Le {J0 with fz:=J.fz}:=by
 subst hP;have le:J0.Le {J0 with fz:=J.fz}:=⟨bT _,bT _,bT _,rfl,rfl,rfl,bT _,hf,rfl,λ_ h=>h⟩;refine ⟨{wf:=.nil _,eX:=.nil _,room:=R0.room,bR:=R0.bR,cY:=R0.cY,lenV:=R0.lenV,eU:=R0.eU,old:=R.old,x3:=?_,range:=λa h=>R.range a (hA a h),nodup:=R0.nodup,objs:=λj ao hj hg=>(nomatch hg),apart:=λj ao a hj hg=>(nomatch hg),fz:=R.fz,eZ:=R.eZ,dh:=λa o h=>?_,frame:=λb o h1 h2 h3 h4=>?_,size:=R.size,big:=R.big,ff:=λenv he=>?_,exc:=λi h=>(nomatch h),fly:=λi C d h=>(nomatch h),wd:=R0.wd,ej:=R0.ej,nf:=λa h=>?_,gh:=P0.gm le R0.gh,an:=R0.an,gens:=R.gens,os_:=R.os_,bnd:=λk lo hi hk h=>(nomatch h),sub:=λp h=>(nomatch h),aU:=λp h=>(nomatch h)},le⟩
 ·refine am R.x3 λvs h1 h2=>?_
  exact ⟨vs,h1,h2⟩
 ·rcases R.dh a o h with q |q |q
  ·exact .inl q
  ·rcases R.an a q with q |q
   ·exact .inr (.inl (ha a q))
   ·exact .inr (.inr q)
  ·exact .inr (.inr q)
 ·have hb:b ∉ J.aA:=λq=>by
   rcases R.an b q with q |q
   ·exact h2 (ha b q)
   ·exact absurd (cU h1) (cV.mpr q)
  refine au (R.frame b o h1 hb h3 h4) λq1 q2=>?_;exact ⟨λ_=>q1 (.inr λenv he=>by have he:env∈P0.outer:=he;rw [hx] at he;cases he),q2⟩
 ·refine gb (R.ff env he) λh1 L o h2 h3 h4 h5 h6 h7=>?_
  refine gb (R0.ff env he) λ_ L' o' g2 _ _ _ g6 _=>?_;cases h2.symm.trans g2;exact ⟨h1,L,o,h2,h3,h4,h5,g6,h7⟩
 ·refine jw (R.nf a (hnf a h)) λq1 q2 _ _=>?_
  exact ⟨q1,q2,(R0.nf a h).2.2.1,λi ao hi hg=>(nomatch hg)⟩
end
noncomputable def v6(n:Nat):St:=⟨.nil,0,n,0,.nil,[],[],none⟩
noncomputable def sj(n:Nat)(a:AV):St:=((((((v6 n).push (.dict 100000 true [])).push (.cell none)).push (.cell none)).push (.cell none)).set 0 (.dict 99999 true [(Ec,.val a)]))
theorem XC(sf:Self)(n:Nat)(a:AV)(k:Kont):oe false (λx=>oJ sf ⟨0,4,[],false⟩ 1073 (.glob 1073) [] x [a] (v6 n) k) (b6.get 1073)=sf (.sts mc ki) (sj n a) (leave k):=by kernel_rfl
noncomputable def zH(n:Nat):List AI:=kU (app (Al n) [.lit 0]) 40
noncomputable def T5(st:St)(i:Nat):Option Nat:=ob (ob (st.get i) mU) λc=>ob c refOf
noncomputable def B4(p l n:Nat):Th:=⟨[0,1,2,3,p,l],[],[],[],[],[(none,mp .int (zH n))],[]⟩
noncomputable def kS1(n:Nat)(st:St)(p l:Nat):Bool:=(gq [0,1,2,3,p,l]&&bF [0,1,2,3,p,l] (l9 st))&&pD (B4 p l n) st [0,1,2,3,p,l] zW
noncomputable def BJ(n:Nat):Kont:=rc bB bB bB (λst=>ji st.x&&aj (T5 st 1) λp=>aj (rE st p) λt=>kS1 n st p t.2.2) cP cP bB bB
noncomputable def ad2(n:Nat):Bool:=run true kp 400 (.sts mc (qd 1 ki)) (sj n (.bw (jx n 0))) (BJ n)
theorem ace:((d6 64).all ad2)=true:=by kernel_rfl
section
variable{P:Pr}{J J':G}{st:St}{s:Shared}{w:Ow}{d:SD}{V:Nat->Option Int}{N:List Note}{more:List Int}{vs:List Value}{ts:List AV}{j:Nat}{Z:Th}
theorem aV.trans{J'':G}{p q r:AV}(h:aV J p J' q)(h':aV J' q J'' r):aV J p J'' r:=aV.casesOn h λa1 a2=>aV.casesOn h' λb1 b2=>⟨a1.trans b1,λv=>(a2 v).trans (b2 v)⟩
theorem jr(H:dk J w j d V N)(hj:j<=3){o:Nat}(ho:o< 6){T x:AV}(hT:(m9 d)[o]?=some T)(hx:isAny x=false)(h:aV J T J' x):aV J (slot j o) J' x:=by
 have e:J.tA[24+24* j+o]?=some T:=by have q:=H.tA (18+o) T (cO 18 rfl hT);exact (ie (6+24* j) 18 o).symm.trans (congrArg (· +o) (dx 6 (24* j) 18))▸q
 exact eQ (O:=0) e (bz (Nat.add_lt_add_of_le_of_lt (Nat.add_le_add_left (n9 24 hj) 24) ho) (by decide)) rfl hx λv=>hW h v
theorem TC{ev:Bool}{o:Nat}{T:AV}(h:(m9 d)[o]?=some T):(bN ev w d)[20+o]?=some T:=cO 20 (by cases ev<;>rfl) h
theorem TB:∀T∈bN false w d,Free false T:=λT h=>(dZ.mp h).elim (wA T) (C8 T)
theorem UL{J4:G}(H:Pre (br w d V N [] vs (bN false w d)) J4):CorrD J4 B2 (J4.sub [] ((br w d V N [] vs (bN false w d)).grow [] [])) where
 iw:=λk e h=>by refine au (eP (f:=AI.var) (m:=10) (b:=0) h) λh1 aq=>?_;have aa:=aq;clear h aq;subst aa;refine cx (l:=kl w d V) (iZ h1 gc.symm) λi hi=>?_;exact ⟨i,bW (bW hi),by show J4.iI[0+k]?=_;rw [bJ];exact aN H.iI (bW hi)⟩
 sw:=λk e h=>by refine au (eP (f:=λk=>SW.var [] k []) (m:=11) (b:=0) h) λh1 aq=>?_;have aa:=aq;clear h aq;subst aa;refine cx (l:=(br w d V N [] vs (bN false w d)).sS) h1 λx hx=>?_;exact ⟨x,hx,eB (by rw [bJ];exact H.sS▸hx)⟩
 vw:=aR aS
 ow:=aR aS
 pw:=aR aS
 tw:=λj t h=>bJ j▸Fy (n:=26) (b:=0) TB H.tA (cG 26) j t h
 fz:=rfl
 wd:=rfl
theorem SP(J:G)(ls:List Nat)(D:Dt)(nI:List Int)(nT:List AV):Pre D (J.sub ls (D.grow nI nT)):=⟨⟨nI,rfl⟩,bT _,rfl,rfl,rfl,⟨nT,rfl⟩⟩
theorem Gh{e:Nat}(h:e< 3):ixs (d.D 0).ix (d.D 1).ix (d.D 2).ix e=(d.D e).ix:=by
 match e,h with
 |0,_=>rfl
 |1,_=>rfl
 |2,_=>rfl
structure rZ(J:G)(d:SD):Prop where
 g:∀e,e< 3->J.sS[2+e]?=some [(d.D e).g]
 n:∀e,e< 3->J.iI[6+e]?=some (d.D e).n
theorem Pre.elts(H:Pre (br w d V N more vs ts) J):rZ J d:=⟨λe h=>H.g h,λe h=>H.i6 e (by
 match e,h with
 |0,_=>rfl
 |1,_=>rfl
 |2,_=>rfl)⟩
theorem Xf(hf:J.fz=J'.fz)(E:rZ J' d){e:Nat}(he:e< 3):aV J (pB (d.D e)) J' (Ay (ixs (d.D 0).ix (d.D 1).ix (d.D 2).ix) e):=by unfold Ay;refine ae (Gh he) ?_;exact iH hf (aC (pu (eB (E.g e he)).symm) (aC (oZ hf (E.n e he).symm) bu))
theorem FL(hf:J.fz=J'.fz)(E:rZ J' d){e:Nat}(he:e< 3){x y:AV}(h:aV J x J' y):aV J (iz (d.D e) x) J' (iA (cv (.var [] (2+e) [])::y::eD (ixs (d.D 0).ix (d.D 1).ix (d.D 2).ix e) (.var (6+e)))):=by refine ae (Gh he) ?_;have i:=pk hf (ix:=(d.D e).ix) (e:=.lit (d.D e).n) (e':=.var (6+e)) (E.n e he).symm;exact mW hf (aC (dW hf (eB (E.g e he)).symm) (aC h i.1)) (aC bO (aC bO i.2))
theorem acp(hf:J.fz=J'.fz)(E:rZ J' d)(hL:d.L<=3)(n:Nat):∀e,aV J (mf d n e) J' (B1 d.v d.L (ixs (d.D 0).ix (d.D 1).ix (d.D 2).ix) n (e+1)):=by
 induction n with
 |zero=>exact λe=>dW (J:=J) (J':=J') hf rfl
 |succ n ih=>
  intro e;show aV J (bf (bh (e+1) d.L) (iz (d.D (e+1)) (mf d n (e+1))) (cv (.lit [120+d.v]))) J' (bf (bh (e+1) d.L) _ (cv (.lit [120+d.v])));cases c:bh (e+1) d.L with
  |false=>exact dW (J:=J) (J':=J') hf rfl
  |true=>exact FL hf E (bz (d7.mp c) hL) (ih (e+1))
theorem ad9(hf:J.fz=J'.fz)(E:rZ J' d)(hL:d.L<=3):aV J (kV d) J' (B1 d.v d.L (ixs (d.D 0).ix (d.D 1).ix (d.D 2).ix) 3 0):=by
 show aV J (bf (bh 0 d.L) (iz (d.D 0) (mf d 2 0)) (cv (.lit [120+d.v]))) J' (bf (bh 0 d.L) _ (cv (.lit [120+d.v])));cases bh 0 d.L with
 |false=>exact dW (J:=J) (J':=J') hf rfl
 |true=>exact FL hf E (by decide) (acp hf E hL 2 0)
theorem We:isAny (kV d)=false:=by unfold kV;cases bh 0 d.L<;>rfl
theorem C5(r:Nat)(e:AI):isAny (jq r e)=false:=by unfold jq;cases ag r 0<;>first |rfl | (cases ag r 1<;>rfl)
theorem C6(r:Nat)(e:AI):isAny (ly r e)=false:=by unfold ly;cases ag r 0<;>first |rfl | (cases ag r 1<;>rfl)
theorem yD(ok:cw w d)(e:Nat):(d.D e).ix∈ [0,1,2]:=(ok.D e).2
theorem Tv(ok:cw w d):ID d.v d.L (d.D 0).ix (d.D 1).ix (d.D 2).ix=true:=by have a:d.v∈ [0,1]:=(ic.mpr (fg ok.v):d.v∈d6 2);have b:d.L∈ [0,1,2,3]:=(ic.mpr (fg ok.L):d.L∈d6 4);exact be.mp (be.mp (be.mp (be.mp (be.mp aaH _ a) _ b) _ (yD ok 0)) _ (yD ok 1)) _ (yD ok 2)
theorem Sv(ok:cw w d):H2 d.r=true:=be.mp XS _ (ic.mpr (fg ok.r):d.r∈d6 4)
theorem Gl:(b6.get 1026).isSome=true/\(b6.get 1019).isSome=true:=⟨by kernel_rfl,by kernel_rfl⟩
theorem zM(H:dk J w j d V N)(R:Rel P J st s):∀z∈(br w d V N more vs ts).sS,z.length<=10000:=by refine ti.mpr ⟨cT.mpr ⟨R.ej _ (bx H.s0),eH.mpr (R.ej _ (bx H.s1))⟩,λz hz=>?_⟩;refine aQ (fZ hz) λk hk=>?_;exact R.ej _ (bx (H.sS k z hk))
theorem qF{n:Nat}:∀{l:List Int} {b:Nat},l.length=n->Bd (mp (λ_=>none) (upTo n b)) l:=by
 induction n with
 |zero=>exact λ {l b} h=>Mx.mp h
 |succ n ih=>
  intro l b h;cases l with
  |nil=>exact absurd h (qi n).symm
  |cons i r=>exact ⟨trivial,ih (b:=b+1) (mC.inj h)⟩
theorem DA(hP:∀J,P.gh J->dk J w j d V N){a:List Nat}{o f n:Nat}{as':List AV}{x:AV}{c:Cx}{args:List AV}{k:Kont}(hx:(b6.get f).isSome=true)(hr:run true kp n (.call hJ (.glob f) as') (c6 [] (nones 10) 26) (vk o x)=true)
  (hv:∀{J J':G},J'.fz=J.fz->dk J w j d V N->Pre (br w d V N [] (ew 26 .none) (bN false w d)) J'->j<=3->bS J (mp (slot j) a) J' as') (ho:∀{J:G},Pre (br w d V N [] (ew 26 .none) (bN false w d)) J->aV J x J (uW o)) (h:pb a o j c args st k=some true):bZ P c f args st k:=by
 refine bb h λh1 h=>?_;have hk:=af h;refine aB h1 λh1 h2=>?_;refine aB h1 λhc hj=>?_;refine aB h2 λhin h3=>?_;have aa:=jX h3;clear h h1 h2 h3;subst aa;intro J s A Rr vs' R F hvs post;have H:=hP J R.gh;have C:=yE (more:=[]) (vs:=ew 26 .none) (ob:=[]) (ev:=false) H (aR aS) (aR aS) (λq=>aE q);refine con (c':=hJ) (gh:=λ_=>True) (bs:=nones 10) (nv:=26) (objs':=[]) (kc:=vk o x) (args:=as') (λ_ _=>trivial) R F hc rfl hin C (gc.symm▸rfl) .nil (qF gc) (by decide) rfl rfl (zM H R) trivial (λP' _=>lK hr hx P' (oE P')) (λCo=>(iV (hv (J:=J) (J':=J.sub [] (br w d V N [] (ew 26 .none) (bN false w d))) rfl H (rd _ _ _) (bt hj)) _).1 hvs) post λP' rr st1 J1 s1 _ hq le R1=>?_;have H1:=(rd J [] (br w d V N [] (ew 26 .none) (bN false w d))).le le;exact ⟨J1,st1,.refl _,R1,.mk (uI o) x [] [] [] [] B2 [] hq (λq=>aE q) (λv h=>(hW (ho (SP J1 [] _ [] [])) v).1 h) .nil hk (UL H1) rfl rfl (λ_ h=>nomatch h) (.inl rfl) (λ_ h=>nomatch h)⟩
theorem Pre.num(H:Pre (br w d V N more vs ts) J):J.iI[0]?=some d.num:=H.i (aN (rI (n:=0) (ig 5)) rfl)
theorem Fp{ev:Bool}(H:Pre (br w d V N more vs (bN ev w d)) J){o:Nat}{T:AV}(h:(m9 d)[o]?=some T)(ho:o< 6)(ha:isAny T=false):aV J (uW o) J T:=eQ (O:=0) (H.t (TC h)) (pY ho rfl) rfl ha λv=>Iff.rfl
theorem Tw(hP:∀J,P.gh J->dk J w j d V N){c:Cx}{args:List AV}{k:Kont}(h:pb [1,2] 4 j c args st k=some true):bZ P c 1026 args st k:=by
 intro J s A Rr vs' R F hvs post;have ok:=(hP J R.gh).ok;refine DA hP Gl.1 (Tv ok) (λhf H H' hj=>?_) (λH'=>?_) h J s A Rr vs' R F hvs post
 ·exact aC (jr H hj (by decide) rfl rfl (cm _)) (aC (jr H hj (by decide) rfl rfl (ge hf.symm (oM λe he=>Xf hf.symm H'.elts (bz (uB he) ok.L)))) bu)
 ·exact (ad9 rfl H'.elts ok.L).sym.trans (Fp H' (o:=4) rfl (by decide) We).sym
theorem H3(hf:J.fz=J'.fz)(H:dk J w j d V N)(H':Pre (br w d V N more vs ts) J')(hj:j<=3):aV J (slot j 3) J' (uw d.r):=jr H hj (o:=3) (T:=jq d.r (.lit d.num)) (by decide) rfl (C5 d.r (.var 0)) (w7 (e:=.lit d.num) (e':=.var 0) hf H'.num.symm)
theorem XT(H:Pre (br w d V N more vs (bN false w d)) J):aV J (uv d.r) J (uW 5):=aV.trans (q:=ly d.r (.lit d.num)) (w8 (e:=.var 0) (e':=.lit d.num) rfl H.num) (Fp H (o:=5) rfl (by decide) (C6 d.r _)).sym
theorem Qu(hP:∀J,P.gh J->dk J w j d V N){c:Cx}{args:List AV}{k:Kont}(h:pb [3] 5 j c args st k=some true):bZ P c 1019 args st k:=by intro J s A Rr vs' R F hvs post;exact DA (a:=[3]) (as':=[uw d.r]) (x:=uv d.r) hP Gl.2 (Sv (hP J R.gh).ok) (λhf H H' hj=>aC (H3 hf.symm H H' hj) bu) XT h J s A Rr vs' R F hvs post
end
section
variable{P:Pr}{J J':G}{st st':St}{s:Shared}{Z:Th}
inductive dN(J:G):Prop
 |mk (il:List Int) (h1:J.pP[0]?=some (il.map Note.int)) (h2:1<=il.length) (h3:il.length<=40):dN J
theorem dN.mono(l:J.Le J')(h:dN J):dN J':=by
 cases h with
 |mk il h1 h2 h3=>exact ⟨il,l.pP▸h1,h2,h3⟩
theorem zG(R:Rel P J st s){objs:List AO}(h:fQ Z st objs=true){j i:Nat}{p q:AO}(e:Z.ob[j]?=some i)(e':objs[j]?=some p)(t:kX Z p=some q):∃o,OR J o q:=by
 cases (uk (J:=J) (bq (bq h).2).2).2 j i p e e' with
 |mk ao q' h1 h2 h3 h4 h5=>refine bp (R.objs i ao h1 h2) λa o _ _ y=>?_;exact ⟨o,af (h4.symm.trans t)▸um h5 y⟩
theorem Fj{a b:AI}{l:Nat}{o:Obj}(h:OR J o (iE a b l)):∃x y,a.ev J=some x/\b.ev J=some y:=by refine ba h λvs n _ h=>?_;refine qG (ay.l3 h) λx y z _ h1 h2 _=>?_;refine ba h1.int_inv λi _ _ h1=>?_;refine ba h2.int_inv λj _ _ h2=>?_;exact ⟨i,j,h1,h2⟩
theorem UO{il:List Int}:∀{b:Nat} {us:List Value},ay J ((il.map Note.int).map Note.av) us->(∀(j:Nat) z,il[j]?=some z->J'.iI[b+j]?=some z)->ay J' (jx il.length b) us:=by
 induction il with
 |nil=>exact λh _=>h.n▸ .nil
 |cons z r ih=>intro b us h hp;refine bp h.c λv us' ai h1 h2=>?_;have aa:=ai;clear ai;subst aa;refine ba ((show VR J (.int (.lit z)) v from h1).int_inv) λi t ai h3=>?_;have aa:=ai;clear h1 ai;subst aa;exact .cons (.int t ((hp 0 z rfl).trans h3)) (ih h2 λj z h=>dx b 1 j▸hp (j+1) z h)
theorem SQ{il:List Int}{o:Obj}{b:Nat}(hN:J.pP[0]?=some (il.map Note.int))(hp:∀(j:Nat) z,il[j]?=some z->J.iI[b+j]?=some z)(h:OR J o pre0):OR J o (.list none (jx il.length b)):=by
 refine ba h λvs n e h=>?_;cases h with
 |mk N p q h1 h2 h3 h4 h5=>
  refine ⟨vs,n,e,?_⟩;have e1:vs.toList=p:=by rw [h3,h5.n,i8]
  show ay J (jx il.length b) vs.toList;refine ae e1 ?_;exact UO (af (h1.symm.trans hN)▸h4) hp
theorem QC{il:List Int}:∀{b:Nat},(∀(j:Nat) z,il[j]?=some z->J.iI[b+j]?=some z)->bX (NW.ev J) (mp (λk=>NW.int (.var k)) (upTo il.length b))=some (il.map Note.int):=by
 induction il with
 |nil=>exact λ_=>rfl
 |cons z r ih=>intro b hp;exact bQ (bQ (hp 0 z rfl) rfl) (bQ (ih λj z h=>dx b 1 j▸hp (j+1) z h) rfl)
theorem PP(R:Rel P J st s){hi x y:Int}{k:Nat}{e r:AI}(h:restOf st hi k e=some r)(hx:e.ev J=some x)(hy:J.iI[k]?=some y):y<=x/\x<=y+hi:=by
 refine ah h λl h1 h=>?_;refine bb h λh2 h=>?_;refine ah h λp h3 h=>?_;refine eO h λh4 h=>?_;have q:=(w9 h2).symm.trans hx;refine ah q λa q0 q=>?_;refine ah q λz q q2=>?_;refine au (jc R _ h3 q) λq1 q3=>?_;refine au (jL.mp h4) λh5 h6=>?_;have e1:=af (hy.symm.trans q0);have e2:=af q2;have z1:=lE h5;have z2:=lE h6
 omega
theorem Ga(R:Rel P J st s){w:AI}{lo hi z:Int}(h:inR st w lo hi=true)(hz:w.ev J=some z):lo<=z/\z<=hi:=by refine aF h λp h1 h2=>?_;refine au (jc R _ h1 hz) λq1 q2=>?_;refine au (jL.mp (fJ h2)) λh5 h6=>?_;exact ⟨c8 (lE h5) q1,c8 q2 (lE h6)⟩
theorem acK:(b6.get 998).isSome=true:=by kernel_rfl
theorem Qy(n:Nat):(nones n).length=n:=by unfold nones;rw [dD,dz,dK]
theorem Uh(hP:∀J,P.gh J->dN J){p most l:Nat}{ea eb:AI}{hi:Int}{c:Cx}{args:List AV}{k:Kont}(r1:kC st eb 0=some hi)(h:Kc p most l ea eb hi c args st k=some true):bZ P c 998 args st k:=by
 refine bb h λh1 h=>?_;have hk:=af h;refine aB h1 λh1 h2=>?_;refine aB h1 λhc h3=>?_;refine aB h3 λhm hh=>?_;refine aB h2 λha hin=>?_;have aa:=jX ha;clear h h1 h2 ha;subst aa;intro J s A Rr vs' R F hvs post;cases hP J R.gh with
 |mk il hI l1 l2=>
 refine aQ (zG R hin (j:=0) (q:=iE ea eb l) rfl rfl rfl) λo0 ho=>?_;refine ba (Fj ho) λa b BB sL=>?_;have rb:=oI R sL r1;have hh:=mw ((gU _ _).mp hh);have lN:(il.map Note.int).length<=8000000:=by rw [dz];exact aI l2 (by decide)
 have C:∀r,CorrD J (AZ p l ea eb) (J.sub [p,l] ⟨a::b::r,[],[],[],[il.map Note.int],[]⟩):=λr=>{
  iw:=aR (aO ⟨_,rfl,BB⟩ (aO ⟨_,rfl,sL⟩ aS))
  sw:=aR aS
  vw:=aR aS
  ow:=aR aS
  pw:=aR (aO (gj hI rfl lN) aS)
  tw:=aR aS
  fz:=rfl
  wd:=rfl}
 have run:Hz il.length most=true:=by
  have:=be.mp (be.mp WV (il.length - 1) (ic.mpr (bz (CO l1 (by decide)) l2))) most (xG hm)
  rwa [wk l1] at this
 refine Ka (D1:=⟨a::b::il,[],[],[],[il.map Note.int],[]⟩) (D:=⟨[a,b],[],[],[],[il.map Note.int],[]⟩) (c':=mb) (gh:=λ_=>True) (objs':=Gu il.length) (bs:=I4 il.length) (nv:=0) (kc:=Ma il.length most) (args:=[.ref 0,.int (.lit most)]) (λ_ _=>trivial) R F hc rfl hin (C il) (C []) rfl (.cons (λ_ h=>h) (.cons (λo h=>?_) .nil)) ⟨trivial,⟨rb.1,c8 rb.2.1 hh⟩,qF rfl⟩ ?_ rfl rfl (λ_ h=>nomatch h) trivial (λP' _=>lK run acK P' (oE P')) (λCo=>(iV (aC (iG Co (j:=0) rfl) (aC (rM rfl) bu)) _).1 hvs) post λP' rr st1 J1 s1 _ hq le R1=>?_
 ·exact SQ (J:=J.sub [p,l] ⟨a::b::il,[],[],[],[il.map Note.int],[]⟩) rfl (λj z h=>ja 2 j▸h) h
 ·show (nones il.length).length+2<=2048
  rw [Qy];exact aI (jM l2 2) (by decide)
 ·obtain ⟨⟨LI,eb',l'⟩,g1,hq⟩:=bI hq
  refine aF hq λrest g2 hq=>?_;refine aF hq λw g3 hq=>?_;refine aB hq λhq hf=>?_;refine aB hq λu1 hq=>?_;refine aB hq λu2 hq=>?_;refine aB hq λu3 u4=>?_;refine aQ (js R1.cY LI u2) λza BF=>?_;refine aQ (js R1.cY eb' u3) λzb sP=>?_;refine aQ (js R1.cY w u1) λzw LZ=>?_;have pI:∀{k:Nat} {i:Int},(a::b::il)[k]?=some i->J1.iI[k]?=some i:=aN le.iI;have b1:=PP R1 g2 sP (pI (k:=1) rfl);have b2:=Ga R1 u4 LZ
  have Ce:CorrD J1 (K8 il.length LI eb' w) (J1.sub [0,1] (Dt.grow ⟨[a,b],[],[],[],[il.map Note.int],[]⟩ [za,zb,zw] [])):={
   iw:=aR (aO ⟨_,rfl,pI (k:=0) rfl⟩ (aO ⟨_,rfl,pI (k:=1) rfl⟩ (aO ⟨_,rfl,BF⟩ (aO ⟨_,rfl,sP⟩ (aO ⟨_,rfl,LZ⟩ aS)))))
   sw:=aR aS
   vw:=aR aS
   ow:=aR aS
   pw:=aR (aO ⟨[],il.map Note.int,rfl,QC λj z h=>pI (k:=2+j) (ja 2 j▸h),rfl,lN⟩ aS)
   tw:=aR aS
   fz:=rfl
   wd:=rfl}
  exact ⟨J1,st1,.refl _,R1,.mk (vb (hi+1) (most - 1)) (.int (.var 4)) [iE (.var 2) (.var 3) 1,pre0] [] [za,zb,zw] [] _ [] hf (λq=>aE q) (λ_ h=>h) (fm (λ_ _ h=>h) _) hk Ce ⟨trivial,⟨c8 rb.1 b1.1,c8 b1.2 (Int.add_le_add_right rb.2.1 1)⟩,⟨b2.1,b2.2⟩,rfl⟩ rfl (λ_ h=>nomatch h) (.inl rfl) (λ_ h=>nomatch h)⟩
theorem Dc(hP:∀J,P.gh J->dN J){c:Cx}{args:List AV}{k:Kont}(h:ym c args st k=some true):bZ P c 998 args st k:=by refine ah h λp _ h=>?_;refine ah h λmost _ h=>?_;obtain ⟨⟨ea,eb,l⟩, -,h⟩:=cz h;refine ah h λhi r1 h=>?_;exact Uh hP r1 h
end
section
variable{P:Pr}{J J':G}{st st':St}{s:Shared}{Z:Th}
noncomputable def Tells(J:G)(a T:AV):Prop:=∀v,VR J a v->VR J T v
noncomputable def oQ(J:G)(l l':List AV):Prop:=∀vs,ay J l vs->ay J l' vs
theorem eM{a T:AV}{l l':List AV}(h:Tells J a T)(t:oQ J l l'):oQ J (a::l) (T::l'):=λvs h'=>by refine bp h'.c λv r ai h1 h2=>?_;have aa:=ai;clear h' ai;subst aa;exact .cons (h v h1) (t r h2)
theorem mR:oQ J [] []:=λ_ h=>h
theorem oD{l l':List AV}(h:oQ J l l'):Tells J (.tup l) (.tup l'):=λv hv=>by
 cases hv.out with
 |mk h1 h2 h3 g=>exact .tup h1 h2 h3 (h _ g)
theorem Tt{l l':List AV}(h:oQ J l l'):Tells J (.bw l) (.bw l'):=λv hv=>by
 cases hv.out with
 |mk h1 g=>exact .bw h1 (h _ g)
theorem qL{a:AV}:Tells J a a:=λ_ h=>h
theorem RT(e:AI):∃z:Int,Tells J (.int e) (.int (.lit z)):=⟨(e.ev J).getD 0,λv h=>by
 refine ba h.int_inv λi t ai hi=>?_;have aa:=ai;clear h ai;subst aa
 exact .int t (by refine ae hi ?_;rfl)⟩
theorem xX{O k c0:Nat}{C:List Nat}(h0:c0∈C)(hC:∀T,fS O T=true->rY C T)(h:iC O k=true):∃c,c∈C/\Tells J (.aY k) (.str (.lit [c])):=by
 have e:k=gM O (k % 1000000):=by exact yU (aH h)
 have hj:k % 1000000< 1000000:=CM _ (by decide);refine ae e ?_
 by_cases c:∃v,VR J (.aY (gM O (k % 1000000))) v
 ·refine aQ c λv hv=>?_
  refine bP ((kY hj).1 hv) λT t1 t2 _=>?_;refine am (hC T t2) λc c1 ai=>?_;have aa:=ai;clear t2 ai;subst aa
  exact ⟨c,c1,λv hv=>by
   refine bP ((kY hj).1 hv) λT' t1' _ t3=>?_
   exact af (t1'.symm.trans t1)▸t3⟩
 ·exact ⟨c0,h0,λv hv=>(c ⟨v,hv⟩).elim⟩
theorem E4{v:AV}(h:BG v=true):∃ix z,(ix=1\/ix=2)/\Tells J v (ei ix (.lit z)):=by
 refine aF h λe _ h=>?_;refine aQ (RT (J:=J) e) λz hz=>?_;obtain h |h:=dw.mp h
 ·exact ⟨1,z,.inl rfl,jm _ _ h▸oD (eM qL (eM hz mR))⟩
 ·exact ⟨2,z,.inr rfl,jm _ _ h▸oD (eM qL (eM hz mR))⟩
theorem ac5{T:AV}(h:fS 2 T=true):rY [103,104,107,117] T:=xZ h rfl
theorem KB{T:AV}(h:fS 3 T=true):rY [120,121] T:=xZ h rfl
theorem RE{v:AV}(h:pA v=true):∃D:fG,nU D/\Tells J v (pB D):=by
 refine aF h λk _ h=>?_;refine aF h λx _ h=>?_;refine aB h λh1 h=>?_;refine aB h λh2 h3=>?_;refine am (xX (J:=J) (c0:=103) (C:=[103,104,107,117]) (.head _) (λT=>ac5) h1) λc hc hs=>?_;have aa:=jm _ _ h3;clear h;subst aa;obtain h |h:=dw.mp h2
 ·have aa:=ip h
  clear h2 h;subst aa;exact ⟨⟨c,0,0⟩,⟨hc,.head _⟩,oD (eM hs (eM qL mR))⟩
 ·refine ba (E4 (J:=J) h) λix z hi hz=>?_
  exact ⟨⟨c,ix,z⟩,⟨hc,.tail _ (hi.elim (λe=>e▸ .head _) λe=>e▸ .tail _ (.head _))⟩,oD (eM hs (eM hz mR))⟩
theorem RD:∀{els:List AV},bF els pA=true->∃ds:List fG,ds.length=els.length/\(∀d∈ds,nU d)/\oQ J els (ds.map pB):=by
 intro els
 induction els with
 |nil=>exact λ_=>⟨[],rfl,λ_ h=>(nomatch h),mR⟩
 |cons a r ih=>intro h;refine au (mV (show bf (pA a) (bF r pA) false=true from h)) λh1 h2=>?_;refine am (RE (J:=J) h1) λD hD hs=>?_;refine bP (ih h2) λds g1 g2 g3=>?_;exact ⟨D::ds,congrArg (· +1) g1,cT.mpr ⟨hD,g2⟩,eM hs g3⟩
theorem SV{v:AV}(h:AS v=true):∃r z,r<=3/\Tells J v (jq r (.lit z)):=by
 obtain h |h:=dw.mp h
 ·refine ba (E4 (J:=J) h) λix z hi hz=>?_
  obtain rfl |rfl:=hi
  ·exact ⟨0,z,by decide,hz⟩
  ·exact ⟨1,z,by decide,hz⟩
 ·refine aF h λk _ h=>?_
  refine aB h λh1 h2=>?_;refine am (xX (J:=J) (c0:=120) (C:=[120,121]) (.head _) (λT=>KB) h1) λc hc hs=>?_;have aa:=jm _ _ h2;clear h h2;subst aa;have key:Tells J (.tup [.str (.lit [110,97,109,101]),.aY k]) (.tup [.str (.lit [110,97,109,101]),.str (.lit [c])]):=oD (eM qL (eM hs mR));cases hc with
  |head=>exact ⟨2,0,by decide,key⟩
  |tail _ hc=>rw [fe.mp hc] at key;exact ⟨3,0,by decide,key⟩
theorem XR{Y β:Type}(f:Y->β)(z:Y)(ds:List Y):mp (λe=>f (ds.getD e z)) (upTo ds.length 0)=ds.map f:=by
 rw [dD];refine List.ext_getElem? λk=>?_;rw [ib,ib]
 by_cases c:k< ds.length
 ·rw [dQ _ _ _ c,bJ,k6 c]
  exact congrArg (λx=>some (f x)) (jY (k6 c))
 ·rw [Cd (by rw [dK];exact i5 c),Cd (i5 c)];rfl
theorem Tq{ar rt:AV}{kn ch:Nat}{els:List AV}(h:(dO (lR true) ar||dO (lR false) ar)=true)(h1:iC 3 kn=true)(h2:aM (len els) 3=true)(h3:bF els pA=true)(h4:AS rt=true)(hc:Tells J (.ref ch) (.bw els)):∃d,kS d/\Tells J (.tup [ar,.aY kn,.ref ch,rt]) (eE d):=by
 obtain ⟨up,hu⟩:∃up,ar=lR up:=(dw.mp h).elim (λh=>⟨true,jm _ _ h⟩) λh=>⟨false,jm _ _ h⟩;refine am (xX (J:=J) (c0:=120) (C:=[120,121]) (.head _) (λT=>KB) h1) λc hcc hn=>?_;refine bP (RD (J:=J) h3) λds l1 l2 l3=>?_;refine ba (SV (J:=J) h4) λr z hr hs=>?_;obtain ⟨v,hv,rfl⟩:∃v,v<=1/\120+v=c:=by
  cases hcc with
  |head=>exact ⟨0,by decide,rfl⟩
  |tail _ hc=>exact ⟨1,by decide,(fe.mp hc).symm⟩
 have hl:=bt h2;rw [len_eq, <-l1] at hl;refine ⟨⟨up,v,ds.length,λe=>ds.getD e ⟨103,0,0⟩,r,z⟩,⟨hv,hl,hr,λe=>?_⟩,oD (eM (hu▸qL) (eM hn (eM (λu h=>?_) (eM hs mR))))⟩
 ·show nU (ds.getD e ⟨103,0,0⟩)
  by_cases c:e< ds.length
  ·exact jY (k6 c) (d:=(⟨103,0,0⟩:fG))▸l2 _ (MZ c)
  ·rw [Ca,Cd (i5 c)]
   exact ⟨.head _,.head _⟩
 ·show VR J (.bw (mp (λe=>pB (ds.getD e ⟨103,0,0⟩)) (upTo ds.length 0))) u
  rw [XR];exact Tt l3 u (hc u h)
theorem xa(d:SD):Free false (eE d):=mB λJ J' hf=>iH hf (aC (cm _) (aC (cm _) (aC (ge hf (oM λe _=>iH hf (aC (cm _) (aC (oZ (J:=J) (J':=J') hf rfl) bu)))) (aC (w7 (J:=J) (J':=J') hf rfl) bu))))
theorem PR{h:Int}{B:Nat}(e:xT h=some B):B∈stages/\h<=B:=by
 unfold xT at e
 generalize stages=l at e ⊢
 induction l with
 |nil=>exact aD e
 |cons b r ih=>
  have e:bf (bA (b:Int) h) (aW none (λ (B:Nat) _ r=>bf (bA (B:Int) h) r (some B)) r) (some b)=some B:=e;cases c:bA (b:Int) h with
  |true=>rw [c] at e;exact ⟨.tail _ (ih e).1,(ih e).2⟩
  |false=>rw [c] at e;exact af e▸⟨.head _,lE c⟩
theorem ad7:(b6.get 1012).isSome=true:=by kernel_rfl
theorem Rz(hP:∀J,P.gh J->dN J):∀tk st k,Hy tk st k=some true->Goal (eN P) P tk st k:=qy λa c args st k h=>by refine bb h λh1 h=>?_;exact aH h1▸Dc hP h
theorem aaa{e:AI}{o:Obj}(h:OR J o (.list none [.int e])):∃x,e.ev J=some x:=by refine ba h λvs n _ h=>?_;refine am (ay.l1 h) λv _ h=>?_;refine ba h.int_inv λi _ _ h=>?_;exact ⟨i,h⟩
theorem VN(hP:∀J,P.gh J->dN J){p nt l B:Nat}{ea eb en:AI}{hi:Int}{c:Cx}{args:List AV}{k:Kont}(r1:kC st eb 0=some hi)(hB:B∈stages)(hB2:hi<=B)(h:KW p nt l ea eb en B c args st k=some true):bZ P c 1012 args st k:=by
 refine bb h λh1 h=>?_;have hk:=af h;refine aB h1 λhc h2=>?_;refine aB h2 λha hin=>?_;have aa:=jX ha;clear h h1 h2 ha;subst aa;intro J s A Rr vs' R F hvs post;cases hP J R.gh with
 |mk il hI l1 l2=>
 refine aQ (zG R hin (j:=0) (q:=iE ea eb l) rfl rfl rfl) λo0 ho=>?_;refine ba (Fj ho) λa b BB sL=>?_;refine aQ (zG R hin (j:=2) (q:=.list none [.int en]) rfl rfl rfl) λo2 ho2=>?_;refine aQ (aaa ho2) λe hen=>?_;have rb:=oI R sL r1;have lN:(il.map Note.int).length<=8000000:=by rw [dz];exact aI l2 (by decide)
 have C:CorrD J (Bc p l nt ea eb en) (J.sub [p,l,nt] ⟨[a,b,e],[],[],[],[il.map Note.int],[]⟩):={
  iw:=aR (aO ⟨_,rfl,BB⟩ (aO ⟨_,rfl,sL⟩ (aO ⟨_,rfl,hen⟩ aS)))
  sw:=aR aS
  vw:=aR aS
  ow:=aR aS
  pw:=aR (aO (gj hI rfl lN) aS)
  tw:=aR aS
  fz:=rfl
  wd:=rfl}
 refine con (c':=hJ) (gh:=dN) (objs':=yO) (bs:=[none,some (0,(B:Int)),none]) (nv:=0) (kc:=Mb B) (args:=[.ref 0,.ref 2]) dN.mono R F hc rfl hin C rfl (fm (λ_ _ h=>h) _) ⟨trivial,⟨rb.1,c8 rb.2.1 hB2⟩,trivial,rfl⟩ (by show 3<=2048;decide) rfl rfl (λ_ h=>nomatch h) ⟨il,rfl,l1,l2⟩ (λP' q=>lK (be.mp aat B hB) ad7 P' (Rz λJ h=>q▸h)) (λCo=>(iV (aC (iG Co (j:=0) rfl) (aC (iG Co (j:=2) rfl) bu)) _).1 hvs) post λP' rr st1 J1 s1 _ hq le R1=>?_;obtain ⟨⟨fl,res⟩,g1,hq⟩:=bI hq;obtain ⟨⟨ar,nmv,chv,rt⟩, -,hq⟩:=bI hq;refine aF hq λkn _ hq=>?_;refine aF hq λch _ hq=>?_;refine aB hq λg5 hq=>?_;obtain ⟨⟨vf,bc⟩,g6,hq⟩:=bI hq;refine aF hq λels g7 hq=>?_;refine aB hq λqA qB=>?_;refine aB qA λq1 q2=>?_;refine aB q1 λq1 q3=>?_;refine aB q2 λq2 q4=>?_;refine aB q2 λq2 q5=>?_;refine aB q4 λq4 q6=>?_;obtain ⟨⟨a',b',l'⟩, -,qB⟩:=bI qB;refine aF qB λe' _ qB=>?_;refine aB qB λu1 hf=>?_;refine aB u1 λu1 u2=>?_;refine aB u2 λu2 u3=>?_;refine aB u3 λu3 u4=>?_;refine cx (l:=J1.aA) (R1.bR.symm▸d7.mp g5) λxc LS=>?_;obtain ⟨J4,l4,R4,hfv, -, -,e4, -⟩:=yA true 8 g6 R1 (.ref LS);obtain rfl:=qS g7;obtain ⟨d,ok,sd⟩:=Tq (J:=J4) q3 q2 q5 q4 q6 λv hv=>by obtain ⟨x,rfl,hx⟩:=hv.mP;exact af (hx.symm.trans (e4▸LS))▸hfv
 refine aQ (js R4.cY a' u1) λza BF=>?_;refine aQ (js R4.cY b' u2) λzb sP=>?_;refine aQ (js R4.cY e' u3) λze hze=>?_;have le:=le.trans l4;have pI:∀{k:Nat} {i:Int},[a,b,e][k]?=some i->J4.iI[k]?=some i:=aN le.iI;have b2:=Ga R4 u4 sP
 have Ce:CorrD J4 (K9 a' b' e') (J4.sub [0,1,2] (Dt.grow ⟨[a,b,e],[],[],[],[il.map Note.int],[]⟩ [za,zb,ze] [eE d])):={
  iw:=aR (aO ⟨_,rfl,pI (k:=0) rfl⟩ (aO ⟨_,rfl,pI (k:=1) rfl⟩ (aO ⟨_,rfl,pI (k:=2) rfl⟩ (aO ⟨_,rfl,BF⟩ (aO ⟨_,rfl,sP⟩ (aO ⟨_,rfl,hze⟩ aS))))))
  sw:=aR aS
  vw:=aR aS
  ow:=aR aS
  pw:=aR (aO (gj (le.pP▸rfl) rfl lN) aS)
  tw:=aR aS
  fz:=rfl
  wd:=rfl}
 refine ⟨J4,bc,l4,R4,.raw (vd B) (.aY 2000000) [iE (.var 3) (.var 4) 1,pre0,.list none [.int (.var 5)]] [] [za,zb,ze] [eE d] _ [] hf (λq=>aE q) (λ_ x hx v hv=>?_) (fm (λ_ _ h=>h) _) hk Ce ⟨trivial,b2,trivial,rfl⟩ rfl (eH.mpr (xa d)) (.inr rfl) (λ_ h=>nomatch h)⟩;have ex:x=res:=(bU.inj (af (hx.symm.trans g1))).2;have hv:=sd v (jm _ _ q1▸ex▸hv);show VR _ (.aY (gM 1 0)) v;exact (kY (by decide)).2 ⟨eE d,rfl,uf (O:=1) ⟨d,ok,rfl⟩,(hW (xa d J4 (J4.sub [0,1,2] (Dt.grow ⟨[a,b,e],[],[],[],[il.map Note.int],[]⟩ [za,zb,ze] [eE d])) rfl (λq=>aE q)) v).2 hv⟩
theorem VO(hP:∀J,P.gh J->dN J){c:Cx}{args:List AV}{k:Kont}(h:AX c args st k=some true):bZ P c 1012 args st k:=by refine ah h λp _ h=>?_;refine ah h λnt _ h=>?_;obtain ⟨⟨ea,eb,l⟩, -,h⟩:=cz h;refine ah h λB r1 h=>?_;refine ah r1 λhi r1 r2=>?_;refine ah h λen _ h=>?_;refine au (PR r2) λhB hB2=>?_;exact VN hP r1 hB hB2 h
end
section
variable{P:Pr}{J J':G}{st:St}{s:Shared}{w:Ow}{d:SD}{V:Nat->Option Int}{N:List Note}{more:List Int}{vs:List Value}{ts:List AV}{j:Nat}{Z:Th}
theorem Ws(R:Rel P J st s){v:Option Int}(hv:J.oO[40+j]?=some v){a b:Bool}(h:ways st j a b=true):(∀i,v=some i->a=true)/\(v=none->b=true):=by
 unfold ways at h;cases c:eA st.aU (40+j) with
 |none=>rw [c] at h;exact ⟨λ_ _=>(bq h).1,λ_=>(bq h).2⟩
 |some o=>
  rw [c] at h;have q:=R.aU _ (qz c);cases o with
  |none=>exact ⟨λi e=>aD ((af (hv.symm.trans q)).symm.trans e),λ_=>h⟩
  |some k=>refine am q λi q1 _=>?_;exact ⟨λ_ _=>h,λe=>aD (e.symm.trans (af (hv.symm.trans q1)))⟩
theorem dk.both(H:dk J w j d V N)(R:Rel P J st s){a b:Cs}{k:Kont}(h:zm Z st a b j k=true):(isOk (d.way w V)=true->fH (Z.on st a) st a [(40+j,some (10* j+9))] k=true/\fF J (40+j,some (10* j+9)))/\(isOk (d.way w V)=false->fH (Z.on st b) st b [(40+j,none)] k=true/\fF J (40+j,none)):=by
 refine au (Ws R H.oW h) λh1 h2=>?_;refine ⟨λc=>?_,λc=>?_⟩
 ·have e:d.val w V=some (d.rv w V):=cf c
  exact ⟨h1 _ e,_,H.oW.trans (congrArg some e),H.iI 9 _ (cO 6 (lA 5) (k:=3) (congrArg some (getD_some e)))⟩
 ·have e:d.val w V=none:=cu c
  exact ⟨h2 e,H.oW.trans (congrArg some e)⟩
theorem Gb(J:G){objs:List AO}(h:fQ Z st objs=true):Z.ob.length=objs.length:=(uk (J:=J) (bq (bq h).2).2).1
theorem uA{ev:Bool}(k:Nat)(T:AV)(h:((trees w d).drop 2)[k]?=some T):(bN ev w d)[2+k]?=some T:=by have q:(pf w d)[k]?=some T:=bW h;rw [<-Ep ev,MQ] at q;exact q
theorem Wk{ev:Bool}{e:Nat}(h:e< 3):(bN ev w d)[11+e]?=some (ei (d.D e).ix (.lit (d.D e).n)):=by
 match e,h with
 |0,_=>exact uA 9 _ rfl
 |1,_=>exact uA 10 _ rfl
 |2,_=>exact uA 11 _ rfl
theorem Xe{ev:Bool}(hf:J.fz=J'.fz)(H':Pre (br w d V N more vs (bN ev w d)) J'){e:Nat}(he:e< 3):aV J (pB (d.D e)) J' (Kk e):=iH hf (aC (pu (eB (H'.g he)).symm) (aC ((oZ (J:=J) (J':=J') (e:=.lit (d.D e).n) (e':=.lit (d.D e).n) hf rfl).trans (eQ (O:=0) (H'.t (Wk he)) (pY he rfl) rfl (CU _ _) λv=>Iff.rfl).sym) bu))
theorem aaD(hf:J.fz=J'.fz)(H:dk J w j d V N)(hj:j<=3)(H':Pre (br w d V N more vs (bN false w d)) J'):aV J (sr j) J' (vA d.up d.v d.L d.r):=iH hf (aC (jr H hj (o:=0) (by decide) rfl rfl (cm _)) (aC (jr H hj (o:=1) (by decide) rfl rfl (cm _)) (aC (jr H hj (o:=2) (by decide) rfl rfl (ge hf (oM λe he=>Xe hf H' (bz (uB he) H.ok.L)))) (aC (H3 hf H H' hj) bu))))
theorem QK(hP:∀J,P.gh J->dk J w j d V N){v o n:Nat}{rows:List Nat}{c:Cx}{args:List AV}{k:Kont}(h:GL w.ins j v o n rows c args st k=some true):bZ P c 1054 args st k:=by
 refine bb h λh1 h=>?_;have hk:=af h;refine aB h1 λh1 h2=>?_;refine aB h1 λhc hj=>?_;refine aB h2 λh3 hin=>?_;have hj:=bt hj;have aa:=jX h3;clear h h1 h2 h3;subst aa;intro J s A Rr vs' R F hvs post;have H:=hP J R.gh;have C:=yE (more:=[]) (vs:=ew 26 .none) (ob:=n::o::v::rows) (ev:=false) H (iw:=[]) (vw:=[]) (aR aS) (aR aS) (λq=>aE q);have H0:=rd J (n::o::v::rows) (br w d V N [] (ew 26 .none) (bN false w d))
 generalize hD:br w d V N [] (ew 26 .none) (bN false w d)=D at C H0
 have lens:D.vV.length=26/\D.tA.length=26/\D.iI.length=10:=hD▸⟨rfl,rfl,cJ.trans (congrArg (· +0) gc)⟩;refine con (c':=hJ) (gh:=λJ1=>(J.sub (n::o::v::rows) D).Le J1) (bs:=nones 10) (nv:=26) (objs':=rC w.ins 0 0) (kc:=BI w.ins d.up d.v d.L d.r) (args:=[vA d.up d.v d.L d.r,.ref 2,.ref 1,.ref 0]) (λl h=>h.trans l) R F hc rfl hin C lens.2.2.symm (fm (λ_ _ h=>h) _) (qF lens.2.2) (by decide) lens.1 lens.2.1 (hD▸zM H R) (.refl _) (λP' e=>rd2 (λk T h=>uA k T h) H.ok (aI H.lN (by decide)) (λJ1 h=>hD▸H0.le (e▸h))) (λCo=>(iV (aC ?_ (aC (iG Co (j:=2) rfl) (aC (iG Co (j:=1) rfl) (aC (iG Co (j:=0) rfl) bu)))) _).1 hvs) post λP' rr st1 J1 s1 _ hq le R1=>?_
 ·clear C lens Co
  subst hD;exact aaD rfl H hj H0
 ·obtain ⟨⟨wy,jj⟩,g1,g2⟩:=bI hq
  clear C lens;subst hD;have H1:=H0.le le;refine au (Dj R1 ⟨λk=>H1.o⟩ H.ok H1.num (λp=>H1.s) g1) λe1 e2=>?_;obtain rfl:d.way w V=wy:=e1;have Ce:=Eu (ls:=upTo (vW w.ins) 0) (nI:=[]) (iw:=[]) (vw:=[]) (tw:=[]) H1 H.ok H.lN e2 (λk e h=>aD h) (λk e h=>aD h) (λk e h=>aD h);have nl:(n::o::v::rows).length=vW w.ins:=(Gb J hin).trans (by cases w.ins<;>rfl);rw [<-nl] at g2;refine au (H.both R hk) λb1 b2=>?_;refine ⟨J1,st1,.refl _,R1,?_⟩;cases er:isOk (d.way w V) with
  |true=>rw [er] at g2;exact .mk (sb w.ins true) _ _ [] [] [] _ [(40+j,some (10* j+9))] g2 (λq=>aE q) (λ_ h=>h) (fm (λ_ _ h=>h) _) (b1 er).1 (nl▸Ce) rfl rfl (λ_ h=>nomatch h) (.inl rfl) (eH.mpr (b1 er).2)
  |false=>rw [er] at g2;exact .mk (sb w.ins false) _ _ [] [] [] _ [(40+j,none)] g2 (λq=>aE q) (λ_ h=>h) (fm (λ_ _ h=>h) _) (b2 er).1 (nl▸Ce) rfl rfl (λ_ h=>nomatch h) (.inl rfl) (eH.mpr (b2 er).2)
end
section
variable{P:Pr}{J J':G}{st st':St}{s:Shared}{w:Ow}{d:SD}{V:Nat->Option Int}{N:List Note}{more:List Int}{vs:List Value}{ts:List AV}{j:Nat}{Z:Th}
noncomputable def G.addW(J:G)(v:Value):G:={J with vV:=J.vV++ [v],tA:=J.tA++ [.none]}
theorem G.xh(J:G)(v:Value):J.Le (J.addW v):=⟨bT _,bT _,⟨_,rfl⟩,rfl,rfl,rfl,⟨_,rfl⟩,λ_ _ e=>e,rfl,λ_ h=>h⟩
theorem Rel.adI(R:Rel P J st s)(v:Value):Rel P (J.addW v) st.newV s:=R.data (J.xh v) rfl rfl rfl rfl rfl rfl R.eX R.cY (tY R.lenV _) (tY R.eU _) R.bnd R.sub R.aU
theorem aaR(R:Rel P J st s){i:Nat}{n:Nm}{x:Str}{a:AV}(hx:n=nm x)(hi:i< st.n)(h:n5 st i n=some a):∃v,VR J a v:=by refine ah h λe h3 h4=>?_;refine ah h3 λes h1 h2=>?_;refine ah h1 λo h7 h8=>?_;refine jz (wC h8) λcap loc ai=>?_;subst ai;refine bp (R.objs i _ hi h7) λb ob y1 y2 r=>?_;obtain ⟨en,m, -, -, -, -, -,y3⟩:=r;have q:=y3 x;rw [<-hx,h2,jR h4] at q;exact q.imp λv q=>q.2
theorem Rn(R:Rel P J st s){i:Nat}{n:Nm}{x:Str}(hx:n=nm x)(h:Hs i n st=some st'):∃J',J.Le J'/\Rel P J' st' s:=by
 refine ah h λq h1 h=>?_;refine ah h1 λo h2 h3=>?_;obtain rfl:=DJ h3;refine ah h λa h4 h=>?_;refine ah h4 λev h5 h6=>?_;refine bb h λc h=>?_;refine aB c λc1 c2=>?_;refine aB c1 λc1 c3=>?_;refine au (bq c1) λc1 c4=>?_;refine au (bq c2) λc2 c5=>?_;refine bp (R.objs i _ (d7.mp c1) h2) λad ob a1 a2 r=>?_;have ap:=R.apart i _ ad (d7.mp c1) h2 a1;obtain ⟨en,m,d0,d1,d2,d3,d4,d5⟩:=r;have y:=d5 x;rw [<-hx,h5,jR h6] at y;refine am y λv y1 y2=>?_;have R1:=R.adI v;refine ⟨J.addW v,J.xh v,?_⟩;have z:=R1.upd (i:=i) (b9:=.dict q.1 q.2.1 (c7 n (.val (.aY st.nv)) q.2.2)) a1 ap (λe=>aD ((lb c3).symm.trans e)) ⟨rfl,λ_ _=>rfl⟩ a2 ⟨en,m,len_eq (c7 n (EV.val (.aY st.nv)) q.2.2)▸bt c5,d1,d2,d3,d4,λt=>?_⟩ (.inr ⟨_,h2,Dw c2⟩)
 ·exact af h▸z
 ·rw [oL]
  by_cases e:nm t=n
  ·rw [if_pos e]
   have e2:t=x:=dM (e.trans hx);exact ⟨v,e2▸y1,.aY (Em R.lenV v) (tK y2) (dy (bt c4) (by decide))⟩
  ·rw [if_neg e]
   exact (d5 t).mono (J.xh v)
noncomputable def Named(n:Nm):Prop:=∃x:Str,n=nm x
theorem CR:∀n∈pE,Named n:=by have c:∀{n:Nm} {l:List Nm} (x:Str),n=nm x->(∀m∈l,Named m)->∀m∈n::l,Named m:=λx h t=>cT.mpr ⟨⟨x,h⟩,t⟩;exact c "call" (by kernel_rfl) (c "function" (by kernel_rfl) (c "env" (by kernel_rfl) (c "caller" (by kernel_rfl) (c "args" (by kernel_rfl) (c "on_exit" (by kernel_rfl) (c "dispatch" (by kernel_rfl) λ_ h=>nomatch h))))))
theorem Ro{i:Nat}:∀{l:List Nm} {J:G} {st:St},(∀n∈l,Named n)->Rel P J st s->zk i l st=some st'->∃J',J.Le J'/\Rel P J' st' s:=by
 intro l
 induction l with
 |nil=>exact λ {J st} _ R h=>⟨J,.refl _,af h▸R⟩
 |cons n r ih=>
  intro J st hn R h;refine au (cT.mp hn) λhx hr=>?_;refine ah h λst1 h1 h2=>?_;refine ah h1 λa h3 h4=>?_;have key:∃J1,J.Le J1/\Rel P J1 st1 s:=by
   cases c:j8 a with
   |none=>rw [c] at h4;exact ⟨J,.refl _,af h4▸R⟩
   |some q=>rw [c] at h4;exact hx.elim λx hx=>Rn R hx h4
  refine am key λJ1 l1 R1=>?_;refine am (ih hr R1 h2) λJ2 l2 R2=>?_;exact ⟨J2,l1.trans l2,R2⟩
theorem Vu{a:AV}{v:Value}(h:pH a=true)(hv:VR J a v):dF J v a:=by
 have h:(dq a||(oe false (λ_=>true) (refOf a)||aj (gx a) λk=>bh k 1000000))=true:=h;cases c:dq a with
 |true=>obtain rfl:=ip c;exact .none hv.out
 |false=>
  rw [c] at h;cases c1:refOf a with
  |some i=>have aa:=fq c1;clear h c c1;subst aa;refine am hv.mP λb e h=>?_;exact .ref h e
  |none=>
   rw [c1] at h;refine aF (show aj (gx a) (λk=>bh k 1000000)=true from h) λk h1 h2=>?_;obtain rfl:=w5 h1;have hk:=d7.mp h2;obtain q | ⟨O,j,T,q, -⟩:=hv.out
   ·exact .aY hk q.1
   ·exact (Aj (dy (ck q.symm) hk)).elim
theorem Wn(R:Rel P J st s){i:Nat}(hi:i< st.n){ns:List Nm}(hn:∀n∈ns,Named n):∀{l:List AV},bX (n5 st i) ns=some l->bF l pH=true->∃vs:List Value,vs.length=ns.length/\(∀v∈vs,handedIn v=true)/\∀k a,nth l k=some a->∃v,vs[k]?=some v/\dF J v a:=by
 induction ns with
 |nil=>intro l h _;obtain rfl: []=l:=af h;exact ⟨[],rfl,λ_ h=>(nomatch h),λk a e=>aD e⟩
 |cons n r ih=>
  intro l h hl;refine ah h λa h1 h=>?_;refine ah h λl' h2 h=>?_;have aa:=af h;clear h;subst aa;refine au (cT.mp hn) λhx hr=>?_;refine aQ hx λx hx=>?_;refine aQ (aaR R hx hi h1) λv hv=>?_;have hl1:=dm hl a (.head _);have hl2:bF l' pH=true:=(mV (show bf (pH a) (bF l' pH) false=true from hl)).2;refine bP (ih hr h2 hl2) λvs g1 g2 g3=>?_;refine ⟨v::vs,congrArg (· +1) g1,cT.mpr ⟨tK hv,g2⟩,λk b e=>?_⟩;cases k with
  |zero=>exact ⟨v,rfl,af e▸Vu hl1 hv⟩
  |succ k=>exact g3 k b e
theorem Gz{vw:List AV}{vs:List Value}(h1:vs.length<=26)(h2:∀v∈vs,handedIn v=true)(h3:∀k a,nth vw k=some a->∃v,vs[k]?=some v/\dF J v a):∃vs:List Value,vs.length=26/\(∀k,k< 7->∃v,vs[k]?=some v/\handedIn v=true)/\∀k a,nth vw k=some a->∃v,vs[k]?=some v/\handedIn v=true/\dF J v a:=by
 have l:(vs++ew (26 - vs.length) Value.none).length=26:=by refine ae cJ (ae MC ?_);omega
 refine ⟨_,l,λk (hk:k< 7)=>?_,λk a e=>(h3 k a e).imp λv q=>⟨bW q.1,h2 v (bx q.1),q.2⟩⟩;refine cx (l:=vs++ew (26 - vs.length) Value.none) (iZ (bz hk (by decide:7<=26)) l.symm) λv hv=>?_;exact ⟨v,hv,(dZ.mp (bx hv)).elim (h2 v) λq=>(List.mem_replicate.mp q).2▸rfl⟩
theorem Wr(R:Rel P J st s){i:Nat}{vw:List AV}(h:Bf i st=some vw):∃vs:List Value,vs.length=26/\(∀k,k< 7->∃v,vs[k]?=some v/\handedIn v=true)/\∀k a,nth vw k=some a->∃v,vs[k]?=some v/\handedIn v=true/\dF J v a:=by refine ah h λl h1 h=>?_;refine bb h λc h=>?_;refine aB c λc1 c2=>?_;refine bP (Wn R (d7.mp c1) CR h1 c2) λvs g1 g2 g3=>?_;exact af h▸Gz (g1▸(by decide:pE.length<=26)) g2 g3
end
section
variable{P:Pr}{J J':G}{st st':St}{s:Shared}{w:Ow}{d:SD}{V:Nat->Option Int}{N:List Note}{more:List Int}{vs:List Value}{ts:List AV}{j:Nat}{Z:Th}
theorem TZ(H':Pre (br w d V N more vs (bN true w d)) J'):aV J' (jv 0) J' (iz (d.D 0) (inner d 0)):=j9 rfl (aC (cm _) (aC (eQ (O:=0) (j:=2) (T:=ka d 0) (H'.t rfl) (by decide) rfl rfl λv=>Iff.rfl) (aC (eQ (O:=0) (j:=3) (T:=ku d 0) (H'.t rfl) (by decide) rfl rfl λv=>Iff.rfl) (aC bO (aC bO bu)))))
theorem acn(hf:J.fz=J'.fz)(H':Pre (br w d V N more vs (bN true w d)) J'):aV J (kV d) J' (bf (ag d.L 0) (cv (.lit [120+d.v])) (jv 0)):=by
 unfold kV;have e:bh 0 d.L= !(ag d.L 0):=by cases d.L<;>rfl
 refine ae e ?_;cases ag d.L 0 with
 |true=>exact dW hf rfl
 |false=>exact aV.trans (ED hf (d.D 0) (qU hf 0)) (TZ H').sym
theorem Wd(L v:Nat):isAny (bf (ag L 0) (cv (.lit [120+v])) (jv 0))=false:=by cases ag L 0<;>rfl
theorem aaC(hf:J.fz=J'.fz)(H:dk J w j d V N)(hj:j<=3)(H':Pre (br w d V N more vs (bN true w d)) J'):aV J (vz j) J' (sk d.up d.v d.L d.r):=mW hf (aC (j9 hf (aC (cm _) (aC (jr H hj (o:=0) (by decide) rfl rfl (cm _)) (aC bO bu)))) (aC (jr H hj (o:=4) (by decide) rfl (Wd _ _) (acn hf H')) (aC (jr H hj (o:=5) (by decide) rfl (C6 d.r _) (w8 hf H'.num.symm)) bu))) (aC bO (aC bO (aC bO bu)))
theorem WG{b1 b2:List (Option (Int×Int))}:∀{l1 l2:List Int},Bd b1 l1->Bd b2 l2->Bd (app b1 b2) (l1++l2):=by
 induction b1 with
 |nil=>intro l1 l2 h h2;obtain rfl:l1= []:=h;exact h2
 |cons b r ih=>
  intro l1 l2 h h2;cases l1 with
  |nil=>exact False.elim h
  |cons i s=>exact ⟨h.1,ih h.2 h2⟩
theorem aaO{a b:Int}{wa wb:AI}(ha:wa.ev J=some a)(hb:wb.ev J=some b)(k:Nat)(e:AI)(h:nth [wa,wb] k=some e):∃i,[a,b][k]?=some i/\e.ev J=some i:=aR (P:=λk e=>∃i,[a,b][k]?=some i/\AI.ev J e=some i) (aO ⟨a,rfl,ha⟩ (aO ⟨b,rfl,hb⟩ aS)) k e h
theorem UA{a b c d:Int}{wa wb wc wd:AI}(ha:wa.ev J=some a)(hb:wb.ev J=some b)(hc:wc.ev J=some c)(hd:wd.ev J=some d)(k:Nat)(e:AI)(h:nth [wa,wb,wc,wd] k=some e):∃i,([a,b]++ [c,d])[k]?=some i/\e.ev J=some i:=aR (P:=λk e=>∃i,[a,b,c,d][k]?=some i/\AI.ev J e=some i) (aO ⟨a,rfl,ha⟩ (aO ⟨b,rfl,hb⟩ (aO ⟨c,rfl,hc⟩ (aO ⟨d,rfl,hd⟩ aS)))) k e h
theorem aaS(hv:∀k,k< 7->∃v,vs[k]?=some v/\handedIn v=true)(le:vs<+:J.vV)(k:Nat)(a:AV)(h:nth v8 k=some a):∃v,vs[k]?=some v/\handedIn v=true/\dF J v a:=by refine au (eP (f:=AV.aY) (m:=7) (b:=0) h) λh1 aq=>?_;have aa:=aq;clear h aq;subst aa;rw [bJ];exact (hv k h1).imp λv q=>⟨q.1,q.2,.aY (wv h1 (by decide)) (aN le q.1)⟩
theorem Gp(ins:Bool):12<=iS ins:=by cases ins with |true=>exact (by decide:12<=18) |false=>exact cG 12
theorem F9{x h:Int}(a:x<=h)(b:bA h 10000=true):x<=10000:=c8 a (mw ((gU _ _).mp b))
theorem FN{i:Int}{k:Nat}(H:Pre (br w d V N more vs ts) J)(h:more[k]?=some i):(AI.var (10+k)).ev J=some i:=aN H.iI (cO 10 gc h)
theorem Qe(hP:∀J,P.gh J->dk J w j d V N){e:Nat}{sel:List Nat}{vw:List AV}{wa wb:AI}(ha:wordAt st 0 mM=some wa)(hb:wordAt st 0 m7=some wb)(h12:∀k,k< 12->sel[k]?=some k)
  (hvw:∀J s,Rel P J st s->∃vs:List Value,vs.length=26/\(∀k,k< 7->∃v,vs[k]?=some v/\handedIn v=true)/\∀k a,nth vw k=some a->∃v,vs[k]?=some v/\handedIn v=true/\dF J v a) {c:Cx} {args:List AV} {k:Kont} (h:FZ w.ins j e sel vw wa wb c args st k=some true):bZ P c 847 args st k:=by
 refine bb h λh1 h=>?_;have hk:=af h;refine aB h1 λh1 h2=>?_;refine aB h1 λhc hj=>?_;refine aB h2 λh1 h2=>?_;refine aB h1 λu1 u2=>?_;refine aF u1 λhi1 r1 t1=>?_;refine aF u2 λhi2 r2 t2=>?_;refine aB h2 λh1 h2=>?_;refine aB h1 λh1 _=>?_;refine aF h1 λe' q1 q2=>?_;have aa:=aH q2;clear q2;subst aa;refine aB h2 λh3 hin=>?_;have hj:=bt hj;have aa:=jX h3;clear h h1 h2 h3;subst aa;intro J s A Rr vs' R F hvs post;have H:=hP J R.gh;refine bP (hvw J s R) λvs v1 v2 v3=>?_;have n7:7< st.n:=HK R hin (j:=7) (h12 7 (by decide));refine aQ (lq R tH (mu n7) ha) λsv hsv=>?_;refine aQ (lq R tN (mu n7) hb) λnv sN=>?_;have b1:=oI R hsv r1;have b2:=oI R sN r2;have h7:∃a,J.aA[7]?=some a:=fo (R.bR.symm▸n7);have g7:∃a,J.aA[7]?=some a/\(J.sub sel (br w d V N [sv,nv] vs (bN true w d))).aA[7]?=some a:=h7.imp λa h=>⟨h,map_getD (h12 7 (by decide)) h⟩;have C:=yE (more:=[sv,nv]) (vs:=vs) (ob:=sel) (ev:=true) H (iw:=[wa,wb]) (vw:=vw) (aaO hsv sN) v3 (λ_=>g7);have H0:=rd J sel (br w d V N [sv,nv] vs (bN true w d));have lS:=zM (more:=[sv,nv]) (vs:=vs) (ts:=bN true w d) H R;have sv':aV J (vz j) (J.sub sel (br w d V N [sv,nv] vs (bN true w d))) (sk d.up d.v d.L d.r):=aaC rfl H hj H0;have eI:(br w d V N [sv,nv] vs (bN true w d)).iI=kl w d V++ [sv,nv]:=rfl;have eV:(br w d V N [sv,nv] vs (bN true w d)).vV=vs:=rfl;have eT:(br w d V N [sv,nv] vs (bN true w d)).tA.length=26:=rfl;have nl:sel.length=iS w.ins:=(Gb J hin).trans (by cases w.ins<;>rfl)
 generalize hD:br w d V N [sv,nv] vs (bN true w d)=D at C H0 g7 lS sv' eI eV eT
 refine con (c':=hJ) (gh:=λJ1=>(J.sub sel D).Le J1) (bs:=Av) (nv:=26) (objs':=rA w.ins (.var 10) (.var 11) 0 0) (kc:=BH w.ins d.up d.v d.L d.r) (args:=[.ref 1,sk d.up d.v d.L d.r,envOf w.ins]) (λl h=>h.trans l) R F hc rfl hin C (eI▸(cJ.trans (congrArg (· +2) gc)).symm) (fm (λ_ _ h=>h) _) (eI▸WG (qF gc) ⟨⟨b1.1,F9 b1.2.1 t1⟩,⟨b2.1,F9 b2.2.1 t2⟩,rfl⟩) (by decide) (eV▸v1) eT lS (.refl _) (λP' e=>ev2 H.ok (aI H.lN (by decide)) (λJ1 h=>hD▸H0.le (e▸h))) (λCo=>(iV (aC (iG Co (j:=1) (h12 1 (by decide))) (aC sv' (aC ?_ bu))) _).1 hvs) post λP' rr st1 J1 s1 _ hq le R1=>?_
 ·have g:sel[bf w.ins 13 7]?=some e:=(dS _ _).symm.trans q1
  cases hi:w.ins with
  |true=>rw [hi] at g;exact iG Co (j:=13) g
  |false=>rw [hi] at g;exact iG Co (j:=7) g
 ·obtain ⟨⟨wy,jj⟩,g1,hq⟩:=bI hq
  refine aF hq λa' q1 hq=>?_;refine aF hq λb' q2 hq=>?_;refine aF hq λp1 q3 hq=>?_;refine aF hq λp2 q4 g2=>?_;clear C lS sv' eI eV eT;subst hD;have H1:=H0.le le;have n0:0< st1.n:=AL R1 le (iZ (bz (by decide:0< 12) (Gp w.ins)) (nl.symm.trans (dz _).symm));refine aQ (lq R1 tH n0 q1) λx5 BD=>?_;refine aQ (lq R1 tN n0 q2) λx6 BE=>?_;refine am (tP R1 q3 BD) λz5 B8 te=>?_;refine am (tP R1 q4 BE) λz6 B9 tf=>?_;refine au (Dj R1 ⟨λk=>H1.o⟩ H.ok H1.num (λp=>H1.s) g1) λe1 e2=>?_;obtain rfl:d.way w V=wy:=e1;have LQ:∀nw,∃a,J1.aA[7]?=some a/\(J1.sub (app (upTo (iS w.ins) 0) nw) ((br w d V N [sv,nv] vs (bN true w d)).grow [z5,z6] [])).aA[7]?=some a:=λnw=>g7.imp λa h=>⟨aN le.aA h.2,map_getD (by rw [cW];exact aN ⟨nw,rfl⟩ ((dQ (iS w.ins) 0 7 (bz (by decide:7< 12) (Gp w.ins))).trans rfl)) (aN le.aA h.2)⟩;have Ce:=λnw=>Eu (ls:=app (upTo (iS w.ins) 0) nw) (nI:=[z5,z6]) (iw:=[.var 10,.var 11,p1,p2]) (vw:=v8) (tw:=[.at 0,.at 1]) H1 H.ok H.lN e2 (UA (FN (k:=0) H1 rfl) (FN (k:=1) H1 rfl) B8 B9) (aaS v2 H1.vV) (aR (P:=λj t=>lu J1 (J1.sub (app (upTo (iS w.ins) 0) nw) ((br w d V N [sv,nv] vs (bN true w d)).grow [z5,z6] [])) j t) (aO ⟨_,true,rfl,qO H.ok,λ_=>LQ nw,H1.t rfl⟩ (aO ⟨_,true,rfl,qP H.ok,λ_=>LQ nw,H1.t rfl⟩ aS)));have g2:iB (uX (app (upTo (iS w.ins) 0) (excOf rr st1)) w.ins d.up d.v d.L d.r (d.way w V) jj [.var 10,.var 11,p1,p2] v8 [.at 0,.at 1]) st1 rr sel.length (excOf rr st1) (pz w.ins (isOk (d.way w V)))=true:=nl.symm▸g2;refine au (H.both R hk) λb1 b2=>?_;refine ⟨J1,st1,.refl _,R1,?_⟩;cases er:isOk (d.way w V) with
  |true=>rw [er] at g2;exact .mk (pz w.ins true) _ _ _ [z5,z6] [] _ [(40+j,some (10* j+9))] g2 (λq=>aE q) (λ_ h=>h) (fm (λ_ _ h=>h) _) (b1 er).1 (Ce _) ⟨te,tf,rfl⟩ rfl (λ_ h=>nomatch h) (.inl rfl) (eH.mpr (b1 er).2)
  |false=>rw [er] at g2;exact .mk (pz w.ins false) _ _ _ [z5,z6] [] _ [(40+j,none)] g2 (λ_=>congrArg AV.ref nl.symm) (λ_ h=>h) (fm (λ_ _ h=>h) _) (b2 er).1 (Ce _) ⟨te,tf,rfl⟩ rfl (λ_ h=>nomatch h) (.inl rfl) (eH.mpr (b2 er).2)
end
section
variable{P:Pr}{J J':G}{st st':St}{s:Shared}{w:Ow}{dd:Nat->SD}{VV:Nat->Nat->Option Int}{NN:Nat->List Note}{j:Nat}
theorem Fq{a:List Nat}{o j:Nat}{c:Cx}{args:List AV}{k:Kont}(h:pb a o j c args st k=some true):j<=3:=bt (bq (bq (fu h).1).1).2
theorem bZ.to{P:Pr}{c:Cx}{f:Nat}{args:List AV}{k:Kont}(h:bZ P c f args st' k)(m:∀J s,Rel P J st s->∃J',J.Le J'/\Rel P J' st' s):bZ P c f args st k:=λJ s A Rr vs R F hv post=>(m J s R).elim λJ' q=>h J' s A Rr vs q.2 (F.mono q.1) (hv.mono q.1) (post.le q.1)
theorem aee{l:List Nat}{k:Nat}(h:k< 12):(app (upTo 12 0) l)[k]?=some k:=(cW (upTo 12 0) l)▸bW ((dQ 12 0 k h).trans (congrArg some (bJ k)))
theorem aas{ins:Bool}{e:Nat}{sel:List Nat}(h:Iy ins st e=some sel){k:Nat}(hk:k< 12):sel[k]?=some k:=by
 cases ins with
 |true=>refine ah (show ob (KV st e) (λl=>some (app (upTo 12 0) l))=some sel from h) λl _ h=>?_;exact af h▸aee hk
 |false=>exact af (show some (upTo 12 0)=some sel from h)▸(dQ 12 0 k hk).trans (congrArg some (bJ k))
theorem Qg(hP:∀j J,j<=3->P.gh J->dk J w j (dd j) (VV j) (NN j)){c:Cx}{args:List AV}{k:Kont}(h:evalOr w.ins c args st k=some true):bZ P c 847 args st k:=by
 refine ah h λe _ h=>?_;refine ah h λj _ h=>?_;refine ah h λsel h1 h=>?_;refine ah h λst1 h2 h=>?_;refine ah h λvw h3 h=>?_;refine ah h λwa h4 h=>?_;refine ah h λwb h5 h=>?_;have hj:j<=3:=bt (bq (bq (fu h).1).1).2;refine bZ.to (Qe (hP j · hj) h4 h5 (λk hk=>aas h1 hk) (λJ s R=>?_) h) λJ s R=>?_
 ·cases c:w.ins with
  |true=>rw [c] at h3;refine ah (show ob (nth sel 17) (λi=>Bf i st1)=some vw from h3) λi _ h3=>?_;exact Wr R h3
  |false=>rw [c] at h3;obtain rfl: []=vw:=af h3;exact Gz (vs:=[]) (by decide) (λ_ h=>nomatch h) λk a e=>aD e
 ·cases c:w.ins with
  |true=>rw [c] at h2;refine ah (show ob (nth sel 17) (λi=>zk i pE st)=some st1 from h2) λi _ h2=>?_;exact Ro CR R h2
  |false=>rw [c] at h2;exact ⟨J,.refl _,af (show some st=some st1 from h2)▸R⟩
theorem TO(hP:∀j J,j<=3->P.gh J->dk J w j (dd j) (VV j) (NN j)):∀tk st k,I0 w.ins tk st k=some true->Goal (eN P) P tk st k:=qy λa c args st k h=>by
 obtain ⟨h1,h⟩ |h:=dj h
 ·obtain rfl:=aH h1
  refine ah h λj _ h=>?_;exact Tw (hP j · (Fq h)) h
 obtain ⟨h1,h⟩ |h:=dj h
 ·obtain rfl:=aH h1
  refine ah h λj _ h=>?_;exact Qu (hP j · (Fq h)) h
 obtain ⟨h1,h⟩ |h:=dj h
 ·obtain rfl:=aH h1
  refine ah h λj _ h=>?_;refine ah h λv _ h=>?_;refine ah h λo _ h=>?_;refine ah h λn _ h=>?_;refine ah h λq _ h=>?_;refine ah h λrows _ h=>?_;exact QK (hP j · (bt (bq (bq (fu h).1).1).2)) h
 refine bb h λh1 h=>?_;exact aH h1▸Qg hP h
end
section
variable{P:Pr}{J J':G}{st st':St}{s:Shared}{Z:Th}{D:Dt}{fa:Addr}
theorem Vg{Y:Type}(j:Nat):(TM.nil:TM Y).get j=none:=rfl
theorem Vc{objs:List AO}{bs:List (Option (Int×Int))}{nv j:Nat}{p:AO}(h:objs.length<=2010)(hj:j< 2048)(e:(c6 objs bs nv).get j=some p):objs[j]?=some p:=by
 obtain ⟨-,a2,a3⟩:=t7 (mp some objs) 0 .nil (.nil 11) (by rw [dD,dz,bJ];exact aI h (by decide))
 by_cases c:j< objs.length
 ·refine cx c λo ho=>?_
  have z:=a3 j (some o) (by rw [dD,ib,ho];rfl);rw [bJ] at z;exact ho.trans (z.symm.trans e)
 ·have z:=a2 j hj (.inr (by rw [dD,dz,bJ];exact i5 c))
  exact aD ((Eq.symm (Vg j)).trans (z.symm.trans e))
noncomputable def G.IK(J:G)(fa:Addr):G:={J with nf:=[fa]}
theorem Ev(h:J.nf= [])(fa:Addr):J.Le (J.IK fa):=⟨bT _,bT _,bT _,rfl,rfl,rfl,bT _,λ_ _ h=>h,rfl,λa q=>by rw [h] at q;exact nomatch q⟩
theorem yh{l:List Nat}(h:bF l (l9 st)=true){i:Nat}(hi:i∈l):i< st.n/\∃ao,st.get i=some ao:=by refine aB (dm h i hi) λh1 h2=>?_;exact ⟨d7.mp h1,(bI h2).imp λa h=>h.1⟩
theorem DX(R:Rel P J st s){objs objs':List AO}{bs:List (Option (Int×Int))}{nv:Nat}{ex:List Nat}(hl:pD Z st Z.ob objs=true)(nd:gq (app Z.ob ex)=true)(ha:bF (app Z.ob ex) (l9 st)=true)(C:CorrD J Z (J.sub (Z.ob++ex) D))
  (hun:objs'.length=objs.length/\∀(j:Nat) p p',objs[j]?=some p->objs'[j]?=some p'->∀o,OR (J.sub (Z.ob++ex) D) o p->OR (J.sub (Z.ob++ex) D) o p') (hd:Bd bs D.iI) (hb:bs.length<=2048) (lr:(Z.ob++ex).length<=2010) (lV:D.vV.length=nv) (lT:D.tA.length=nv) (lS:∀z∈D.sS,z.length<=10000):eh s J st ((J.sub (Z.ob++ex) D).IK fa) ((c6 objs' bs nv).room ex.length) (Z.ob++ex):=by
 rw [cW] at nd ha;have Co:dX J Z (J.sub (Z.ob++ex) D):={C with ob:=λj i e=>yT (λj i e=>fo (R.bR.symm▸(yh ha (bx e)).1)) j i ((dS _ _).trans (bW ((dS _ _).symm.trans e)))};refine au (EQ (J4:=J) hl) λf1 f2=>?_;have l1:objs'.length=Z.ob.length:=hun.1.trans f1.symm;have l2:objs'.length<=2010:=l1▸aI (cJ▸fh _ _) lr;refine EK (Go (objs:=objs') (nv:=nv) l2 hb) λm1 m2 m3 m4 _ m6=>?_;refine au hd.get λb1 b2=>?_;refine ⟨rfl,rfl,qx nd,rfl,λj i e=>?_,m1,m2,(congrArg (· +ex.length) (m3.trans l1)).trans cJ.symm,lr,rfl,rfl,rfl,b1.trans m4.symm,lV,lT,lS,λk lo hi hk e=>b2 k lo hi (m6 k _ (m4▸hk) e)⟩;refine nE (yh ha (bx e)) λz1 nM z2=>?_;refine ⟨z1,nM,z2,λp' hp' a o ha ho h=>?_⟩;have hp':objs'[j]?=some p':=Vc (bs:=bs) (nv:=nv) l2 (bz (lt_of_get e) (aI lr (by decide))) hp';have hj:j< Z.ob.length:=l1▸lt_of_get hp';refine cx (l:=objs) (f1▸hj) λp hp=>?_;cases f2 j i p ((qe hj).symm.trans e) hp with
 |mk ao q h1 h2 h3=>have aa:=af (z2.symm.trans h1);clear h1;subst aa;exact (hun.2 j p p' hp hp' o ((sq Co h2).2 (um h3 h))).mono (Ev rfl fa)
theorem Fn{f:St->Bool}{r:bG}(h:rc bB bB bB f cP cP bB bB r st=true):r= .next/\f st=true:=by
 cases r with
 |next=>exact ⟨rfl,h⟩
 |_=>exact aE h
theorem PZ{Y β:Type}{Q:Y->β->Prop}(n:Nat):∀{a:List Y} {b:List β},ct Q a b->ct Q (a.take n) (b.take n):=by
 induction n with
 |zero=>exact λ_=>.nil
 |succ n ih=>
  intro a b h;cases h with
  |nil=>exact .nil
  |cons h t=>exact .cons h (ih t)
theorem Rb{Y β:Type}{Q:Y->β->Prop}{a:List Y}{b:List β}{c:List Y}{d:List β}(h:ct Q a b)(h':ct Q c d):ct Q (a++c) (b++d):=by
 induction h with
 |nil=>exact h'
 |cons h t ih=>exact .cons h ih
theorem TF{l:List Int}:∀{b:Nat},(∀(j:Nat) z,l[j]?=some z->J.iI[b+j]?=some z)->ct (λ (e:AI) z=>e.ev J=some z) (mp .var (upTo l.length b)) l:=by
 induction l with
 |nil=>exact λ_=>.nil
 |cons z r ih=>exact λhp=>.cons (hp 0 z rfl) (ih λj z h=>dx _ 1 j▸hp (j+1) z h)
theorem UN{es:List AI}{zs:List Int}(h:ct (λ (e:AI) z=>e.ev J=some z) es zs):bX (NW.ev J) (mp .int es)=some (zs.map Note.int):=by
 induction h with
 |nil=>exact rfl
 |cons h t ih=>exact bQ (bQ h rfl) (bQ ih rfl)
noncomputable def nG(ns:List Int):List Int:=(ns++ [0]).take 40
theorem RV{ns:List Int}(hI:∀(j:Nat) z,ns[j]?=some z->J.iI[j]?=some z):bX (NW.ev J) (mp .int (zH ns.length))=some ((nG ns).map Note.int):=by unfold zH;rw [GX,cW];exact UN (PZ 40 (Rb (TF (b:=0) λj z h=>(bJ j).symm▸hI j z h) (.cons rfl .nil)))
theorem DT(ns:List Int):1<=(nG ns).length/\(nG ns).length<=40:=by unfold nG;refine ae Na (ae cJ ?_);exact ⟨Nat.le_min.mpr ⟨by decide,Nj 1 _⟩,Nk _ _⟩
theorem U0{ns:List Int}{p l:Nat}{sel:List Nat}(hI:∀(j:Nat) z,ns[j]?=some z->J.iI[j]?=some z):CorrD J (B4 p l ns.length) (J.sub sel ⟨[],[],[],[],[(nG ns).map Note.int],[]⟩) where
 iw:=aR aS
 sw:=aR aS
 vw:=aR aS
 ow:=aR aS
 pw:=aR (aO ⟨[],(nG ns).map Note.int,rfl,RV hI,rfl,by rw [Cm,dz];exact aI (DT ns).2 (by decide)⟩ aS)
 tw:=aR aS
 fz:=rfl
 wd:=rfl
inductive IP(P:Pr)(J:G)(s:Shared)(fa:Addr):Prop
 |mk (J':G) (R:Rel (P.with P.a₀ dN dN.mono) J' BW s) (h4:∀(j:Nat) a,j< 4->J.aA[j]?=some a->J'.aA[j]?=some a) (hn:fa∈J'.nf) (hf:J'.fz=J.fz):IP P J s fa
theorem acI{ns:List Int}{r:bG}(R:Rel P J st s)(h0:P.a₀= [])(hq:BJ ns.length r st=true)(hI:∀(j:Nat) z,ns[j]?=some z->J.iI[j]?=some z)(hf:J.aA[0]?=some fa)(hn:fa∈J.nf):r= .next/\IP P J s fa:=by
 refine au (Fn hq) λaZ h=>?_;have aa:=aZ;clear hq aZ;subst aa;refine ⟨rfl,?_⟩;refine aB h λh1 h=>?_;refine aF h λp _ h=>?_;refine aF h λt _ h=>?_;refine aB h λh2 h3=>?_;refine aB h2 λh2 h4=>?_;have I:=DX (Z:=B4 p t.2.2 ns.length) (ex:=[]) (bs:=[]) (nv:=0) (objs':=zW) (fa:=fa) R h3 h2 h4 (U0 hI) ⟨rfl,λj p p' e e' o h=>af (e.symm.trans e')▸h⟩ rfl (by decide) (bt rfl) rfl rfl (λ_ h=>nomatch h);refine au (DT ns) λl1 l2=>?_;refine ⟨_,R.cut (lb h1) I (λa h=>fe.mp h▸hn) (λa h=>by rw [h0] at h;exact nomatch h) (λa h=>⟨0,0,_,rfl,fe.mp h▸hf,rfl,_,_,rfl,by decide⟩) (.mk (nG ns) rfl l1 l2),λj a hj h=>map_getD ?_ h,.head _,rfl⟩
 match j,hj with
 |0,_=>rfl
 |1,_=>rfl
 |2,_=>rfl
 |3,_=>rfl
end
section
variable{P:Pr}{J J':G}{st st':St}{s:Shared}{fa:Addr}{w:Ow}{dd:Nat->SD}{V0:Nat->Option Int}{d:SD}{V:Nat->Option Int}
theorem aaN{k:Nat}{v:Value}(h:iC 1 k=true)(hv:VR J (.aY k) v):∃d,kS d/\J.tA[k % 1000000]?=some (eE d):=by
 have e:k=gM 1 (k % 1000000):=by exact yU (aH h)
 rw [e] at hv;refine bP ((kY (CM _ (by decide))).1 hv) λT t1 t2 _=>?_;refine am ((xZ t2 rfl:Hg T)) λd hd ai=>?_;have aa:=ai;clear t2 ai;subst aa;exact ⟨d,hd,t1⟩
theorem V7{xs:List AV}:∀{ks:List Nat} {us:List Value},bX gx xs=some ks->bF ks (iC 1)=true->ay J xs us->∃ds:List SD,ds.length=ks.length/\(∀d∈ds,kS d)/\∀(j k:Nat) d,ks[j]?=some k->ds[j]?=some d->J.tA[k % 1000000]?=some (eE d):=by
 induction xs with
 |nil=>exact λh _ _=>af h▸⟨[],rfl,λ_ h=>(nomatch h),λj k d e=>nomatch e⟩
 |cons x r ih=>
  intro ks us h hk hv;refine ah h λk h1 h=>?_;refine ah h λl h2 h=>?_;have aa:=af h;clear h;subst aa;refine au (mV (show bf (iC 1 k) (bF l (iC 1)) false=true from hk)) λk1 k2=>?_;refine bp hv.c λv us ai v1 v2=>?_;have aa:=ai;clear hv ai;subst aa;refine bP (ih h2 k2 v2) λds g1 g2 g3=>?_;refine am (aaN k1 (w5 h1▸v1)) λd d1 d2=>?_;refine ⟨d::ds,congrArg (· +1) g1,cT.mpr ⟨d1,g2⟩,λj k' d' e e'=>?_⟩;cases j with
  |zero=>exact af e▸af e'▸d2
  |succ j=>exact g3 j k' d' e e'
theorem G7(R:Rel P J st s){x:OW}(h:BT st x=true):∃o,x.ev J=some o:=by
 cases x with
 |cp k=>exact aE h
 |no=>exact ⟨none,rfl⟩
 |int e=>exact (js R.cY e h).imp' some λz hz=>bQ hz rfl
noncomputable def s9(x y:Option Int)(k:Nat):Option Int:=bf (ag k 0) x (bf (ag k 1) y none)
theorem Fk{l:List Nat}(h:l∈kH\/l∈kI):l.length<=10000:=by have q:∀{L:List (List Nat)},(L.all λx=>aM x.length 10000)=true->l∈L->l.length<=10000:=λh m=>bt (be.mp h l m);exact h.elim (q (by kernel_rfl)) (q (by kernel_rfl))
theorem V9(ok:cw w d):∀z∈so w d V,z.length<=10000:=by
 refine ti.mpr ⟨λz h=>?_,ti.mpr ⟨λz h=>?_,eH.mpr ?_⟩⟩
 ·refine am (oq.mp h) λe _ ai=>?_
  have aa:=ai;clear h ai;subst aa;exact bt rfl
 ·refine am (oq.mp h) λp _ ai=>?_
  have aa:=ai;clear h ai;subst aa;exact aI (rD ok (V:=V) p).msg (by decide)
 ·unfold SD.msg
  cases d.way w V with
  |ok=>exact ig _
  |step p=>exact aI (rD ok (V:=V) p).msg (by decide)
  |lj=>exact bt rfl
  |fC=>exact bt rfl
theorem T4{Y:Type}{Q:Y->Prop}{f:Nat->List Y}(h:∀j,∀z∈f j,Q z)(n:Nat):∀b,∀z∈cat f n b,Q z:=by
 induction n with
 |zero=>exact λb z h=>nomatch h
 |succ n ih=>exact λb=>ti.mpr ⟨h b,ih (b+1)⟩
theorem WU(ok:∀j,cw w (dd j)):∀z∈(sE w dd V0).sS,z.length<=10000:=ti.mpr ⟨cT.mpr ⟨Fk (.inl (ok 0).o1),eH.mpr (Fk (.inr (ok 0).o2))⟩,T4 (λj=>V9 (ok j)) 4 0⟩
theorem UZ{sel ls ks:List Nat}{x y:OW}{a b:List Nat}{ins:Bool}{ox oy:Option Int}(hx:x.ev J=some ox)(hy:y.ev J=some oy)(hs:∀(j k:Nat),ks[j]?=some k->j< 4/\J.tA[k % 1000000]?=some (eE (dd j))):CorrD J (B3 sel x y a b ks) (J.sub ls (sE ⟨a,b,ins⟩ dd (s9 ox oy))) where
 iw:=aR aS
 sw:=aR (aO ⟨a,rfl,rfl⟩ (aO ⟨b,rfl,rfl⟩ aS))
 vw:=aR aS
 ow:=aR (aO ⟨ox,rfl,hx⟩ (aO ⟨oy,rfl,hy⟩ aS))
 pw:=aR aS
 tw:=λj t h=>by have h:nth (mp (λk=>TW.at (k % 1000000)) ks) j=some t:=h;rw [dS,dD,ib] at h;refine am (mo.mp h) λk h1 ai=>?_;have aa:=ai;clear h ai;subst aa;refine au (hs j k h1) λh2 h3=>?_;exact ⟨eE (dd j),false,bW (dE h2),xa _,λq=>aE q,h3⟩
 fz:=rfl
 wd:=rfl
theorem Ue{o:Obj}{cap:Nat}{loc:Bool}{es es':List (Nm×EV)}(h:OR J o (.dict cap loc es))(hl:es'.length=es.length)(m:∀n r,DR J (lk n es) r->DR J (lk n es') r):OR J o (.dict cap loc es'):=by
 cases h with
 |mk en n h0 h1 h2 h3 h4 h=>exact ⟨en,n,hl▸h0,h1,h2,h3,h4,λx=>m _ _ (h x)⟩
theorem HV{n k:Nm}{e e':EV}{l l':List (Nm×EV)}(h1:∀r,DR J (some e) r->DR J (some e') r)(h2:∀r,DR J (lk n l) r->DR J (lk n l') r)(r:Option Value)(h:DR J (lk n ((k,e)::l)) r):DR J (lk n ((k,e')::l')) r:=by
 rw [jZ] at h ⊢;cases c:ag n k with
 |true=>rw [c] at h;exact h1 r h
 |false=>rw [c] at h;exact h2 r h
theorem G4{a b:AV}(h:∀v,VR J a v->VR J b v)(r:Option Value)(q:DR J (some (.val a)) r):DR J (some (.val b)) r:=q.imp λv q=>⟨q.1,h v q.2⟩
theorem UH{a b:List Nat}{o:Obj}(h4:J.tA[4]?=some (cK a))(h5:J.tA[5]?=some (cS b))(h:OR J o (rL (.val (cK a)) (.val (cS b)) 0)):OR J o (rL (.val (.aY 1000004)) (.val (.aY 1000005)) 0):=Ue h rfl λn=>HV (G4 λv q=>(kY (O:=0) (j:=4) (by decide)).2 ⟨_,h4,rfl,q⟩) (HV (G4 λv q=>(kY (O:=0) (j:=5) (by decide)).2 ⟨_,h5,rfl,q⟩) λ_ q=>q)
theorem TA{a:AV}:aV J a J a:=⟨rfl,λ_=>.rfl⟩
theorem VM{N:List Note}{j:Nat}(H:dk J w j d V N)(hj:j<=3):aV J (sr j) J (eE d):=
 have p:∀{o:Nat} {T:AV},o< 6->(m9 d)[o]?=some T->isAny T=false->aV J (slot j o) J T:=λho hT hx=>jr H hj ho hT hx TA
 iH rfl (aC (p (by decide) rfl rfl) (aC (p (by decide) rfl rfl) (aC (p (by decide) rfl rfl) (aC (p (by decide) rfl (C5 _ _)) bu))))
theorem Vz{m:Nat}{o:Obj}(g:fT w dd V0 J)(hs:∀j,j<=3->J.tA[j]?=some (eE (dd j)))(ok:∀j,kS (dd j))(hm:m<=4)(h:OR J o (.list none (mp (λj=>.aY (2000000+j)) (upTo m 0)))):OR J o (.list none (mp sr (upTo m 0))):=by refine ba h λvs n e h=>?_;refine ⟨vs,n,e,(iV (oM λj hj=>?_) _).1 h⟩;have h3:j<=3:=aen (bz (uB hj) hm);exact aV.trans (eQ (O:=1) (hs j h3) (dy h3 (by decide)) (uf (O:=1) ⟨dd j,ok j,rfl⟩) rfl λv=>.rfl) (VM (g j h3) h3).sym
theorem Vq{ins:Bool}{m:Nat}(g:fT w dd V0 J)(hs:∀j,j<=3->J.tA[j]?=some (eE (dd j)))(ok:∀j,kS (dd j))(hm:m<=4):ct (λp p'=>∀o,OR J o p->OR J o p') (Ih w.o1 w.o2 ins m) (zX ins m):=
 have i:∀{p:AO},∀o,OR J o p->OR J o p:=λ_ h=>h
 .cons i (.cons i (.cons i (.cons i (.cons i (.cons i (.cons i (.cons i (.cons (λo=>UH (g 0 (by decide)).k0 (g 0 (by decide)).k1) (.cons i (.cons i (.cons i (.cons i (.cons i (.cons (λo=>Vz g hs ok hm) (.cons i .nil)))))))))))))))
theorem Fb{a:List Nat}{C:List (List Nat)}(h:vo C a=true):a∈C:=by
 induction C with
 |nil=>exact aE h
 |cons x r ih=>
  have h:bf (ag (enc a) (enc x)) true (vo r a)=true:=h;cases c:ag (enc a) (enc x) with
  |true=>exact mK (aH c)▸ .head _
  |false=>rw [c] at h;exact .tail _ (ih h)
theorem Qf{i:Nat}{sel:List Nat}(h:HG st i=some sel):∃a b c d e f g k l m n o,sel= [a,b,c,d,e,f,g,k,l,m,n,o]:=by refine ah h λd _ h=>?_;refine ah h λb _ h=>?_;refine ah h λbd _ h=>?_;refine ah h λx1 _ h=>?_;refine ah h λx2 _ h=>?_;refine ah h λx3 _ h=>?_;refine ah h λx4 _ h=>?_;refine ah h λx5 _ h=>?_;refine ah h λx6 _ h=>?_;refine ah h λx7 _ h=>?_;refine ah h λx8 _ h=>?_;exact ⟨_,_,_,_,_,_,_,_,_,_,_,_,(af h).symm⟩
theorem WS:kS vM:=⟨ig _,ig _,ig _,λe=>⟨.head _,.head _⟩⟩
theorem Sn{q:Option Nat×List AV}{o:Obj}(h:OR J o (.list q.1 q.2)):∃us,ay J q.2 us:=by
 refine ba h λvs n _ h=>?_;cases c:q.1 with
 |none=>rw [c] at h;exact ⟨_,h⟩
 |some k=>rw [c] at h;cases h with |mk N p u h1 h2 h3 h4 h5=>exact ⟨_,h5⟩
inductive IO(P:Pr)(J:G)(s:Shared)(fa:Addr):Prop
 |mk (w:Ow) (dd:Nat->SD) (V0:Nat->Option Int) (m:Nat) (J':G) (h1:1<=m) (h2:m<=4) (R:Rel (P.with P.a₀ (fT w dd V0) fT.mono) J' (BX w.ins m) s) (h15:J'.aA[15]?=some fa) (hn:fa∈J'.nf) (hf:J'.fz=J.fz) (h4:∀(j:Nat) x,j< 4->J.aA[j]?=some x->x∈J'.aA):IO P J s fa
inductive Prog(J:G)(ks:List Nat):Prop
 |mk (dd:Nat->SD) (ok:∀j,kS (dd j)) (hs:∀(j k:Nat),ks[j]?=some k->j< 4/\J.tA[k % 1000000]?=some (eE (dd j))):Prog J ks
theorem Vy(R:Rel P J st s){p:Nat}{q:Option Nat×List AV}{ks:List Nat}(hp:p< st.n)(h:listAt st p=some q)(hk:bX gx q.2=some ks)(h1:bF ks (iC 1)=true)(h4:ks.length<=4):Prog J ks:=by
 refine bp (R.objs p _ hp (wK h)) λa o _ _ ho=>?_;refine aQ (Sn ho) λus hv=>?_;refine bP (V7 hk h1 hv) λds l k g=>?_;refine ⟨λj=>ds.getD j vM,λj=>?_,λj k e=>⟨bz (lt_of_get e) h4,?_⟩⟩
 ·show kS (ds.getD j vM)
  refine ae (Ca) ?_;cases c:ds[j]? with
  |none=>exact WS
  |some d=>exact k d (bx c)
 ·refine cx (l:=ds) (l▸lt_of_get e) λd hd=>?_
  exact (jY (d:=vM) hd).symm▸g j k d e hd
theorem acJ{r:bG}(R:Rel P J st s)(h0:P.a₀= [])(hq:kA r st=true)(hf:J.aA[0]?=some fa)(hn:fa∈J.nf):r= .next/\IO P J s fa:=by
 refine au (Fn hq) λaZ h=>?_;have aa:=aZ;clear hq aZ;subst aa;refine ⟨rfl,?_⟩;refine aB h λhx h=>?_;refine aF h λi _ h=>?_;refine aF h λo _ h=>?_;refine aF h λt _ h=>?_;refine aF h λp _ h=>?_;refine aF h λins _ h=>?_;refine aF h λsel es h=>?_;refine aF h λ_ _ h=>?_;refine aF h λa _ h=>?_;refine aF h λb _ h=>?_;refine aF h λks hks h=>?_;refine ah hks λq hq1 hq2=>?_;refine NA (Qf es) λx1 x2 x3 x4 x5 x6 x7 x8 x9 x10 x11 x12 adQ=>?_;subst adQ;refine aB h λh1 h=>?_;refine aB h1 λha h1=>?_;refine aB ha λha hb=>?_;refine aB h1 λnd at_=>?_;refine aB h λh2 h=>?_;refine aB h2 λh2 h3=>?_;refine aB h3 λh3 h4=>?_;refine aB h λhw hl=>?_;refine aB hw λhw1 hw2=>?_;refine aQ (G7 R hw1) λox hox=>?_;refine aQ (G7 R hw2) λoy hoy=>?_;have m1:1<=ks.length:=len_eq ks▸bt h3;have m4:ks.length<=4:=len_eq ks▸bt h4;have hp:p< st.n:=(yh at_ (i:=p) (bx (i:=14) rfl)).1;cases Vy R hp hq1 hq2 h2 m4 with
 |mk dd ok hs=>
 have okd:∀j,cw ⟨a,b,ins⟩ (dd j):=λj=>⟨Fb ha,Fb hb,(ok j).v,(ok j).L,(ok j).r,(ok j).D⟩;rw [len_eq] at hl;have gh:fT ⟨a,b,ins⟩ dd (s9 ox oy) (J.sub ([x1,x2,x3,x4,x5,x6,x7,x8,x9,x10,x11,x12,o,t,p,0]++ [1,2,3]) (sE ⟨a,b,ins⟩ dd (s9 ox oy))):=Uf (rd _ _ _) okd ⟨rfl,rfl⟩;have I:=DX (Z:=B3 [x1,x2,x3,x4,x5,x6,x7,x8,x9,x10,x11,x12,o,t,p,0] (uZ st t 121) (uZ st t 122) a b ks) (ex:=[1,2,3]) (bs:=nones 40) (nv:=102) (objs':=zX ins ks.length) (fa:=fa) R hl nd at_ (UZ hox hoy hs) (Vq (w:=⟨a,b,ins⟩) gh (λj hj=>bW (dE (fg hj))) ok m4).get (qF (xn (m:=10) (λj=>gc) 4)) (by decide) (bt rfl) rfl rfl (WU okd);refine ⟨⟨a,b,ins⟩,dd,s9 ox oy,ks.length,_,m1,m4,R.cut (lb hx) I (λa h=>fe.mp h▸hn) (λa h=>by rw [h0] at h;exact nomatch h) (λa h=>⟨15,0,_,rfl,fe.mp h▸hf,rfl,_,_,rfl,by decide⟩) (gh.mono (Ev rfl fa)),map_getD (j:=15) rfl hf,.head _,rfl,λj x hj e=>?_⟩;have q:∀{k:Nat},([x1,x2,x3,x4,x5,x6,x7,x8,x9,x10,x11,x12,o,t,p,0]++ [1,2,3])[k]?=some j->x∈(J.sub ([x1,x2,x3,x4,x5,x6,x7,x8,x9,x10,x11,x12,o,t,p,0]++ [1,2,3]) (sE ⟨a,b,ins⟩ dd (s9 ox oy))).aA:=λh=>bx (map_getD h e)
 match j,hj with
 |0,_=>exact q (k:=15) rfl
 |1,_=>exact q (k:=16) rfl
 |2,_=>exact q (k:=17) rfl
 |3,_=>exact q (k:=18) rfl
end
section
variable{P P':Pr}{J J':G}{st:St}{s:Shared}{A:Around}{fa:Addr}
theorem TH(hP:∀J,P.gh J->dN J):∀tk st k,IY tk st k=some true->Goal (eN P) P tk st k:=qy λa c args st k h=>by
 cases c1:ag a 998 with
 |true=>rw [c1] at h;exact aH c1▸Dc hP h
 |false=>rw [c1] at h;refine bb (show bf (ag a 1012) (AX c args st k) none=some true from h) λc2 h=>?_;exact aH c2▸VO hP h
theorem bj.to{c c':List (Nm×cL)}{l l':Nat}{env:Env}(F:bj P J (me c l) A env)(T:∀env,cA J (me c l).e env->cA J' (me c' l').e env)(ho:P'.outer=P.outer):bj P' J' (me c' l') A env:=by
 refine ⟨⟨F.c.depth,F.c.units,F.c.hd,?_⟩,T env F.e,F.top⟩;refine am F.c.frames λenvs h1 h2=>?_;refine ⟨envs,ho▸h1,?_⟩;cases h2 with
 |cons g t=>cases t;exact .cons (T _ g) .nil
theorem cA.toL{c c':List (Nm×cL)}{l l':Nat}{env:Env}(h:cA J (me c l).e env)(h0:J.aA[l]?=some fa)(h1:J'.aA[l']?=some fa)(hn:fa∈J'.nf)(hc:∀x:Str,ez J env.cells x (lk (nm x) c)->ez J' env.cells x (lk (nm x) c')):cA J' (me c' l').e env:=by refine bP h.frm λa g1 g2 _=>?_;have aa:=af (h0.symm.trans g1);clear g1;subst aa;exact ⟨h.scope,h.kind,af (h0.symm.trans h.loc)▸h1,h.glob,h.blt,⟨fa,h1,g2,hn⟩,λx=>hc x (h.cells x),h.code⟩
theorem Rw{env:Env}{x:Str}{l:List (Nm×cL)}(hl:∀p∈l,∃i,i< 4/\p.2= .at i)(a4:∀(j:Nat) a,j< 4->J.aA[j]?=some a->J'.aA[j]?=some a)(h:ez J env.cells x (lk (nm x) l)):ez J' env.cells x (lk (nm x) l):=by
 cases q:lk (nm x) l with
 |none=>trivial
 |some c=>refine am (hl _ (zO q)) λi hi e=>?_;obtain rfl:c= .at i:=e;rw [q] at h;refine am h λa z1 z2=>?_;exact ⟨a,z1,a4 i a hi z2⟩
noncomputable def stL(n:Nat):St:=sj n (.bw (jx n 0))
theorem XZ{n:Nat}{v:AV}(R:Rel P J (sj n v) s)(hfa:J.aA[0]?=some fa){a:Addr}(ha:a∈J.nf):a=fa:=by
 refine jw (R.nf a ha) λ_ _ g1 g2=>?_;refine aQ (fZ g1) λi hi=>?_;have i4:i< 4:=iZ (lt_of_get hi) R.bR;have no:(sj n v).get i=some (.cell none)->a=fa:=λh=>by refine ba (g2 i _ i4 h hi) λ_ _ q _=>?_;exact AO.noConfusion q
 match i,i4 with
 |0,_=>exact af (hi.symm.trans hfa)
 |1,_=>exact no rfl
 |2,_=>exact no rfl
 |3,_=>exact no rfl
theorem VI(ins:Bool){m:Nat}(h1:1<=m)(h4:m<=4):AT ins m=true:=by
 have hm:m∈ [1,2,3,4]:=by
  match m,h1,h4 with
  |1,_,_=>exact .head _
  |2,_,_=>exact .tail _ (.head _)
  |3,_,_=>exact .tail _ (.tail _ (.head _))
  |4,_,_=>exact .tail _ (.tail _ (.tail _ (.head _)))
 cases ins with
 |true=>exact be.mp acd m hm
 |false=>exact be.mp acb m hm
theorem abF{r:bG}(h:kB r st=true):r= .ret (.bool true):=by
 cases r with
 |ret v=>refine aF (show aj (boolOf v) (λb=>b)=true from h) λb z1 z2=>?_;exact ae (oA z1) (ae z2 rfl)
 |_=>exact aE h
theorem abK{w:Ow}{dd:Nat->SD}{V0:Nat->Option Int}{m:Nat}(hg:∀J,P.gh J->fT w dd V0 J)(h1:1<=m)(h4:m<=4):ng P frB (qc 16 ki) (BX w.ins m) kB:=rF (rest P true) (TO λj J hj h=>hg J h j hj) 4000 _ _ _ (VI w.ins h1 h4)
theorem abJ(hg:∀J,P.gh J->dN J):ng P mc (qd 15 (qc 1 ki)) BW kA:=rF (rest P true) (TH hg) 3000 _ _ _ ra
theorem abL{ns:List Int}(h:ns.length<=63):ng P mc (qd 1 ki) (stL ns.length) (BJ ns.length):=rF (rest P true) (oE P) 400 _ _ _ (be.mp ace ns.length (ic.mpr (fg h)))
theorem Sh{ns:List Int}{k:Kont}(hlen:ns.length<=63)(hk:∀st,k (.val (.bool true)) st=true)(h0:P.a₀= [])(hx:P.outer= [])(sM:∀J,P.gh J->∀(j:Nat) z,ns[j]?=some z->J.iI[j]?=some z):ng P mc ki (stL ns.length) (leave k):=by
 intro s0 n l hl J s A Q E env R F post;refine bP F.e.frm λfa hfa hfe hnf=>?_;have hfa:J.aA[0]?=some fa:=hfa;have el:l=l.take 1++((l.drop 1).take 15++l.drop 16):=by rw [show l.drop 16=(l.drop 1).drop 15 by rw [List.drop_drop],tq,tq]
 rw [el];refine G8 ?_;refine abL hlen s0 n (l.take 1) (by rw [<-hl, <-xe]) J s A _ E env R F λr st1 J1 s1 hq xo le1 R1=>?_;refine au (acI R1 h0 hq (sM J1 R1.gh) (aN le1.aA hfa) (le1.nf _ hnf)) λaZ K=>?_;have aa:=aZ;clear hq xo aZ;subst aa;cases K with
 |mk γA RA hA4 hnA hfA=>
 refine ⟨rfl,G8 ?_⟩;have a4:∀(j:Nat) a,j< 4->J.aA[j]?=some a->γA.aA[j]?=some a:=λj a hj h=>hA4 _ _ hj (aN le1.aA h);have FA:bj (P.with P.a₀ dN dN.mono) γA mc A env:=bj.to (P:=P) F (λenv' h=>h.toL hfa (a4 0 _ (by decide) hfa) hnA λx=>Rw (cT.mpr ⟨⟨1,by decide,rfl⟩,cT.mpr ⟨⟨2,by decide,rfl⟩,eH.mpr ⟨3,by decide,rfl⟩⟩⟩) a4) rfl;refine abJ (P:=P.with P.a₀ dN dN.mono) (λ_ h=>h) s0 n ((l.drop 1).take 15) (by rw [<-hl,xd,xe]) γA s1 A _ E env RA FA λr st2 J2 s2 hq xo le2 R2=>?_;have fa2:=aN le2.aA (a4 0 _ (by decide) hfa);refine au (acJ R2 h0 hq fa2 (le2.nf _ hnA)) λaZ K=>?_;have aa:=aZ;clear hq xo aZ;subst aa;cases K with
 |mk w dd V0 m JB m1 m4 RB hfB hnB ada hB4=>
 refine ⟨rfl,?_⟩;have FB:bj (P.with P.a₀ (fT w dd V0) fT.mono) JB frB A env:=bj.to (P:=P) F (λenv' h=>h.toL hfa hfB hnB λx _=>trivial) rfl;refine abK (P:=P.with P.a₀ (fT w dd V0) fT.mono) (λ_ h=>h) m1 m4 s0 n (l.drop 16) (by rw [<-hl,xd];rfl) JB s2 A Q E env RB FB λr st3 J3 s3 hq xo fW R3=>?_;have aa:=abF hq;clear hq xo;subst aa;intro v' hv'
 obtain ⟨R4,le4⟩:=R3.act (P0:=P) R rfl hx (λa o h=>fW.fz _ _ (by refine ae ada ?_;exact le2.fz _ _ (by refine ae hfA ?_;exact le1.fz _ _ h))) (λa ha=>by refine ae (XZ R hfa ha) ?_;exact fW.nf _ hnB) (λa ha=>by
  refine aQ (fZ ha) λj hj=>?_;have LX:j< 4:=iZ (lt_of_get hj) R.bR
  exact Ct.mem (hB4 j a LX (aN le2.aA (a4 _ _ LX hj))) fW.aA) (λa ha=>by rw [h0] at ha;exact nomatch ha)
 refine post (.ret (.bool true)) _ _ s3 (hk _) trivial le4 R4 v' ?_;exact hv'.out.symm▸ .bool true
end
noncomputable def nD(h:Heap):Heap:={h with objs:=h.objs.extract 0 1074}
theorem mD{h:Heap}{a:Nat}(ha:a< 1074):(nD h).get? a=h.get? a:=by
 have e:(nD h).objs[a]?=h.objs[a]?:=by
  show (h.objs.extract 0 1074)[a]?=_;refine ae (Array.getElem?_extract) ?_
  by_cases c:a< h.objs.size
  ·rw [if_pos (Nat.lt_sub_of_add_lt (Nat.lt_min.mpr ⟨ha,c⟩)),bJ]
  ·exact ae (if_neg λq=>c (bz q (aI (wx _ _) (Nc _ _)))) (ae (Array.getElem?_eq_none (i5 c)) rfl)
 unfold wB;exact ae e rfl
theorem EI{h:Heap}:(nD h).objs.size=min 1074 h.objs.size:=Array.size_extract
theorem Qb{h:Heap}{a:Nat}{o:Obj}(e:(nD h).get? a=some o):h.get? a=some o:=(mD (bz (iZ (cU e) EI) (Nk _ _))).symm.trans e
theorem wE{h:Heap}(hs:1074<=h.objs.size):(nD h).objs.size=1074:=EI.trans (Nat.min_eq_left hs)
theorem U2(P:Params):((K P).all (λp=>bh p.1 1074)&&(X3 P).all (λp=>bh p.1 1074))=true:=by kernel_rfl
theorem Dp{F:Frag}{a:Addr}{o:Obj}(h:F.all (λp=>bh p.1 1074)=true)(e:F.lookup a=some o):a< 1074:=by
 induction F with
 |nil=>exact aD e
 |cons p r ih=>
  refine aB (show (bh p.1 1074&&r.all (λp=>bh p.1 1074))=true from h) λh1 h2=>?_;rw [gP] at e;cases c:a==p.1 with
  |true=>exact eq_of_beq c▸d7.mp h1
  |false=>rw [c] at e;exact ih h2 e
theorem Left.cut{w:World}{h:Heap}(L:Left w h):Left w (nD h):=by refine aB (U2 w.params) λk1 k2=>?_;exact ⟨λa o e=>(mD (Dp k1 e)).trans (L.k a o e),λa o e=>(mD (Dp k2 e)).trans (L.x a o e),(eL (mD (by decide))).trans L.main,(eL (mD (by decide))).trans L.blt,(eL (mD (by decide))).trans L.st,λx hx=>(congrFun (mH (mD (by decide))) x).trans (L.boot x hx),ck (wE L.size).symm⟩
noncomputable def kL:Kont:=λr _=>aj (ob (fK r) λq=>bf q.1 none (boolOf q.2)) λb=>b
theorem abG{r:bG}{st:St}(h:kL r st=true):r= .val (.bool true):=by refine aF h λb h1 h2=>?_;refine ah h1 λq h3 h4=>?_;refine eO h4 λh5 h6=>?_;have e:=Ek (show fK r=some (q.1,q.2) from h3);rw [h5,oA h6,h2] at e;exact e
open Classical in
noncomputable def nO(l:Addr)(o:Obj)(a:Addr):Option Obj:=if a=l then some o else none
noncomputable def vR(w:World)(l:Addr)(o:Obj)(ns:List Int):G:=⟨[],ns,[],[],[],[],[],nO l o,w,[]⟩
noncomputable def ghL(ns:List Int)(J:G):Prop:=∀(j:Nat) z,ns[j]?=some z->J.iI[j]?=some z
noncomputable def iU(w:World)(s:Shared)(L:Left w s.heap)(l:Addr)(o:Obj)(ns:List Int):Pr:=⟨⟨w,nD s.heap,L.cut,L.cut.size⟩,s.heap,nO l o,[],s.os,[],ghL ns,λle h j z e=>aN le.iI (h j z e)⟩
section
variable{w:World}{s s':Shared}{l:Addr}{o o':Obj}{ns:List Int}{a:Addr}
theorem Xq(h:nO l o a=some o'):a=l/\o'=o:=by
 unfold nO at h
 by_cases c:a=l
 ·rw [if_pos c] at h;exact ⟨c,(af h).symm⟩
 ·rw [if_neg c] at h;exact aD h
theorem Xr(h:a≠l):nO l o a=none:=if_neg h
theorem adY(L:Left w s.heap)(hg:s.gens= #[])(hl:1074<=l)(ho:s.heap.get? l=some o):Rel (iU w s L l o ns) (vR w l o ns) (v6 ns.length) s where
 wf:=.nil 11
 eX:=.nil 11
 room:=ig _
 bR:=rfl
 cY:=rfl
 lenV:=rfl
 eU:=rfl
 old:=λb o' h _=>Qb h
 x3:=⟨#[],L.x _ _ rfl,.inl rfl⟩
 range:=λa h=>(nomatch h)
 nodup:=.nil
 objs:=λi ao h=>absurd h (oj _)
 apart:=λi ao a h=>absurd h (oj _)
 fz:=λa o' h=>by refine au (Xq h) λaZ aq=>?_;have aa:=aZ;clear aZ;subst aa;have aa:=aq;clear aq;subst aa;exact ⟨aI (ck (wE L.size)) hl,cU ho,o',ho,.inl rfl⟩
 eZ:=λa o' h=>h
 dh:=λa o' h=>.inl h
 frame:=λb o' h _ _ _=>⟨λ_=>h,o'.slots,h⟩
 size:=cG _
 big:=aI (ck (wE L.size)) L.size
 ff:=λenv h=>(nomatch h)
 exc:=λi h=>aD h
 fly:=λi C d h=>aD h
 wd:=rfl
 ej:=λz h=>(nomatch h)
 nf:=λa h=>(nomatch h)
 gh:=λj z h=>h
 an:=λa h=>(nomatch h)
 gens:=hg
 os_:=rfl
 bnd:=λk lo hi hk h=>aD h
 sub:=λp h=>(nomatch h)
 aU:=λp h=>(nomatch h)
theorem RW{J:G}{vs:List Value}(h:IntsAre vs ns):∀{b:Nat},(∀(j:Nat) z,ns[j]?=some z->J.iI[b+j]?=some z)->ay J (jx ns.length b) vs:=by
 induction h with
 |nil=>exact λ_=>.nil
 |cons n t h ih=>exact λhp=>.cons (.int t (hp 0 n rfl)) (ih λj z q=>dx _ 1 j▸hp (j+1) z q)
theorem adL{L:Left w s.heap}{J:G}{st:St}(hd:∀en n,o.data≠ .dict en n)(ho:s.heap.get? l=some o)(R:Rel (iU w s L l o ns) J st s'):OldK s.heap s'.heap:=by
 have key:∀b o',s.heap.get? b=some o'->asItWas s.heap s'.heap b o':=λb o' e=>by
  by_cases c:b=1056
  ·obtain rfl:⟨.none,none,.fields #[], #[]⟩=o':=af ((L.x 1056 _ rfl).symm.trans (c▸e))
   refine am R.x3 λvs h1 _=>?_;exact .inr (.inl ⟨⟨1060,_,_,L.k _ _ (DI w.params),rfl,rfl,c▸rfl⟩,rfl, #[],vs,rfl,c▸h1.trans (by exact ae Array.empty_append rfl)⟩)
  ·by_cases c':b=l
   ·obtain rfl:o=o':=af (ho.symm.trans (c'▸e))
    have hz:nO l o b=some o:=if_pos c';refine fB (R.fz b o (R.eZ b o hz)) λ_ _ o2 h1 h2=>?_;exact .inl (h2.plain hd▸h1)
   ·have hb:b ∉ J.aA:=λq=>(R.an b q).elim (λq=>nomatch q) λq=>absurd (cU e) (cV.mpr q)
    exact .inl ((R.frame b o' e hb (Xr c') c).1 (.inr λenv h=>(nomatch h)))
 refine ⟨key,λb o' e=>?_⟩;obtain h | ⟨-, -,vs,more, -,h⟩ | ⟨-, -,⟨o2,_,_,h, -⟩, -⟩:=key b o' e
 ·exact ⟨_,h⟩
 ·exact ⟨_,h⟩
 ·exact ⟨_,h⟩
end
theorem U4:Ex:=by
 intro w s l o vs n ns L hg hl ho eo hI hlen _;have R:=adY (ns:=ns) L hg hl ho;refine aQ (n6.mp (show (b6.get 1073).isSome=true by kernel_rfl)) λx hx=>?_;have body:ng (iU w s L l o ns) mc ki (stL ns.length) (leave kL):=Sh hlen (λ_=>rfl) rfl rfl λJ h=>h;have key:bZ (iU w s L l o ns) ⟨0,4,[],false⟩ 1073 [.bw (jx ns.length 0)] (v6 ns.length) kL:=by
  classical
  have H:ep (iU w s L l o ns) (λtk st k=>decide (Goal (eN (iU w s L l o ns)) (iU w s L l o ns) tk st k)):=jK (ek:=eN (iU w s L l o ns)) λtk st k h=>of_decide_eq_true h;refine DG H hx (by decide) (by decide) (by decide) ?_;have e:=XC (λtk st k=>decide (Goal (eN (iU w s L l o ns)) (iU w s L l o ns) tk st k)) ns.length (.bw (jx ns.length 0)) kL;rw [hx] at e;exact e.trans (decide_eq_true body)
 have F:dB (iU w s L l o ns) (vR w l o ns) ⟨0,4,[],false⟩ callerA:=⟨by decide+kernel,by decide+kernel,λ_=>rfl,[],rfl,.nil⟩;have hv:ay (vR w l o ns) [.bw (jx ns.length 0)] [.ref l]:=.cons (.bw (n:=n) (vs:=vs) ((if_pos rfl:nO l o l=some o).trans (congrArg some eo)) (RW hI λj z h=>(bJ j).symm▸h)) .nil;exact key.call (vR w l o ns) s callerA (λv s'=>v= .bool true/\OldK s.heap s'.heap/\s'.os=s.os/\AllBare s'.gens) (λ_ _=>False) (.ref 1073) [.ref l] R F (.glob 1073) hv λr st' J' s' hk xo le R'=>by have aa:=abG hk;clear hk xo;subst aa;intro v' hv';exact ⟨hv'.out,adL (by refine ae eo ?_;exact λen n q=>nomatch q) ho R',R'.os_,.of_eq R'.gens⟩
theorem wit:rr.promised:=by w_witness2
theorem Xw:hV.Holds:=holds_law said λs=>holds_of ⟨Vx,adR,adS,adT⟩ s wit U4
end Mine
theorem PySem.Challenge.cw_nz0529_01_holds : PySem.Challenge.rw_nz0529_01.Holds :=
 Mine.Xw
