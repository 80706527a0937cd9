import PyProof.Rows.All
import Wide.All
import OpenK.AllK
import Wide.FinOn
import PySem.Challenge.RW_no0280_01
set_option maxRecDepth 100000
set_option linter.unusedVariables false
set_option linter.unusedSimpArgs false
open Array renaming getElem?_eq_getElem->VJ,getElem?_setIfInBounds_ne->Y0,getElem?_toList->Ui,length_toList->Tt,toList_append->W6,toList_eraseIdxIfInBounds->YX,toList_inj->WM
open Bool renaming and_eq_true->WT,and_eq_true_iff->Yj,and_self->Yz,false->Zn,false_eq_true->Wv,noConfusion->Ti,not_not->YW,rec->Uv,true->Zm
open ForInStep renaming yield->Vv
open Int renaming fmod->Y6,natCast_nonneg->Xl,ofNat->Tn,ofNat_eq_natCast->Yp,toNat_natCast->Y8
open LawfulBEq renaming eq_of_beq->Vq
open List renaming all_eq_true->Xw,append_assoc->Vs,append_nil->U8,casesOn->XD,cons_append->Wg,drop_eq_nil_iff->Yl,drop_of_length_le->Wz,drop_zero->Yk,exists_cons_of_length_eq_add_one->U3,filterMap_cons->Yv,forIn_cons->XS,getElem?_append_left->Vt,getElem?_eq_none_iff->Uu,getElem?_eq_some_iff->TF,getElem?_set_ne->Us,getElem?_set_self->U7,getElem?_take->Wu,length_append->Ut,length_cons->Ug,length_drop->Zg,length_eq_zero_iff->Xv,length_map->Vl,length_set->Wq,length_take->Wd,lookup->Vo,lookup_cons->Uc,map_cons->UJ,mem_append->Ws,mem_append_left->W4,mem_cons->Ub,mem_cons_of_mem->T8,mem_cons_self->Uo,mem_map->Xd,mem_map_of_mem->Yw,mem_of_mem_drop->W3,mem_singleton->YB,nil_append->XK,nodup_cons->Vk,nodup_nil->Xi,not_mem_nil->Vn,rec->Ud,replicate->Ur,replicate_succ->Ys,take_append_drop->WR,take_of_length_le->Wx,zip_cons_cons->Xj
open Nat renaming add_assoc->Xp,add_comm->Zd,add_le_add_left->Vb,add_le_add_right->Wc,add_lt_of_lt_sub->W5,add_right_comm->TY,beq->Ue,beq_refl->Xh,ble->U9,ble_eq->WW,blt->Vx,casesOn->VB,eq_of_beq_eq_true->Uj,le_add_left->Ve,le_add_right->TX,le_of_add_right_le->XQ,le_of_ble_eq_true->Tw,le_of_eq->VN,le_of_lt->Wi,le_of_lt_succ->Vc,le_of_succ_le->Y7,le_refl->UG,le_sub_of_add_le->Uh,le_succ->Xn,le_trans->Te,lt_irrefl->YD,lt_of_add_left_lt->Yh,lt_of_add_right_lt->UL,lt_of_le_of_lt->U0,lt_of_lt_of_le->Ww,lt_of_sub_eq_succ->Yi,lt_of_succ_le->Zc,lt_of_succ_lt_succ->Vz,lt_succ_of_le->Uy,lt_trans->V6,min_eq_left->Yd,min_le_left->Yb,mul_le_mul_left->Wm,ne_of_lt->WK,not_lt_zero->W9,rec->Xm,sub_add_cancel->Uq,sub_le->YJ,succ->Ul,succ_le_succ->Wh,succ_pos->Y9,zero_add->XR,zero_le->U4
open Nat.succ renaming inj->Ux
open Ne renaming symm->Vd
open Option renaming elim->Yc,isNone_iff_eq_none->Wb,isSome_iff_exists->Wj,map_eq_some_iff->Xr,map_some->Xz,none->Zk,some->Tv,some->Zj
open Option.some renaming inj->Tf
open PyProof.Rows renaming spliced_more->W0
open PySem renaming Addr->Tc,Arguments->UW,Around->TV,BoolOp->W8,Builtin->Vp,Comprehension->Vh,DictEntry->Vm,Env->WD,ExceptHandler->Uk,FuncBody->Xg,FuncData->YG,GenState->YH,Heap->Tr,Model->Ze,NameKind->Tp,Obj->V3,Operator->Xf,OsState->Wo,Pos->Vw,Program->VF,PyData->SQ,Scope->Tz,Sem->Xk,Shared->S9,Stmt->T9,Str->Tq,Value->SX,World->V1,arm_assign_Name->Yu,builtinLookup_eq_fast->U5,call_meets->Xa,codeAny_call_builtin->Wn,codeAny_handlers_test->Yy,getMethod_builtin->Wf,lookupAlong_cons->Xc,sizeLine_eq->YM,typeLookup_eq->Zi,typeLookup_type->Vu,wpAny_attempt->Zh,wpAny_bind->S8,wpAny_bindName->Xo,wpAny_callSpecial?_slot->WL,wpAny_call_entry->Yg,wpAny_classOwn_exc->Xq,wpAny_execs_cons->Wr,wpAny_execs_nil->V8,wpAny_field->Vg,wpAny_getItem_of->Ye,wpAny_handleBy_cons->Zb,wpAny_holding->Ua,wpAny_load->Yo,wpAny_loadPart_at->TG,wpAny_mono->TJ,wpAny_mroOf_exc->Yx,wpAny_newObj_type->WY,wpAny_notIn_of->YK,wpAny_of_eq->YQ,wpAny_pure->Tg,wpAny_setField->WX,wpAny_standAt->Um,wpAny_throw->XJ,wpAny_truthy_bool->XH
open PySem.Builtin.List renaming listFitsIndex->YC,listTooLong->YT
open PySem.Builtin.Range renaming rangeSize->Y5
open PySem.Builtin.Str renaming strSliceIndices->WQ,tooLong->Xy
open PySem.Code renaming builtin->Y4,quiet_builtin->YF
open PySem.F renaming excBase_Exception->Wt,plainAttrs_list->Xu,store_Exception->Xx,typeOf_object_class->Yr
open PySem.Heap renaming get?_none_of_le->U6,get?_push_of_some->Tj,get?_push_size->Uw,get?_update_other->Vf,get?_update_self->Va,lt_size->Vr,size_push->V2
open PySem.NameKind renaming casesOn->VP,cell->VL
open PySem.Obj renaming cls_mapFields->Za,data_mapFields->VG,isFreed_of_fields->VH,mapFields->Vj,mapSeq->YL
open PySem.PyData renaming canLay0->Vi,canLayAll0->VK,depth->V9,depthAll->V4,int->Td,intsShort->V0,layable0->W2,list->Uz,showable->Wk,str->V7,weight->Yq
open PySem.Stmt renaming casesOn->YS
open PySem.Str renaming ofString->V5
open PySem.Value renaming builtin->Vy,isInt->Zf,isStrOf->Yt,none->VD,ref->TQ
open PySem.W renaming OpenLaw->Ym,SharedT->Yn,boot_heap->Wa
open PySem.W.WData renaming int->Xe
open String.Pos renaming Raw->YZ
open String.Pos.Raw renaming mk_le_mk->W7
namespace Mine
set_option tactic.hygienic false
set_option backward.match.sparseCases false
set_option bootstrap.genMatcherCode false
set_option genSizeOf false
set_option genSizeOfSpec false
set_option compiler.extract_closed false
section
open PySem PySem.W PyProof.Rows PyProof
theorem zN:(PySem.Challenge.rw_no0280_01:Ym).wellSaid=Zm:=by kernel_rfl
end
section
open PySem
inductive A3 (p0 p1 p2:Prop):Prop
 | mk:p0->p1->p2->A3 p0 p1 p2
inductive A4 (p0 p1 p2 p3:Prop):Prop
 | mk:p0->p1->p2->p3->A4 p0 p1 p2 p3
inductive A5 (p0 p1 p2 p3 p4:Prop):Prop
 | mk:p0->p1->p2->p3->p4->A5 p0 p1 p2 p3 p4
inductive A6 (p0 p1 p2 p3 p4 p5:Prop):Prop
 | mk:p0->p1->p2->p3->p4->p5->A6 p0 p1 p2 p3 p4 p5
inductive A7 (p0 p1 p2 p3 p4 p5 p6:Prop):Prop
 | mk:p0->p1->p2->p3->p4->p5->p6->A7 p0 p1 p2 p3 p4 p5 p6
inductive A8 (p0 p1 p2 p3 p4 p5 p6 p7:Prop):Prop
 | mk:p0->p1->p2->p3->p4->p5->p6->p7->A8 p0 p1 p2 p3 p4 p5 p6 p7
inductive X2 {α β:Type} (P:α->β->Prop):Prop
 | mk:∀ a b,P a b->X2 P
inductive X3 {α β γ:Type} (P:α->β->γ->Prop):Prop
 | mk:∀ a b c,P a b c->X3 P
inductive X4 {α β γ δ:Type} (P:α->β->γ->δ->Prop):Prop
 | mk:∀ a b c d,P a b c d->X4 P
inductive X5 {α β γ δ ε:Type} (P:α->β->γ->δ->ε->Prop):Prop
 | mk:∀ a b c d e,P a b c d e->X5 P
inductive X6 {α β γ δ ε ζ:Type} (P:α->β->γ->δ->ε->ζ->Prop):Prop
 | mk:∀ a b c d e f,P a b c d e f->X6 P
inductive X7 {α β γ δ ε ζ η:Type} (P:α->β->γ->δ->ε->ζ->η->Prop):Prop
 | mk:∀ a b c d e f g,P a b c d e f g->X7 P
inductive X8 {α β γ δ ε ζ η θ:Type} (P:α->β->γ->δ->ε->ζ->η->θ->Prop):Prop
 | mk:∀ a b c d e f g h,P a b c d e f g h->X8 P
inductive X9 {α β γ δ ε ζ η θ ι:Type} (P:α->β->γ->δ->ε->ζ->η->θ->ι->Prop):Prop
 | mk:∀ a b c d e f g h i,P a b c d e f g h i->X9 P
inductive Qy {α β γ δ ε ζ η θ ι κ:Type} (P:α->β->γ->δ->ε->ζ->η->θ->ι->κ->Prop):Prop
 | mk:∀ a b c d e f g h i j,P a b c d e f g h i j->Qy P
@[elab_as_elim] theorem b_{A:Sort _}{a b:A}{P:A->Prop}(h:a=b)(e:P b):P a:=h▸e
@[elab_as_elim] theorem A'{A:Sort _}{a b:A}{P:A->Prop}(h:b=a)(e:P b):P a:=h▸e
noncomputable def IS(x:List Nat):List Nat->Bool:=
 @Ud Nat (λ_=>List Nat->Bool) (λy=>@Ud Nat (λ_=>Bool) Zm (λ_ _ _=>Zn) y)
  (λa _ ih y=>@Ud Nat (λ_=>Bool) Zn (λb t _=>@Uv (λ_=>Bool) Zn (ih t) (Ue a b)) y) x
noncomputable def aw(a b:Tq):Bool:=IS a.cps.toList b.cps.toList
inductive V where
 | d (x:SQ)
 | val (v:SX)
 | ref (i:Nat)
 | tup (vs:List V)
 | rng (n:Int)
 | exc
inductive O where
 | a_ (xs:List SQ)
 | p_ (vs:List V)
 | dict (kvs:List (SQ×V))
 | inst (c:Tc) (fs:List (Tq×V))
 | clo (a:UW) (b:List T9) (sc:Tz) (cap:List (Tq×V))
 | dead
structure VS where
 o:List O
 x:Option (Tc×Int)
 cap:Nat
abbrev LE:=List (Tq×V)
inductive R (α:Type) where
 | ok (a:α) (s:VS)
 | exc (s:VS)
 | no
noncomputable def R.bind{α β:Type}(r:R α)(f:α->VS->R β):R β:=@R.rec α (λ_=>R β) f .exc .no r
noncomputable def ag{α β:Type}(o:Option α)(b:β)(f:α->β):β:=@Option.rec α (λ_=>β) b f o
noncomputable def hU(l:List Bool):Bool:=@Ud Bool (λ_=>Bool) Zm (λb _ ih=>@Uv (λ_=>Bool) Zn ih b) l
noncomputable def ac{β:Type}(b:Bool)(x y:β):β:=@Uv (λ_=>β) y x b
noncomputable def d6{α:Type}(f:α->Bool)(l:List α):Bool:=@Ud α (λ_=>Bool) Zm (λa _ ih=>ac (f a) ih Zn) l
inductive QW {α:Type} (o:Option α) (f:α->Bool):Prop
 | mk (a:α):o=Zj a->f a=Zm->QW o f
inductive QX {α γ:Type} (o:Option α) (f:α->R γ) (res:R γ):Prop
 | mk (a:α):o=Zj a->res=f a->QX o f res
inductive QY {α β:Type} (o:Option α) (f:α->Option β) (r:β):Prop
 | mk (a:α):o=Zj a->f a=Zj r->QY o f r
structure Qc (b x:Bool):Prop where
 l:b=Zm
 r:x=Zm
structure Rt {γ:Type} (b:Bool) (x res:R γ):Prop where
 l:b=Zm
 r:res=x
structure Ru {α:Type} (b:Bool) (x:Option α) (r:α):Prop where
 l:b=Zm
 r:x=Zj r
theorem aB{α:Type}{o:Option α}{f:α->Bool}(h:ag o Zn f=Zm):QW o f:=by
 cases o with
 | none=>exact Ti h
 | some a=>exact⟨a,rfl,h⟩
theorem av{b:Bool}{x:Bool}(h:ac b x Zn=Zm):Qc b x:=by
 cases b
 ·exact Ti h
 ·exact⟨rfl,h⟩
theorem bz{α:Type}{f:α->Bool}{l:List α}(h:d6 f l=Zm):∀ x∈l,f x=Zm:=by
 induction l with
 | nil=>exact λx hx=>absurd hx Vn
 | cons a l ih=>
  have ⟨h1,h2⟩:=av (show ac (f a) (d6 f l) Zn=Zm from h)
  intro x hx;cases hx with
  | head=>exact h1
  | tail _ hx=>exact ih h2 x hx
noncomputable def OX{α:Type}(o:Option α)(P:α->Prop):Prop:=@Option.rec α (λ_=>Prop) True P o
theorem OX.of{α:Type}{o:Option α}{P:α->Prop}{a:α}(h:OX o P)(e:o=Zj a):P a:=by subst e;exact h
noncomputable def L7(k:Option Tp):Bool:=ag k Zn λk=>@VP (λ_=>Bool) k Zn Zm Zm Zn Zn
noncomputable def mL(k:Option Tp):Bool:=ag k Zn λk=>@VP (λ_=>Bool) k Zm Zn Zn Zn Zn
noncomputable def Fo(k:Option Tp):Bool:=ag k Zn λk=>@VP (λ_=>Bool) k Zn Zn Zn Zn Zm
noncomputable def ip{α:Type}(l:List α):Bool:=@XD α (λ_=>Bool) l Zm λ_ _=>Zn
noncomputable def mK{α:Type}(l:List α):Option (α×List α):=@XD α (λ_=>Option (α×List α)) l Zk λa l=>Zj (a,l)
noncomputable def hG(e:Expr):Bool:=@Expr.casesOn (λ_=>Bool) e (λa b c=>Zn) (λa b c=>Zn) (λa b c d=>Zn) (λa b c=>Zn) (λa b c d=>Zn) (λa b c d=>Zn) (λa b c=>Zn) (λa b c=>Zn) (λa b c d=>Zn) (λa b c d=>Zn) (λa b c d f=>Zn) (λa b c d=>Zn) (λa b=>Zn) (λa b=>Zn) (λa b=>Zn) (λa b c d=>Zn) (λa b c d=>Zn) (λa b c d=>Zn) (λa b=>Zn) (λa b c=>Zn) (λa b c=>Zn) (λa b c=>Zn) (λa b=>Zm) (λa b=>Zn) (λa b=>Zn) (λa b c=>Zn) (λa b c d=>Zn)
noncomputable def cX(e:Expr):Bool:=@Expr.casesOn (λ_=>Bool) e (λa b c=>Zn) (λa b c=>Zn) (λa b c d=>Zn) (λa b c=>Zn) (λa b c d=>Zn) (λa b c d=>Zn) (λa b c=>Zn) (λa b c=>Zn) (λa b c d=>Zn) (λa b c d=>Zn) (λa b c d f=>Zn) (λa b c d=>Zn) (λa b=>Zn) (λa b=>Zn) (λa b=>Zn) (λa b c d=>Zn) (λa b c d=>Zm) (λa b c d=>Zn) (λa b=>Zn) (λa b c=>Zn) (λa b c=>Zn) (λa b c=>Zn) (λa b=>Zn) (λa b=>Zn) (λa b=>Zn) (λa b c=>Zn) (λa b c d=>Zn)
noncomputable def zj(e:Expr):Bool:=@Expr.casesOn (λ_=>Bool) e (λa b c=>Zn) (λa b c=>Zn) (λa b c d=>Zn) (λa b c=>Zn) (λa b c d=>Zn) (λa b c d=>Zn) (λa b c=>Zn) (λa b c=>Zn) (λa b c d=>Zn) (λa b c d=>Zn) (λa b c d f=>Zn) (λa b c d=>Zn) (λa b=>Zn) (λa b=>Zn) (λa b=>Zn) (λa b c d=>Zn) (λa b c d=>Zn) (λa b c d=>Zn) (λa b=>Zn) (λa b c=>Zn) (λa b c=>Zn) (λa b c=>Zn) (λa b=>Zn) (λa b=>Zn) (λa b=>Zm) (λa b c=>Zn) (λa b c d=>Zn)
noncomputable def eA(e:Expr):Bool:=@Expr.casesOn (λ_=>Bool) e (λa b c=>Zn) (λa b c=>Zn) (λa b c d=>Zn) (λa b c=>Zn) (λa b c d=>Zn) (λa b c d=>Zn) (λa b c=>Zn) (λa b c=>Zn) (λa b c d=>Zm) (λa b c d=>Zm) (λa b c d f=>Zm) (λa b c d=>Zn) (λa b=>Zn) (λa b=>Zn) (λa b=>Zn) (λa b c d=>Zn) (λa b c d=>Zn) (λa b c d=>Zn) (λa b=>Zn) (λa b c=>Zn) (λa b c=>Zn) (λa b c=>Zn) (λa b=>Zn) (λa b=>Zn) (λa b=>Zn) (λa b c=>Zn) (λa b c d=>Zn)
noncomputable def lJ(e:Expr):Bool:=@Expr.casesOn (λ_=>Bool) e (λa b c=>Zn) (λa b c=>Zn) (λa b c d=>Zn) (λa b c=>Zn) (λa b c d=>Zn) (λa b c d=>Zn) (λa b c=>Zn) (λa b c=>Zn) (λa b c d=>Zn) (λa b c d=>Zn) (λa b c d f=>Zn) (λa b c d=>Zn) (λa b=>Zn) (λa b=>Zn) (λa b=>Zn) (λa b c d=>Zn) (λa b c d=>Zn) (λa b c d=>Zn) (λa b=>Zn) (λa b c=>Zn) (λa b c=>Zn) (λa b c=>Zn) (λa b=>Zn) (λa b=>Zn) (λa b=>Zm) (λa b c=>Zm) (λa b c d=>Zn)
noncomputable def eM(e:Expr):Option (Tq×Vw):=@Expr.casesOn (λ_=>Option (Tq×Vw)) e (λa b c=>Zk) (λa b c=>Zk) (λa b c d=>Zk) (λa b c=>Zk) (λa b c d=>Zk) (λa b c d=>Zk) (λa b c=>Zk) (λa b c=>Zk) (λa b c d=>Zk) (λa b c d=>Zk) (λa b c d f=>Zk) (λa b c d=>Zk) (λa b=>Zk) (λa b=>Zk) (λa b=>Zk) (λa b c d=>Zk) (λa b c d=>Zk) (λa b c d=>Zk) (λa b=>Zk) (λa b c=>Zk) (λa b c=>Zk) (λa b c=>Zk) (λa b=>Zk) (λa b=>Zj (a,b)) (λa b=>Zk) (λa b c=>Zk) (λa b c d=>Zk)
theorem fK(e:Expr):OX (eM e) λp=>e = .Name p.1 p.2:=@Expr.casesOn (λe=>OX (eM e) λp=>e = .Name p.1 p.2) e (λa b c=>trivial) (λa b c=>trivial) (λa b c d=>trivial) (λa b c=>trivial) (λa b c d=>trivial) (λa b c d=>trivial) (λa b c=>trivial) (λa b c=>trivial) (λa b c d=>trivial) (λa b c d=>trivial) (λa b c d f=>trivial) (λa b c d=>trivial) (λa b=>trivial) (λa b=>trivial) (λa b=>trivial) (λa b c d=>trivial) (λa b c d=>trivial) (λa b c d=>trivial) (λa b=>trivial) (λa b c=>trivial) (λa b c=>trivial) (λa b c=>trivial) (λa b=>trivial) (λa b=>rfl) (λa b=>trivial) (λa b c=>trivial) (λa b c d=>trivial)
noncomputable def nh(e:Expr):Option (Expr×List Expr×List Keyword×Vw):=@Expr.casesOn (λ_=>Option (Expr×List Expr×List Keyword×Vw)) e (λa b c=>Zk) (λa b c=>Zk) (λa b c d=>Zk) (λa b c=>Zk) (λa b c d=>Zk) (λa b c d=>Zk) (λa b c=>Zk) (λa b c=>Zk) (λa b c d=>Zk) (λa b c d=>Zk) (λa b c d f=>Zk) (λa b c d=>Zk) (λa b=>Zk) (λa b=>Zk) (λa b=>Zk) (λa b c d=>Zk) (λa b c d=>Zj (a,b,c,d)) (λa b c d=>Zk) (λa b=>Zk) (λa b c=>Zk) (λa b c=>Zk) (λa b c=>Zk) (λa b=>Zk) (λa b=>Zk) (λa b=>Zk) (λa b c=>Zk) (λa b c d=>Zk)
theorem DP(e:Expr):OX (nh e) λp=>e = .Call p.1 p.2.1 p.2.2.1 p.2.2.2:=@Expr.casesOn (λe=>OX (nh e) λp=>e = .Call p.1 p.2.1 p.2.2.1 p.2.2.2) e (λa b c=>trivial) (λa b c=>trivial) (λa b c d=>trivial) (λa b c=>trivial) (λa b c d=>trivial) (λa b c d=>trivial) (λa b c=>trivial) (λa b c=>trivial) (λa b c d=>trivial) (λa b c d=>trivial) (λa b c d f=>trivial) (λa b c d=>trivial) (λa b=>trivial) (λa b=>trivial) (λa b=>trivial) (λa b c d=>trivial) (λa b c d=>rfl) (λa b c d=>trivial) (λa b=>trivial) (λa b c=>trivial) (λa b c=>trivial) (λa b c=>trivial) (λa b=>trivial) (λa b=>trivial) (λa b=>trivial) (λa b c=>trivial) (λa b c d=>trivial)
noncomputable def fP(e:Expr):Option (Expr×Tq×Vw):=@Expr.casesOn (λ_=>Option (Expr×Tq×Vw)) e (λa b c=>Zk) (λa b c=>Zk) (λa b c d=>Zk) (λa b c=>Zk) (λa b c d=>Zk) (λa b c d=>Zk) (λa b c=>Zk) (λa b c=>Zk) (λa b c d=>Zk) (λa b c d=>Zk) (λa b c d f=>Zk) (λa b c d=>Zk) (λa b=>Zk) (λa b=>Zk) (λa b=>Zk) (λa b c d=>Zk) (λa b c d=>Zk) (λa b c d=>Zk) (λa b=>Zk) (λa b c=>Zk) (λa b c=>Zj (a,b,c)) (λa b c=>Zk) (λa b=>Zk) (λa b=>Zk) (λa b=>Zk) (λa b c=>Zk) (λa b c d=>Zk)
theorem rl(e:Expr):OX (fP e) λp=>e = .Attribute p.1 p.2.1 p.2.2:=@Expr.casesOn (λe=>OX (fP e) λp=>e = .Attribute p.1 p.2.1 p.2.2) e (λa b c=>trivial) (λa b c=>trivial) (λa b c d=>trivial) (λa b c=>trivial) (λa b c d=>trivial) (λa b c d=>trivial) (λa b c=>trivial) (λa b c=>trivial) (λa b c d=>trivial) (λa b c d=>trivial) (λa b c d f=>trivial) (λa b c d=>trivial) (λa b=>trivial) (λa b=>trivial) (λa b=>trivial) (λa b c d=>trivial) (λa b c d=>trivial) (λa b c d=>trivial) (λa b=>trivial) (λa b c=>trivial) (λa b c=>rfl) (λa b c=>trivial) (λa b=>trivial) (λa b=>trivial) (λa b=>trivial) (λa b c=>trivial) (λa b c d=>trivial)
noncomputable def dK(e:Expr):Option (Option Expr×Option Expr×Option Expr):=@Expr.casesOn (λ_=>Option (Option Expr×Option Expr×Option Expr)) e (λa b c=>Zk) (λa b c=>Zk) (λa b c d=>Zk) (λa b c=>Zk) (λa b c d=>Zk) (λa b c d=>Zk) (λa b c=>Zk) (λa b c=>Zk) (λa b c d=>Zk) (λa b c d=>Zk) (λa b c d f=>Zk) (λa b c d=>Zk) (λa b=>Zk) (λa b=>Zk) (λa b=>Zk) (λa b c d=>Zk) (λa b c d=>Zk) (λa b c d=>Zk) (λa b=>Zk) (λa b c=>Zk) (λa b c=>Zk) (λa b c=>Zk) (λa b=>Zk) (λa b=>Zk) (λa b=>Zk) (λa b c=>Zk) (λa b c d=>Zj (a,b,c))
theorem xH(e:Expr):OX (dK e) λp=>∃ q,e = .Slice p.1 p.2.1 p.2.2 q:=@Expr.casesOn (λe=>OX (dK e) λp=>∃ q,e = .Slice p.1 p.2.1 p.2.2 q) e (λa b c=>trivial) (λa b c=>trivial) (λa b c d=>trivial) (λa b c=>trivial) (λa b c d=>trivial) (λa b c d=>trivial) (λa b c=>trivial) (λa b c=>trivial) (λa b c d=>trivial) (λa b c d=>trivial) (λa b c d f=>trivial) (λa b c d=>trivial) (λa b=>trivial) (λa b=>trivial) (λa b=>trivial) (λa b c d=>trivial) (λa b c d=>trivial) (λa b c d=>trivial) (λa b=>trivial) (λa b c=>trivial) (λa b c=>trivial) (λa b c=>trivial) (λa b=>trivial) (λa b=>trivial) (λa b=>trivial) (λa b c=>trivial) (λa b c d=>⟨_,rfl⟩)
noncomputable def gW(e:Expr):Option (Expr×List Vh×Tz×Vw):=@Expr.casesOn (λ_=>Option (Expr×List Vh×Tz×Vw)) e (λa b c=>Zk) (λa b c=>Zk) (λa b c d=>Zk) (λa b c=>Zk) (λa b c d=>Zk) (λa b c d=>Zk) (λa b c=>Zk) (λa b c=>Zk) (λa b c d=>Zj (a,b,c,d)) (λa b c d=>Zk) (λa b c d f=>Zk) (λa b c d=>Zk) (λa b=>Zk) (λa b=>Zk) (λa b=>Zk) (λa b c d=>Zk) (λa b c d=>Zk) (λa b c d=>Zk) (λa b=>Zk) (λa b c=>Zk) (λa b c=>Zk) (λa b c=>Zk) (λa b=>Zk) (λa b=>Zk) (λa b=>Zk) (λa b c=>Zk) (λa b c d=>Zk)
theorem CW(e:Expr):OX (gW e) λp=>e = .ListComp p.1 p.2.1 p.2.2.1 p.2.2.2:=@Expr.casesOn (λe=>OX (gW e) λp=>e = .ListComp p.1 p.2.1 p.2.2.1 p.2.2.2) e (λa b c=>trivial) (λa b c=>trivial) (λa b c d=>trivial) (λa b c=>trivial) (λa b c d=>trivial) (λa b c d=>trivial) (λa b c=>trivial) (λa b c=>trivial) (λa b c d=>rfl) (λa b c d=>trivial) (λa b c d f=>trivial) (λa b c d=>trivial) (λa b=>trivial) (λa b=>trivial) (λa b=>trivial) (λa b c d=>trivial) (λa b c d=>trivial) (λa b c d=>trivial) (λa b=>trivial) (λa b c=>trivial) (λa b c=>trivial) (λa b c=>trivial) (λa b=>trivial) (λa b=>trivial) (λa b=>trivial) (λa b c=>trivial) (λa b c d=>trivial)
inductive Fl where
 | next|brk|cont
 | ret (v:V)
noncomputable def ak(l:LE)(x:Tq):Option V:=
 @Ud (Tq×V) (λ_=>Option V) Zk (λp _ ih=>@Uv (λ_=>Option V) ih (Zj p.2) (aw p.1 x)) l
noncomputable def aR(l:LE)(x:Tq)(v:V):LE:=
 @Ud (Tq×V) (λ_=>LE) [(x,v)] (λp r ih=>@Uv (λ_=>LE) (p::ih) ((p.1,v)::r) (aw p.1 x)) l
noncomputable def f0:LE->Tq->LE
 | [],_=>[]
 | (y,u)::r,x=>match aw y x with
  | true=>f0 r x
  | false=>(y,u)::f0 r x
noncomputable def ah(l:List (Tq×Tp))(x:Tq):Option Tp:=
 @Ud (Tq×Tp) (λ_=>Option Tp) Zk (λp _ ih=>@Uv (λ_=>Option Tp) ih (Zj p.2) (aw p.1 x)) l
noncomputable def f9{α:Type}(l:List α):Nat->Option α:=
 @Ud α (λ_=>Nat->Option α) (λ_=>Zk) (λa _ ih n=>@Xm (λ_=>Option α) (Zj a) (λm _=>ih m) n) l
noncomputable def bb{α:Type}(l:List α)(n:Nat)(b:α):List α:=
 @Ud α (λ_=>Nat->List α) (λ_=>[]) (λa l ih n=>@Xm (λ_=>List α) (b::l) (λm _=>a::ih m) n) l n
noncomputable def len{α:Type}(l:List α):Nat:=@Ud α (λ_=>Nat) 0 (λ_ _ n=>Ul n) l
noncomputable def VS.get(s:VS)(i:Nat):Option O:=f9 s.o i
noncomputable def VS.put(s:VS)(i:Nat)(x:O):VS:=⟨bb s.o i x,s.x,s.cap⟩
noncomputable def VS.new(s:VS)(x:O):R V := .ok (.ref (len s.o)) ⟨s.o++[x],s.x,s.cap⟩
noncomputable def VS.pay(s:VS)(f:VS->R α):R α:=@VB (λ_=>R α) s.cap .no λn=>f ⟨s.o,s.x,n⟩
noncomputable def gR(v:V):Option SQ:=match v with
 | .d x=>Zj x
 | _=>Zk
noncomputable def ff(vs:List V):Option (List SQ):=@Ud V (λ_=>Option (List SQ)) (Zj []) (λv _ ih=>ag (gR v) Zk λx=>ag ih Zk λl=>Zj (x::l)) vs
noncomputable def gS(vs:List V):V:=ag (ff vs) (.tup vs) λl => .d (.tuple l)
noncomputable def ij(vs:List V):O:=ag (ff vs) (.p_ vs) .a_
noncomputable def VS.newL(s:VS)(vs:List V):R V:=ac (U9 (len vs) 1000) (s.new (ij vs)) .no
noncomputable def fV(kvs:List (SQ×V)):Option (List (SQ×SQ)):=@Ud (SQ×V) (λ_=>Option (List (SQ×SQ))) (Zj []) (λp _ ih=>ag (gR p.2) Zk λx=>ag ih Zk λl=>Zj ((p.1,x)::l)) kvs
noncomputable def qj(f:V->V)(vs:List V):List V:=@Ud V (λ_=>List V) [] (λv _ ih=>f v::ih) vs
noncomputable def g7(f:V->V)(kvs:List (SQ×V)):List (SQ×V):=@Ud (SQ×V) (λ_=>List (SQ×V)) [] (λp _ ih=>(p.1,f p.2)::ih) kvs
noncomputable def tn(f:V->V)(x:O):Option SQ:=match x with
 | .a_ xs=>Zj (.list xs)
 | .p_ vs=>ag (ff (qj f vs)) Zk λl=>Zj (.list l)
 | .dict kvs=>ag (fV (g7 f kvs)) Zk λl=>Zj (.dict l)
 | _=>Zk
noncomputable def Km(s:VS)(mark:Nat)(f:V->V)(v:V):V:=match v with
 | .ref i=>ac (U9 mark i) (ag (ag (s.get i) Zk (tn f)) (.ref i) .d) (.ref i)
 | .tup vs=>gS (qj f vs)
 | v=>v
noncomputable def Ll(s:VS)(mark:Nat)(n:Nat)(v:V):V:=@Xm (λ_=>V->V) (λv=>v) (λ_ ih=>Km s mark ih) n v
mutual
noncomputable def cM(mark:Nat):V->Bool
 | .ref i=>Vx i mark
 | .tup vs=>il mark vs
 | .d _=>Zm
 | .val _=>Zm
 | .rng _=>Zm
 | .exc=>Zm
noncomputable def il(mark:Nat):List V->Bool
 | []=>Zm
 | v::r=>ac (cM mark v) (il mark r) Zn
end
noncomputable def pJ(mark:Nat)(fs:List (Tq×V)):Bool:=@Ud (Tq×V) (λ_=>Bool) Zm (λp _ ih=>ac (cM mark p.2) ih Zn) fs
noncomputable def dg(mark:Nat)(fs:List (SQ×V)):Bool:=@Ud (SQ×V) (λ_=>Bool) Zm (λp _ ih=>ac (cM mark p.2) ih Zn) fs
noncomputable def oI(mark:Nat):O->Bool
 | .a_ _=>Zm
 | .dead=>Zm
 | .p_ vs=>il mark vs
 | .dict kvs=>dg mark kvs
 | .inst _ fs=>pJ mark fs
 | .clo _ _ _ fs=>pJ mark fs
noncomputable def eL(mark:Nat)(n:Nat)(l:List O):Bool:=@Xm (λ_=>List O->Bool) (λ_=>Zm) (λ_ ih l=>ag (mK l) Zm λp=>ac (oI mark p.1) (ih p.2) Zn) n l
noncomputable def cut{α:Type}(n:Nat)(l:List α):List α:=@Xm (λ_=>List α->List α) (λ_=>[]) (λ_ ih l=>ag (mK l) [] λp=>p.1::ih p.2) n l
noncomputable def oy(ns:List (Tq×Tp))(mark:Nat)(le:LE):Option LE:=@Ud (Tq×V) (λ_=>Option LE) (Zj [])
 (λp r ih=>ag ih Zk λl=>ac (cM mark p.2) (Zj (p::l)) (ac (mL (ah ns p.1)) (ag (ak r p.1) (Zj l) λ_=>Zk) Zk)) le
noncomputable def cz(mark:Nat)(v:V)(s:VS):R V:=ac (Ue (len s.o) mark) (.ok v s) (ac (eL mark mark s.o) (ac (cM mark (Ll s mark 40 v)) (.ok (Ll s mark 40 v) ⟨cut mark s.o,s.x,s.cap⟩) (.ok v s)) (.ok v s))
noncomputable def fE(ns:List (Tq×Tp))(mark:Nat)(le:LE)(s:VS):LE×VS:=ac (Ue (len s.o) mark) (le,s) (ac (eL mark mark s.o) (ag (oy ns mark le) (le,s) λle=>(le,⟨cut mark s.o,s.x,s.cap⟩)) (le,s))
inductive Ek where
 | run|io|eof
structure Fn where
 params:List Tq
 Pd:List V
 body:List T9
 scope:Tz
structure Cl where
 init:Option Tc
 meths:List (Tq×Tc)
 attrs:List Tq
 exc:Option Ek
structure Tab where
 glob:Tq->Option V
 fn:Tc->Option Fn
 cl:Tc->Option Cl
 sub:Tc->Tc->Option Bool
abbrev eR:=Tc->Option (List V->VS->R V)
structure It where
 ev:Expr->Tz->LE->VS->R V
 te:Expr->Tz->LE->VS->R Bool
 es:List Expr->Tz->LE->VS->R (List V)
 ts:W8->List Expr->Tz->LE->VS->R Bool
 ex:List T9->Tz->LE->VS->R (Fl×LE)
 cl:V->List V->VS->R V
noncomputable def bR(a b:Int):Bool:=match a,b with
 | .ofNat m,.ofNat n=>Ue m n
 | .negSucc m,.negSucc n=>Ue m n
 | .ofNat _,.negSucc _=>Zn
 | .negSucc _,.ofNat _=>Zn
noncomputable def l8(a b:Int):Bool:=match a,b with
 | .ofNat m,.ofNat n=>U9 m n
 | .negSucc m,.negSucc n=>U9 n m
 | .ofNat _,.negSucc _=>Zn
 | .negSucc _,.ofNat _=>Zm
noncomputable def qp(x:SQ):Bool:=match Vi x with
 | true=>U9 (V9 x) 100
 | false=>Zn
noncomputable def cS:SQ->Option Int
 | .int i=>Zj i
 | _=>Zk
noncomputable def gY:SQ->Option Tq
 | .str x=>Zj x
 | _=>Zk
noncomputable def iW:SQ->Option (List SQ)
 | .list xs=>Zj xs
 | _=>Zk
noncomputable def Gy:SQ->Option (List SQ)
 | .tuple xs=>Zj xs
 | _=>Zk
noncomputable def BG:SQ->Option (List (SQ×SQ))
 | .dict kvs=>Zj kvs
 | _=>Zk
noncomputable def qP(x y:SQ):Option Bool:=ac (qp x) (ac (qp y) (Zj (SQ.eqv x y)) Zk) Zk
noncomputable def D8(x y:SQ):Option Bool:=ag (cS x) (ag (gY x) (qP x y) λp=>ag (gY y) (qP x y) λq=>Zj (aw p q)) λi=>ag (cS y) (qP x y) λj=>Zj (bR i j)
noncomputable def pZ:SQ->SQ->Bool
 | .str x,.str y=>aw x y
 | .int i,.int j=>bR i j
 | .tuple [.str a,.str b],.tuple [.str c,.str e]=>match aw a c with
  | true=>aw b e
  | false=>Zn
 | _,_=>Zn
noncomputable def fY(l:List (SQ×V))(x:SQ):Option V:=
 @Ud (SQ×V) (λ_=>Option V) Zk (λp _ ih=>@Uv (λ_=>Option V) ih (Zj p.2) (pZ p.1 x)) l
noncomputable def cm(l:List (SQ×V))(x:SQ)(v:V):List (SQ×V):=
 @Ud (SQ×V) (λ_=>List (SQ×V)) [(x,v)] (λp r ih=>@Uv (λ_=>List (SQ×V)) (p::ih) ((p.1,v)::r) (pZ p.1 x)) l
noncomputable def mu(l:List (SQ×SQ))(x:SQ):Option SQ:=
 @Ud (SQ×SQ) (λ_=>Option SQ) Zk (λp _ ih=>@Uv (λ_=>Option SQ) ih (Zj p.2) (pZ p.1 x)) l
noncomputable def gu:SQ->Bool
 | .str _=>Zm
 | _=>Zn
noncomputable def kj:SQ->Bool
 | .int _=>Zm
 | _=>Zn
noncomputable def yj:SQ->Bool
 | .tuple [.str _,.str _]=>Zm
 | _=>Zn
noncomputable def be{α:Type}(f:SQ->Bool)(l:List (SQ×α)):Bool:=
 @Ud (SQ×α) (λ_=>Bool) Zm (λp _ ih=>@Uv (λ_=>Bool) Zn ih (f p.1)) l
noncomputable def xh{α:Type}(kvs:List (SQ×α))(k:SQ):Bool:=match k with
 | .str _=>be gu kvs
 | .int _=>be kj kvs
 | .tuple [.str _,.str _]=>be yj kvs
 | _=>Zn
noncomputable def qU(kvs:List (SQ×SQ))(k:SQ):Bool:=match k with
 | .str _=>be gu kvs
 | .int _=>be kj kvs
 | _=>Zn
noncomputable def cR:List (SQ×SQ)->List (SQ×V)
 | []=>[]
 | (k,x)::r=>(k,.d x)::cR r
noncomputable def i5:SQ->Bool
 | .none=>Zm
 | _=>Zn
noncomputable def isNone:V->Option Bool
 | .d x=>Zj (i5 x)
 | .val _=>Zk
 | _=>Zj Zn
noncomputable def Bw:O->Option SQ
 | .a_ xs=>Zj (.list xs)
 | _=>Zk
noncomputable def cL(s:VS):V->Option SQ
 | .d x=>Zj x
 | .ref i=>ag (s.get i) Zk Bw
 | _=>Zk
noncomputable def oV(s:VS)(v:V):Option (List SQ):=ag (cL s v) Zk iW
noncomputable def fL:List SQ->List V
 | []=>[]
 | x::r => .d x::fL r
noncomputable def idx(k:Int)(n:Nat):Option Nat:=@Int.casesOn (λ_=>Option Nat) k (λm=>ac (U9 m 1000000) (Zj m) Zk) (λm=>ac (Vx m n) (ac (U9 m 1000000) (Zj (n - (m+1))) Zk) Zk)
noncomputable def Iz(i:Int):Option Nat:=@Int.casesOn (λ_=>Option Nat) i Zj (λ_=>Zk)
noncomputable def Gl(x:SQ):Option Nat:=ag (cS x) Zk Iz
noncomputable def o7{α:Type}(o:Option α)(s:VS):R α:=match o with
 | some a => .ok a s
 | none => .no
noncomputable def bool(b:Bool):V := .d (.bool b)
noncomputable def int(i:Int):V := .d (.int i)
noncomputable def eP(n:Nat):List V:=(List.range n).map λ(k:Nat)=>V.d (.int (k:Int))
noncomputable def sL(x:SQ)(xs:List SQ):Option Bool:=ac (qp x) (ac (qp (.list xs)) (Zj (xs.any λy=>SQ.eqv y x)) Zk) Zk
noncomputable def Oe(x:SQ):SQ->Option Bool
 | .dict kvs=>ac (qU kvs x) (Zj (mu kvs x).isSome) Zk
 | .tuple xs=>sL x xs
 | _=>Zk
noncomputable def Nh(x:SQ):O->Option Bool
 | .dict kvs=>ac (xh kvs x) (Zj (fY kvs x).isSome) Zk
 | .a_ xs=>sL x xs
 | _=>Zk
noncomputable def Oa(s:VS)(x:SQ):V->Option Bool
 | .d y=>Oe x y
 | .ref i=>ag (s.get i) Zk (Nh x)
 | _=>Zk
noncomputable def contains(s:VS)(x c:V):Option Bool:=match x with
 | .d x=>Oa s x c
 | _=>Zk
noncomputable def G9(s:VS)(a b:V):Option Bool:=ag (cL s a) Zk λx=>ag (cL s b) Zk λy=>D8 x y
noncomputable def MX(a:V):V->Option Bool
 | .d x=>ac (i5 x) (isNone a) Zk
 | _=>Zk
noncomputable def iH:V->Option Int
 | .d x=>cS x
 | _=>Zk
noncomputable def zF(a b:V)(f:Int->Int->Bool):Option Bool:=ag (iH a) Zk λi=>ag (iH b) Zk λj=>Zj (f i j)
noncomputable def HD(op:CmpOp)(a b:V)(s:VS):Option Bool:=match op with
 | .Eq=>G9 s a b
 | .NotEq=>(G9 s a b).map not
 | .Is=>MX a b
 | .IsNot=>(MX a b).map not
 | .In=>contains s a b
 | .NotIn=>(contains s a b).map not
 | .Lt=>zF a b λi j => !l8 j i
 | .LtE=>zF a b l8
 | .Gt=>zF a b λi j => !l8 i j
 | .GtE=>zF a b λi j=>l8 j i
noncomputable def fH:Nat->List Nat
 | 0=>[]
 | n+1=>32::fH n
noncomputable def kS:Nat->VS->(VS->R α)->R α
 | 0,s,f=>f s
 | n+1,s,f=>s.pay λs=>kS n s f
noncomputable def bW(i:Int):Bool:=match i with
 | .ofNat n=>Vx n 1000000
 | .negSucc n=>Vx n 1000000
noncomputable def Ky(i:Int)(b:V)(s:VS):R V:=match b with
 | .d (.int j) => .ok (int (i+j)) s
 | _ => .no
noncomputable def K7(i:Int)(b:V)(s:VS):R V:=match b with
 | .d (.int j) => .ok (int (i - j)) s
 | _ => .no
noncomputable def JB(i:Int)(b:V)(s:VS):R V:=match b with
 | .d (.int j)=>ac (bW i) (ac (bW j) (.ok (int (i*j)) s) .no) .no
 | _ => .no
noncomputable def yF(b:V):Option Nat:=match b with
 | .d (.int (.ofNat (n+1)))=>Zj n
 | _=>Zk
noncomputable def vY(b:V):Option Nat:=match b with
 | .d (.int (.ofNat n))=>Zj n
 | _=>Zk
noncomputable def Kr(x:Tq)(b:V)(s:VS):R V:=match b with
 | .d (.str y)=>ac (Vx (len x.cps.toList) 1000) (ac (Vx (len y.cps.toList) 1000) (.ok (.d (.str ⟨⟨x.cps.toList++y.cps.toList⟩⟩)) s) .no) .no
 | _ => .no
noncomputable def Ko(x:Tq)(b:V)(s:VS):R V:=ac (IS x.cps.toList [32]) (ag (vY b) .no λn=>ac (Vx n 1000) (.ok (.d (.str ⟨⟨fH n⟩⟩)) s) .no) .no
noncomputable def rJ(s:VS)(v:V):Option (List SQ):=match v with
 | .ref i=>match s.get i with
  | some (.a_ xs)=>Zj xs
  | _=>Zk
 | _=>Zk
noncomputable def Jm(a b:V)(s:VS):R V:=match a with
 | .d (.int i)=>Ky i b s
 | .d (.str x)=>Kr x b s
 | a=>ag (rJ s a) .no λxs=>ag (rJ s b) .no λys=>kS (len ys) s λs=>s.new (.a_ (xs++ys))
noncomputable def IZ(a b:V)(s:VS):R V:=match a with
 | .d (.int i)=>JB i b s
 | .d (.str x)=>Ko x b s
 | a=>ag (rJ s a) .no λxs=>match xs with
  | [x]=>ag (vY b) .no λn=>ac (Vx n 1000) (s.new (.a_ (Ur n x))) .no
  | _ => .no
noncomputable def oU(a:V)(f:Int->R V):R V:=match a with
 | .d (.int i)=>f i
 | _ => .no
noncomputable def nX(op:Xf)(a b:V)(s:VS):R V:=match op with
 | .Add=>Jm a b s
 | .Sub=>oU a λi=>K7 i b s
 | .Mult=>IZ a b s
 | .Mod=>oU a λi=>ag (yF b) .no λn => .ok (int (Y6 i (.ofNat (n+1)))) s
 | .FloorDiv=>oU a λi=>ag (yF b) .no λn=>ac (Vx n 1000000) (.ok (int (Int.fdiv i (.ofNat (n+1)))) s) .no
 | _ => .no
noncomputable def eE(lo hi:Option Nat)(xs:List α):List α:=(match hi with|some h=>xs.take h|none=>xs).drop (lo.getD 0)
noncomputable def gH:List SQ->Option (List Nat)
 | []=>Zj []
 | x::r=>ag (gY x) Zk λp=>ag (gH r) Zk λl=>Zj (p.cps.toList++l)
noncomputable def isStr(t x:String):Bool:=match String.decEq t x with
 | .isTrue _=>Zm
 | .isFalse _=>Zn
noncomputable def Hr:SQ->Option Bool
 | .int _=>Zj Zn
 | .str _=>Zj Zn
 | _=>Zk
noncomputable def Ip:SQ->Option Bool
 | .str _=>Zj Zm
 | .list _=>Zj Zn
 | _=>Zk
noncomputable def IB:SQ->Option Bool
 | .int _=>Zj Zm
 | .str _=>Zj Zn
 | _=>Zk
noncomputable def vy(t:String)(s:VS)(v:V):Option Bool:=
 ag (cL s v) Zk λx=>ac (isStr t "tuple") (Hr x) (ac (isStr t "str") (Ip x) (ac (isStr t "int") (IB x) Zk))
noncomputable def Ja(T:Tab)(s:VS)(v:V)(c:Tc):Option Bool:=match v with
 | .exc=>ag s.x Zk λp=>T.sub p.1 c
 | _=>Zk
noncomputable def Am(T:Tab)(s:VS)(v:V)(c:V):Option Bool:=match c with
 | .val u=>match u with
  | .type t=>vy t s v
  | .ref c=>Ja T s v c
  | _=>Zk
 | _=>Zk
noncomputable def qw(xs:List SQ):Bool:=ac (W2 (.list xs)) (ac (V0 13 (.list xs)) (Wk (.list xs)) Zn) Zn
noncomputable def Ma(x:SQ)(s:VS):R V:=match x with
 | .str x=>ac (U9 (len x.cps.toList) 1000000) (.ok (int (len x.cps.toList)) s) .no
 | .list xs => .ok (int (len xs)) s
 | .tuple xs=>ac (U9 (len xs) 1000000) (.ok (int (len xs)) s) .no
 | _ => .no
noncomputable def JW(v:V)(s:VS):R V:=ag (cL s v) .no λx=>Ma x s
noncomputable def E2(v:V)(s:VS):R V:=ag (oV s v) .no λxs=>ac (qw xs) (.ok (.d (.str (SQ.shown (.list xs)))) s) .no
noncomputable def BP(v:V)(s:VS):R V:=ag (iH v) .no λn=>ac (bW n) (.ok (.rng n) s) .no
noncomputable def Kf(v:V)(xs:List SQ):Bool:=match v with
 | .ref _=>Zm
 | _=>U9 (len xs) 1000
noncomputable def E1(v:V)(s:VS):R V:=ag (oV s v) .no λxs=>ac (Kf v xs) (s.new (.a_ xs)) .no
noncomputable def BR:O->Option (List (SQ×V))
 | .dict kvs=>Zj kvs
 | _=>Zk
noncomputable def Fx(v:V)(s:VS):R V:=match v with
 | .d x=>ag (BG x) .no λkvs=>ac (be gu kvs) (s.new (.dict (cR kvs))) .no
 | .ref i=>ag (s.get i) .no λo=>ag (BR o) .no λkvs=>ac (be gu kvs) (s.new (.dict kvs)) .no
 | _ => .no
noncomputable def one{α:Type}(as:List α):Option α:=@XD α (λ_=>Option α) as Zk λv r=>@XD α (λ_=>Option α) r (Zj v) λ_ _=>Zk
noncomputable def I1{α:Type}(as:List α):Option (α×α):=@XD α (λ_=>Option (α×α)) as Zk λv r=>ag (one r) Zk λw=>Zj (v,w)
noncomputable def AO(t:String)(v:V)(s:VS):R V:=ac (isStr t "len") (JW v s) (ac (isStr t "repr") (E2 v s) .no)
noncomputable def zu(T:Tab)(t:String)(v c:V)(s:VS):R V:=ac (isStr t "isinstance") (ag (Am T s v c) .no λb => .ok (bool b) s) .no
noncomputable def Gv(t:String)(v:V)(s:VS):R V:=ac (isStr t "range") (BP v s) (ac (isStr t "list") (E1 v s) (ac (isStr t "dict") (Fx v s) .no))
noncomputable def zI(T:Tab)(id:SX)(as:List V)(s:VS):R V:=match id with
 | .builtin t=>ag (one as) (ag (I1 as) .no λp=>zu T t p.1 p.2 s) λv=>AO t v s
 | .type t=>ag (one as) .no λv=>Gv t v s
 | _ => .no
noncomputable def An{α:Type}:α->List α->α×List α
 | a,[]=>(a,[])
 | a,b::l=>((An b l).1,a::(An b l).2)
noncomputable def pe(l:List α):Option (α×List α):=match l with
 | []=>Zk
 | a::l=>Zj (An a l)
noncomputable def Lo:O->Option (List SQ)
 | .a_ xs=>Zj xs
 | _=>Zk
noncomputable def Nj:O->Option (List V)
 | .p_ vs=>Zj vs
 | _=>Zk
noncomputable def fS(s:VS)(i:Nat):Option (List SQ):=ag (s.get i) Zk Lo
noncomputable def Ch(s:VS)(i:Nat):Option (List V):=ag (s.get i) Zk Nj
noncomputable def Nm:List SQ->Bool
 | []=>Zm
 | _::_=>Zn
noncomputable def jp(s:VS):V->Option (SQ×VS)
 | .d x=>Zj (x,s)
 | .ref i=>ag (fS s i) Zk λxs=>Zj (.list xs,s.put i .dead)
 | _=>Zk
noncomputable def kL:List V->VS->Option (List SQ×VS)
 | [],s=>Zj ([],s)
 | v::r,s=>ag (jp s v) Zk λp=>ag (kL r p.2) Zk λq=>Zj (p.1::q.1,q.2)
noncomputable def findIdx(j:Int):List SQ->Nat->Option Nat
 | [],_=>Zk
 | x::r,n=>ag (cS x) Zk λi=>ac (bR i j) (Zj n) (findIdx j r (n+1))
inductive MK where
 | fn (f:Tc)
 | app|pop|ext|idx|get|join
noncomputable def nE(m:Tq):Option MK:=
 ac (aw m "append") (Zj .app) (ac (aw m "pop") (Zj .pop) (ac (aw m "extend") (Zj .ext) (ac (aw m "index") (Zj .idx) Zk)))
noncomputable def vM(m:Tq):Option MK:=ac (aw m "get") (Zj .get) Zk
noncomputable def HN(m:Tq):Option MK:=ac (aw m "join") (Zj .join) Zk
noncomputable def kI(T:Tab)(c:Tc)(m:Tq):Option Tc:=ag (T.cl c) Zk λk=>
 @Ud (Tq×Tc) (λ_=>Option Tc) Zk (λp _ ih=>@Uv (λ_=>Option Tc) ih (Zj p.2) (aw p.1 m)) k.meths
noncomputable def E3(T:Tab)(x:O)(m:Tq):Option MK:=match x with
 | .inst c fs=>ag (ak fs m) (ag (kI T c m) Zk λf=>Zj (.fn f)) λ_=>Zk
 | .a_ _=>nE m
 | .p_ _=>nE m
 | .dict _=>vM m
 | _=>Zk
noncomputable def KT(x:SQ)(m:Tq):Option MK:=match x with
 | .list _=>nE m
 | .dict _=>vM m
 | .str _=>HN m
 | _=>Zk
noncomputable def d7(T:Tab)(o:V)(m:Tq)(s:VS):Option MK:=match o with
 | .ref i=>ag (s.get i) Zk λx=>E3 T x m
 | .d x=>KT x m
 | _=>Zk
noncomputable def Jx(i:Nat)(x:SQ)(s:VS):R V:=ag (fS s i) .no λxs => .ok (.d .none) (s.put i (.a_ (xs++[x])))
noncomputable def JM(i:Nat)(v:V)(s:VS):R V:=ag (fS s i) .no λxs=>ac (Nm xs) (.ok (.d .none) (s.put i (.p_ [v]))) .no
noncomputable def uN(o v:V)(s:VS):R V:=match o with
 | .ref i=>s.pay λs=>ag (jp s v) (JM i v s) λp=>Jx i p.1 p.2
 | _ => .no
noncomputable def og(as:List V):Bool:=ag (one as) Zn λv=>ag (iH v) Zn λi=>bR i 0
noncomputable def JC(i:Nat)(xs:List SQ)(as:List V)(s:VS):R V:=match as with
 | []=>ag (pe xs) .no λp => .ok (.d p.1) (s.put i (.a_ p.2))
 | v::r=>ac (og (v::r)) (ag (mK xs) .no λp => .ok (.d p.1) (s.put i (.a_ p.2))) .no
noncomputable def Jz(i:Nat)(vs:List V)(as:List V)(s:VS):R V:=match as with
 | []=>ag (pe vs) .no λp => .ok p.1 (s.put i (ij p.2))
 | _::_ => .no
noncomputable def Ms(i:Nat)(x:O)(as:List V)(s:VS):R V:=match x with
 | .a_ xs=>JC i xs as s
 | .p_ vs=>Jz i vs as s
 | _ => .no
noncomputable def JY(o:V)(as:List V)(s:VS):R V:=match o with
 | .ref i=>ag (s.get i) .no λx=>Ms i x as s
 | _ => .no
noncomputable def Kw(i j:Nat)(x:O)(s:VS):R V:=match x with
 | .a_ l=>ac (Ue i j) .no (kS (len l) s λs=>ag (fS s i) .no λxs => .ok (.d .none) (s.put i (.a_ (xs++l))))
 | .p_ vs=>kS (len vs) s λs=>ag (kL vs s) .no λp=>ag (fS p.2 i) .no λxs=>ag (Ch p.2 j) .no λ_ => .ok (.d .none) (p.2.put i (.a_ (xs++p.1)))
 | _ => .no
noncomputable def vN(o v:V)(s:VS):R V:=match o with
 | .ref i=>match v with
  | .ref j=>ag (s.get j) .no λx=>Kw i j x s
  | _ => .no
 | _ => .no
noncomputable def hM(xs:List SQ):Bool:=@Ud SQ (λ_=>Bool) Zm (λx _ ih=>@Uv (λ_=>Bool) Zn ih (kj x)) xs
noncomputable def BI:V->Option Tq
 | .d x=>gY x
 | _=>Zk
noncomputable def yT(o v:V)(s:VS):R V:=ag (gR o) .no λx=>ag (iW x) .no λxs=>ag (iH v) .no λj=>ac (hM xs) (ag (findIdx j xs 0) .no λn => .ok (int n) s) .no
noncomputable def K2(o v:V)(s:VS):R V:=ag (gR o) .no λx=>ag (BG x) .no λkvs=>ag (gR v) .no λx=>ac (qU kvs x) (.ok (.d ((mu kvs x).getD .none)) s) .no
noncomputable def F8(l:List Nat):Bool:=match l with
 | []=>Zm
 | _::_=>Zn
noncomputable def FE(o v:V)(s:VS):R V:=ag (BI o) .no λx=>ac (F8 x.cps.toList) (ag (oV s v) .no λxs=>ag (gH xs) .no λl=>ac (Vx (len l) 1000) (.ok (.d (.str ⟨⟨l⟩⟩)) s) .no) .no
noncomputable def qm(xs:List SQ)(k:Int)(s:VS):R V:=ag (idx k (len xs)) .no λn=>ag (f9 xs n) .no λx => .ok (.d x) s
noncomputable def u8(vs:List V)(k:Int)(s:VS):R V:=ag (idx k (len vs)) .no λn=>ag (f9 vs n) .no λx => .ok x s
noncomputable def Ff(x:Tq)(k:Int)(s:VS):R V:=ag (Iz k) .no λn=>ac (U9 n 1000000) (ag (f9 x.cps.toList n) .no λc => .ok (.d (.str ⟨⟨[c]⟩⟩)) s) .no
noncomputable def Fk(kvs:List (SQ×SQ))(k:SQ)(s:VS):R V:=ac (qU kvs k) (ag (mu kvs k) .no λx => .ok (.d x) s) .no
noncomputable def E4(kvs:List (SQ×V))(k:SQ)(s:VS):R V:=ac (xh kvs k) (ag (fY kvs k) .no λx => .ok x s) .no
noncomputable def FT(x:O)(k:SQ)(s:VS):R V:=match x with
 | .dict kvs=>E4 kvs k s
 | .a_ xs=>ag (cS k) .no λk=>qm xs k s
 | .p_ vs=>ag (cS k) .no λk=>u8 vs k s
 | _ => .no
noncomputable def Fv(x:SQ)(k:SQ)(s:VS):R V:=match x with
 | .dict kvs=>Fk kvs k s
 | .list xs=>ag (cS k) .no λk=>qm xs k s
 | .tuple xs=>ag (cS k) .no λk=>qm xs k s
 | .str x=>ag (cS k) .no λk=>Ff x k s
 | _ => .no
noncomputable def MT(o:V)(k:SQ)(s:VS):R V:=match o with
 | .ref j=>ag (s.get j) .no λx=>FT x k s
 | .d x=>Fv x k s
 | .tup vs=>ag (cS k) .no λk=>u8 vs k s
 | _ => .no
noncomputable def getItem(o i:V)(s:VS):R V:=ag (gR i) .no λk=>MT o k s
noncomputable def GW(o:V):Option Nat:=match o with
 | .ref j=>Zj j
 | _=>Zk
noncomputable def KE(j:Nat)(kvs:List (SQ×V))(k:SQ)(v:V)(s:VS):R Unit:=ac (xh kvs k) (ac (Vx (len kvs) 1000) (.ok () (s.put j (.dict (cm kvs k v)))) .no) .no
noncomputable def KH(j:Nat)(xs:List SQ)(k:SQ)(v:V)(s:VS):R Unit:=ag (Gl k) .no λn=>ag (gR v) .no λx=>ac (Vx n (len xs)) (.ok () (s.put j (.a_ (bb xs n x)))) .no
noncomputable def Ls(j:Nat)(x:O)(k:SQ)(v:V)(s:VS):R Unit:=match x with
 | .dict kvs=>KE j kvs k v s
 | .a_ xs=>KH j xs k v s
 | _ => .no
noncomputable def setItem(o i v:V)(s:VS):R Unit:=ag (GW o) .no λj=>ag (gR i) .no λk=>ag (s.get j) .no λx=>Ls j x k v s
noncomputable def EZ(x:SQ):Option (Option Nat):=ac (i5 x) (Zj Zk) (ag (Gl x) Zk λn=>ac (U9 n 1000000) (Zj (Zj n)) Zk)
noncomputable def tP(v:V):Option (Option Nat):=ag (gR v) Zk EZ
noncomputable def ID(x:SQ)(lo hi:Option Nat)(s:VS):R V:=ag (iW x) (ag (gY x) .no λx=>ac lo.isNone (ag hi .no λn=>ac (U9 (len x.cps.toList) n) (.ok (.d (.str x)) s) .no) .no)
 λxs=>ac (U9 (ag hi 1001 λn=>n) 1000) (s.new (.a_ (eE lo hi xs))) .no
noncomputable def HK(o:V)(lo hi:Option Nat)(s:VS):R V:=match o with
 | .d x=>ID x lo hi s
 | .ref i=>ag (fS s i) .no λxs=>s.new (.a_ (eE lo hi xs))
 | _ => .no
noncomputable def iS(o l h:V)(s:VS):R V:=ag (tP l) .no λlo=>ag (tP h) .no λhi=>HK o lo hi s
noncomputable def kt(x:Tq)(l:List Tq):Bool:=@Ud Tq (λ_=>Bool) Zn (λy _ ih=>@Uv (λ_=>Bool) ih Zm (aw y x)) l
noncomputable def ms(T:Tab)(c:Tc)(n:Tq):Bool:=ag (T.cl c) Zn λk=>kt n k.attrs
noncomputable def KP(x:O):Option (Tc×LE):=match x with
 | .inst c fs=>Zj (c,fs)
 | _=>Zk
noncomputable def tL(s:VS)(i:Nat):Option (Tc×LE):=ag (s.get i) Zk KP
noncomputable def getAttr(T:Tab)(o:V)(n:Tq)(s:VS):R V:=match o with
 | .ref i=>ag (tL s i) .no λp=>ac (ms T p.1 n) (o7 (ak p.2 n) s) .no
 | .exc=>ac (aw n "code") (ag s.x .no λp=>ac (bR p.2 0) .no (.ok (int p.2) s)) .no
 | _ => .no
noncomputable def setAttr(T:Tab)(o:V)(n:Tq)(v:V)(s:VS):R Unit:=ag (GW o) .no λi=>ag (tL s i) .no λp=>ac (ms T p.1 n) (ac (Vx (len p.2) 1000) (.ok () (s.put i (.inst p.1 (aR p.2 n v)))) .no) .no
noncomputable def tD:Const->Option V
 | .none=>Zj (.d .none)
 | .bool b=>Zj (bool b)
 | .int i=>Zj (int i)
 | .str x=>Zj (.d (.str x))
 | _=>Zk
noncomputable def FM:SQ->Option Bool
 | .bool b=>Zj b
 | _=>Zk
noncomputable def we(v:V):Option Bool:=ag (gR v) Zk FM
section
variable(T:Tab)(I:It)
noncomputable def ea(x:Tq)(sc:Tz)(le:LE):Option V:=ag (ah sc.names x) Zk λk=>@VP (λ_=>Option V) k (ak le x) (ak le x) (ak le x) Zk (T.glob x)
noncomputable def name(x:Tq)(sc:Tz)(le:LE)(s:VS):R V:=o7 (ea T x sc le) s
noncomputable def Fr(op:UnaryOp)(x:Expr)(sc:Tz)(le:LE)(s:VS):R Bool:=match op with
 | .Not=>(I.te x sc le s).bind λb s => .ok (!b) s
 | _ => .no
noncomputable def Ge(l:Expr)(ops:List CmpOp)(rs:List Expr)(sc:Tz)(le:LE)(s:VS):R Bool:=ag (one ops) .no λop=>ag (one rs) .no λr=>(I.ev l sc le s).bind λa s=>(I.ev r sc le s).bind λb s=>o7 (HD op a b s) s
noncomputable def bK(e:Expr)(sc:Tz)(le:LE)(s:VS):R Bool:=(I.ev e sc le s).bind λv s=>o7 (we v) s
noncomputable def FZ(e:Expr)(sc:Tz)(le:LE)(s:VS):R Bool:=@Expr.casesOn (λ_=>R Bool) e (λa b c=>I.ts a b sc le s) (λa b c=>bK I e sc le s) (λa b c d=>bK I e sc le s) (λa b c=>Fr I a b sc le s) (λa b c d=>bK I e sc le s) (λa b c d => .no) (λa b c=>bK I e sc le s) (λa b c=>bK I e sc le s) (λa b c d=>bK I e sc le s) (λa b c d=>bK I e sc le s) (λa b c d f=>bK I e sc le s) (λa b c d=>bK I e sc le s) (λa b=>bK I e sc le s) (λa b=>bK I e sc le s) (λa b=>bK I e sc le s) (λa b c d=>Ge I a b c sc le s) (λa b c d=>bK I e sc le s) (λa b c d=>bK I e sc le s) (λa b=>bK I e sc le s) (λa b c=>bK I e sc le s) (λa b c=>bK I e sc le s) (λa b c=>bK I e sc le s) (λa b=>bK I e sc le s) (λa b=>bK I e sc le s) (λa b=>bK I e sc le s) (λa b c=>bK I e sc le s) (λa b c d=>bK I e sc le s)
noncomputable def MY(op:W8)(r:List Expr)(sc:Tz)(le:LE)(b:Bool)(s:VS):R Bool:=match op,b with
 | .And,Zn => .ok Zn s
 | .Or,Zm => .ok Zm s
 | .And,Zm=>I.ts .And r sc le s
 | .Or,Zn=>I.ts .Or r sc le s
noncomputable def Br(op:W8)(es:List Expr)(sc:Tz)(le:LE)(s:VS):R Bool:=match es with
 | []=>match op with
  | .And => .ok Zm s
  | .Or => .ok Zn s
 | e::r=>(I.te e sc le s).bind λb s=>MY I op r sc le b s
noncomputable def Ia(es:List Expr)(sc:Tz)(le:LE)(s:VS):R (List V):=match es with
 | [] => .ok [] s
 | e::r=>(I.ev e sc le s).bind λv s=>(I.es r sc le s).bind λvs s => .ok (v::vs) s
noncomputable def z8(op:W8)(b:Bool):Bool:=@W8.casesOn (λ_=>Bool) op (!b) b
noncomputable def IJ(op:W8)(v:V)(s:VS)(k:R V):R V:=ag (we v) .no λb=>ac (z8 op b) (.ok v s) k
noncomputable def qW(op:W8)(es:List Expr)(sc:Tz)(le:LE)(s:VS):R V:=ag (I1 es) .no λp=>(I.ev p.1 sc le s).bind λv s=>IJ op v s (I.ev p.2 sc le s)
noncomputable def iV(k:MK)(o:V)(as:List V)(s:VS):R V:=match k with
 | .fn f=>I.cl (.val (.ref f)) (o::as) s
 | .pop=>JY o as s
 | k=>match as with
  | [v]=>match k with
   | .app=>uN o v s
   | .ext=>vN o v s
   | .idx=>yT o v s
   | .get=>K2 o v s
   | .join=>FE o v s
   | _ => .no
  | _ => .no
noncomputable def qz(i:Nat)(w:V)(s:VS):R Unit:=ag (fS s i) (ag (Ch s i) .no λvs => .ok () (s.put i (.p_ (vs++[w])))) λxs=>ag (gR w) (.ok () (s.put i (.p_ (fL xs++[w])))) λx => .ok () (s.put i (.a_ (xs++[x])))
noncomputable def vC(i:Nat)(w:V)(s:VS):R Unit:=s.pay (qz i w)
noncomputable def fc(c:R Bool)(k:VS->R Unit)(f:VS->R V)(mark i:Nat):R Unit:=c.bind λb s=>
 ac b ((f s).bind λw s=>(cz mark w s).bind λw s=>(vC i w s).bind λ_ s=>k s) (k s)
noncomputable def jz(ifs:List Expr)(sc:Tz)(le:LE)(s:VS):R Bool:=match ifs with
 | [] => .ok Zm s
 | [c]=>I.te c sc le s
 | _ => .no
noncomputable def aZ(elt:Expr)(x:Tq)(ifs:List Expr)(sc:Tz)(le:LE)(a:Nat)(l:List V):VS->R Unit:=
 @Ud V (λ_=>VS->R Unit) (λs => .ok () s) (λv _ ih s=>fc (jz I ifs sc (aR le x v) s) ih (λs=>I.ev elt sc (aR le x v) s) (len s.o) a) l
noncomputable def J9(x:Tq)(le:LE)(p:Tq×Tp):Bool:=@VP (λ_=>Bool) p.2 (ac (aw p.1 x) Zm (ag (ak le p.1) Zm λ_=>Zn)) Zn Zm Zm Zm
noncomputable def ib(x:Tq)(le:LE)(l:List (Tq×Tp)):Bool:=d6 (J9 x le) l
noncomputable def Kj(ns:List (Tq×Tp))(le:LE)(p:Tq×Tp):Bool:=@VP (λ_=>Bool) p.2 Zm Zm (ac (L7 (ah ns p.1)) (ag (ak le p.1) Zn λ_=>Zm) Zn) Zm Zm
noncomputable def d8(ns:List (Tq×Tp))(le:LE)(l:List (Tq×Tp)):Bool:=d6 (Kj ns le) l
noncomputable def tO(k:SQ)(v:V)(r:List (SQ×V))(s:VS):R (List (SQ×V)):=ac (xh r k) (ag (fY r k) (.ok ((k,v)::r) s) λ_ => .no) .no
noncomputable def kU(ks:List (Option Expr))(vs:List Expr)(sc:Tz)(le:LE)(s:VS):R (List (SQ×V)):=@Ud (Option Expr) (λ_=>List Expr->VS->R (List (SQ×V))) (λvs s=>ac (ip vs) (.ok [] s) .no)
 (λk _ ih vs s=>ag k .no λk=>ag (mK vs) .no λp=>(I.ev k sc le s).bind λkv s=>ag (gR kv) .no λk=>(I.ev p.1 sc le s).bind λv s=>(ih p.2 s).bind λr s=>tO k v r s) ks vs s
noncomputable def Kd(op:UnaryOp)(v:V)(s:VS):R V:=@UnaryOp.casesOn (λ_=>R V) op .no (ag (we v) .no λb => .ok (bool (!b)) s) .no (ag (iH v) .no λi => .ok (int (-i)) s)
noncomputable def Fq(l:Expr)(op:Xf)(r:Expr)(sc:Tz)(le:LE)(s:VS):R V:=(I.ev l sc le s).bind λa s=>(I.ev r sc le s).bind λb s=>nX op a b s
noncomputable def JK(t b o:Expr)(sc:Tz)(le:LE)(s:VS):R V:=(I.te t sc le s).bind λc s=>ac c (I.ev b sc le s) (I.ev o sc le s)
noncomputable def b8(n:Nat)(ks:List (Option Expr))(vs:List Expr):Bool:=@Xm (λ_=>List (Option Expr)->List Expr->Bool) (λ_ _=>Zn)
 (λ_ ih ks vs=>ag (mK ks) (ip vs) λp=>ag p.1 Zn λ_=>ag (mK vs) Zn λq=>ih p.2 q.2) n ks vs
noncomputable def pO(s:VS)(i:Nat):Bool:=ag (ag (s.get i) Zk BR) Zn ip
noncomputable def pq(ks:List (Option Expr))(vs:List Expr)(sc:Tz)(le:LE)(s:VS):R V:=ac (ip ks) (ac (ip vs) (s.new (.dict [])) .no)
 (ac (b8 16 ks vs) ((s.new (.dict [])).bind λd s₁=>(kU I ks vs sc le s₁).bind λkvs s₂=>ac (pO s₂ (len s.o)) (ac (be gu kvs) (.ok d (s₂.put (len s.o) (.dict kvs))) .no) .no) .no)
noncomputable def Fu(l:Expr)(ops:List CmpOp)(rs:List Expr)(sc:Tz)(le:LE)(s:VS):R V:=ag (one ops) .no λop=>ag (one rs) .no λr=>(I.ev l sc le s).bind λa s=>(I.ev r sc le s).bind λb s=>ag (HD op a b s) .no λb => .ok (bool b) s
noncomputable def bH:Nat->List Expr->Bool
 | 0,_=>Zn
 | _+1,[]=>Zm
 | n+1,e::r=>ac (hG e) Zn (bH n r)
noncomputable def mw(f:Expr)(as:List Expr)(ks:List Keyword)(pos:Vw)(sc:Tz)(le:LE)(s:VS):R V:=match ks with
 | []=>ac (bH 20 as) (match fP f with
  | some (o,m,p)=>ac (cX o) .no (ac (Ue p.endLine pos.line) ((I.ev o sc le s).bind λo s=>ag (d7 T o m s) .no λk=>(I.es as sc le s).bind λas s=>iV I k o as s) .no)
  | none=>(I.ev f sc le s).bind λf s=>(I.es as sc le s).bind λas s=>I.cl f as s) .no
 | _::_ => .no
noncomputable def ld(e:Option Expr)(sc:Tz)(le:LE)(s:VS):R V:=match e with
 | some e=>I.ev e sc le s
 | none => .ok (.d .none) s
noncomputable def fZ(o i:Expr)(mark:Nat)(v:V)(s:VS):R V:=ac (zj o) (ac (cX i) (cz mark v s) (.ok v s)) (.ok v s)
noncomputable def lh(o i:Expr)(sc:Tz)(le:LE)(s:VS):R V:=match dK i with
 | some (l,h,Zk)=>(I.ev o sc le s).bind λo s=>(ld I l sc le s).bind λl s=>(ld I h sc le s).bind λh s=>iS o l h s
 | some (_,_,Zj _) => .no
 | none=>(I.ev o sc le s).bind λv s₁=>(fZ o i (len s.o) v s₁).bind λv s=>(I.ev i sc le s).bind λi s=>getItem v i s
noncomputable def calm{α:Type}(s:VS)(r:R α):R α:=@Option.rec (Tc×Int) (λ_=>R α) r (λ_ => .no) s.x
noncomputable def pj(gs:List Vh):Option (Tq×Expr×List Expr):=ag (one gs) Zk λg=>ag (eM g.target) Zk λx=>ac (bR g.is_async 0) (Zj (x.1,g.iter,g.ifs)) Zk
noncomputable def vA{α:Type}(r:R α)(k:α->VS->R V):R V:=match r with
 | .ok a s=>k a s
 | _ => .no
noncomputable def dT(x:Tq):Bool:=match x.cps.toList with
 | a::b::_=>ac (Ue a 95) (ac (Ue b 95) Zn Zm) Zm
 | _=>Zm
noncomputable def bF(l:List (Tq×Tp)):Bool:=
 @Ud (Tq×Tp) (λ_=>Bool) Zm (λp r ih=>ac (dT p.1) (ag (ah r p.1) ih λ_=>Zn) Zn) l
noncomputable def Jj:ScopeKind->Bool
 | .function=>Zm
 | _=>Zn
noncomputable def dm(sc:Tz):Bool:=ac (Jj sc.kind) (ac sc.isGenerator Zn (ac sc.isCoroutine Zn (bF sc.names))) Zn
noncomputable def dz(sc:Tz):Bool:=match ah sc.names ⟨⟨[102,111,114,95,105,110,112,117,116]⟩⟩ with
 | some .local=>Zm
 | _=>Zn
noncomputable def cI(sc:Tz):Bool:=ac (dz sc) Zn (dm sc)
noncomputable def bL(p:UW):Bool:=ac (ip p.posonlyargs) (ac p.vararg.isNone (ac (ip p.kwonlyargs) p.kwarg.isNone Zn) Zn) Zn
noncomputable def um(p:UW):Bool:=ac (ip p.kw_defaults) (ip p.defaults) Zn
noncomputable def se(l:List Arg):Bool:=@Ud Arg (λ_=>Bool) Zm (λa _ ih=>ag a.annotation ih λ_=>Zn) l
noncomputable def bg(l:List Arg):List Tq:=@Ud Arg (λ_=>List Tq) [] (λa _ ih=>a.arg::ih) l
noncomputable def dE(ns:List (Tq×Tp))(l:List Tq):Bool:=@Ud Tq (λ_=>Bool) Zm (λx r ih=>ac (kt x r) Zn (match ah ns x with
 | some .local=>ih
 | some .cell=>ih
 | _=>Zn)) l
noncomputable def g9(elt:Expr)(x:Tq)(ifs:List Expr)(sc:Tz)(le:LE)(a i:Nat)(n:Nat):Nat->VS->R Unit:=
 @Xm (λ_=>Nat->VS->R Unit) (λ_ _ => .no) (λ_ ih k s=>ag (fS s i) .no λxs=>ag (f9 xs k) (.ok () s) λy=>fc (jz I ifs sc (aR le x (.d y)) s) (ih (Ul k)) (λs=>I.ev elt sc (aR le x (.d y)) s) (len s.o) a) n
noncomputable def yz(x:SQ):Option (List SQ):=ag (iW x) (Gy x) Zj
noncomputable def tx(elt:Expr)(x:Tq)(ifs:List Expr)(h_:Tz)(le:LE)(a:Nat)(v:V)(s:VS):R Unit:=match v with
 | .ref i=>g9 I elt x ifs h_ le a i 1000 0 s
 | .rng n=>aZ I elt x ifs h_ le a (eP n.toNat) s
 | .d y=>ag (yz y) .no λxs=>aZ I elt x ifs h_ le a (fL xs) s
 | _ => .no
noncomputable def jv(elt:Expr)(gs:List Vh)(h_ sc:Tz)(le:LE)(s:VS):R V:=ag (pj gs) .no λp=>ac (hU [cI h_,ib p.1 le h_.names,d8 sc.names le h_.names,mL (ah h_.names p.1)])
 ((I.ev p.2.1 sc le s).bind λv s=>calm s ((s.new (.a_ [])).bind λr s₁=>vA (tx I elt p.1 p.2.2 h_ le (len s.o) v s₁) λ_ s => .ok r s)) .no
noncomputable def FU(e:Expr)(sc:Tz)(le:LE)(s:VS):R V:=@Expr.casesOn (λ_=>R V) e
 (λop vs _=>qW I op vs sc le s) (λ_ _ _ => .no) (λl op r _=>Fq I l op r sc le s) (λop x _=>(I.ev x sc le s).bind λv s=>Kd op v s) (λ_ _ _ _ => .no)
 (λt b o _=>JK I t b o sc le s) (λks vs _=>pq I ks vs sc le s) (λ_ _ _ => .no) (λelt gs h_ _=>jv I elt gs h_ sc le s)
 (λ_ _ _ _ => .no) (λ_ _ _ _ _ => .no) (λ_ _ _ _ => .no) (λ_ _ => .no) (λ_ _ => .no) (λ_ _ => .no)
 (λl ops rs _=>Fu I l ops rs sc le s) (λf as ks p=>mw T I f as ks p sc le s) (λ_ _ _ _ => .no) (λ_ _ => .no)
 (λc _ _=>o7 (tD c) s) (λo n _=>ac (cX o) .no ((I.ev o sc le s).bind λo s=>getAttr T o n s)) (λo i _=>lh I o i sc le s) (λ_ _ => .no)
 (λx _=>name T x sc le s) (λes _=>(I.es es sc le s).bind λvs s=>s.newL vs) (λes _ _=>(I.es es sc le s).bind λvs s=>ac (U9 (len vs) 1000) (.ok (gS vs) s) .no) (λ_ _ _ _ => .no)
noncomputable def jR(sc:Tz)(x:Tq)(v:V)(le:LE):Option LE:=match ah sc.names x with
 | some .local=>Zj (aR le x v)
 | some .cell=>match ak le x with
  | none=>Zj (aR le x v)
  | some _=>Zk
 | _=>Zk
noncomputable def dr(sc:Tz)(ts:List Expr):List V->LE->Option LE:=@Ud Expr (λ_=>List V->LE->Option LE) (λvs le=>ac (ip vs) (Zj le) Zk)
 (λt _ ih vs le=>ag (eM t) Zk λx=>ag (mK vs) Zk λp=>ag (jR sc x.1 p.1 le) Zk λle=>ih p.2 le) ts
noncomputable def Be(v:V):Option (List V):=match v with
 | .d x=>ag (Gy x) Zk λxs=>Zj (fL xs)
 | .tup vs=>Zj vs
 | _=>Zk
noncomputable def assign(t:Expr)(sc:Tz)(le:LE)(v:V)(s:VS):R LE:=@Expr.casesOn (λ_=>R LE) t (λa b c => .no) (λa b c => .no) (λa b c d => .no) (λa b c => .no) (λa b c d => .no) (λa b c d => .no) (λa b c => .no) (λa b c => .no) (λa b c d => .no) (λa b c d => .no) (λa b c d f => .no) (λa b c d => .no) (λa b => .no) (λa b => .no) (λa b => .no) (λa b c d => .no) (λa b c d => .no) (λa b c d => .no) (λa b => .no) (λa b c => .no) (λa b c=>(I.ev a sc le s).bind λo s=>(setAttr T o b v s).bind λ_ s => .ok le s) (λa b c=>ac (dK b).isSome .no ((I.ev a sc le s).bind λo s=>(I.ev b sc le s).bind λi s=>(setItem o i v s).bind λ_ s => .ok le s)) (λa b => .no) (λa b=>o7 (jR sc a v le) s) (λa b => .no) (λa b c=>o7 (ag (Be v) Zk λvs=>dr sc a vs le) s) (λa b c d => .no)
noncomputable def aT(sc:Tz)(mark:Nat)(k:LE->VS->R (Fl×LE))(r:R (Fl×LE)):R (Fl×LE):=r.bind λp s=>match p.1 with
 | .next=>k (fE sc.names mark p.2 s).1 (fE sc.names mark p.2 s).2
 | .cont=>k (fE sc.names mark p.2 s).1 (fE sc.names mark p.2 s).2
 | .brk => .ok (.next,p.2) s
 | .ret v => .ok (.ret v,p.2) s
noncomputable def aK(t:Expr)(body:List T9)(sc:Tz)(l:List V):LE->VS->R (Fl×LE):=
 @Ud V (λ_=>LE->VS->R (Fl×LE)) (λle s=>calm s (.ok (.next,le) s))
  (λv _ ih le s=>calm s ((assign T I t sc le v s).bind λle s₁=>aT sc (len s.o) ih (I.ex body sc le s₁))) l
noncomputable def fh(t:Expr)(body:List T9)(sc:Tz)(i:Nat)(n:Nat):Nat->LE->VS->R (Fl×LE):=
 @Xm (λ_=>Nat->LE->VS->R (Fl×LE)) (λ_ _ _ => .no) (λ_ ih k le s=>ag (fS s i) .no λxs=>calm s (ag (f9 xs k) (.ok (.next,le) s) λx=>(assign T I t sc le (.d x) s).bind λle s₁=>aT sc (len s.o) (ih (Ul k)) (I.ex body sc le s₁))) n
noncomputable def Ba(h:Uk):Option (Tq×Option Tq×List T9):=@Uk.casesOn (λ_=>Option (Tq×Option Tq×List T9)) h λt n b _=>ag t Zk λe=>ag (eM e) Zk λx=>Zj (x.1,n,b)
noncomputable def L2(u:SX):Option Tc:=match u with
 | .ref k=>Zj k
 | _=>Zk
noncomputable def Hf(v:V):Option Tc:=match v with
 | .val u=>L2 u
 | _=>Zk
noncomputable def cx(sc:Tz)(hs:List Uk)(c:Tc):Option (Option Tq×List T9):=@Ud Uk (λ_=>Option (Option Tq×List T9)) Zk
 (λh _ ih=>ag (Ba h) Zk λp=>ac (Fo (ah sc.names p.1)) (ag (ag (T.glob p.1) Zk Hf) Zk λk=>ag (T.sub c k) Zk λb=>ac b (ac (ag p.2.1 Zm λy=>mL (ah sc.names y)) (Zj p.2) Zk) ih) Zk) hs
noncomputable def MC(x:Tq)(k:Tp)(le r:LE):LE:=@VP (λ_=>LE) k r r (ag (ak le x) r λv=>(x,v)::r) r r
noncomputable def gi(l:List (Tq×Tp))(le:LE):LE:=@Ud (Tq×Tp) (λ_=>LE) [] (λp _ ih=>MC p.1 p.2 le ih) l
noncomputable def MA(op:Xf)(i j:Int)(s:VS):R V:=match op with
 | .Add => .ok (int (i+j)) s
 | .Mult=>ac (bW i) (ac (bW j) (.ok (int (i*j)) s) .no) .no
 | _ => .no
noncomputable def Bv(op:Xf)(a b:V)(s:VS):R V:=ag (iH a) .no λi=>ag (iH b) .no λj=>MA op i j s
noncomputable def wm(t:Expr)(op:Xf)(e:Expr)(sc:Tz)(le:LE)(s:VS):R (Fl×LE):=ag (eM t)
 (ag (fP t) .no λt=>(I.ev t.1 sc le s).bind λo s=>(getAttr T o t.2.1 s).bind λa s=>(I.ev e sc le s).bind λb s=>(Bv op a b s).bind λv s=>(setAttr T o t.2.1 v s).bind λ_ s => .ok (.next,le) s)
 λx=>ag (ea T x.1 sc le) .no λa=>(I.ev e sc le s).bind λb s=>(Bv op a b s).bind λv s=>ac (mL (ah sc.names x.1)) (.ok (.next,aR le x.1 v) s) .no
noncomputable def LA(t:Expr)(body:List T9)(sc:Tz)(le:LE)(v:V)(s:VS):R (Fl×LE):=match v with
 | .rng n=>aK T I t body sc (eP n.toNat) le s
 | .d x=>ag (yz x) .no λxs=>aK T I t body sc (fL xs) le s
 | .ref i=>fh T I t body sc i 1000 0 le s
 | _ => .no
noncomputable def Fs(t it:Expr)(body orelse:List T9)(sc:Tz)(le:LE)(s:VS):R (Fl×LE):=ac (ip orelse) ((I.ev it sc le s).bind λv s=>LA T I t body sc le v s) .no
noncomputable def ua(k:Ek)(vs:List V):Option Int:=match k with
 | .run=>ag (one vs) Zk λv=>ag (BI v) Zk λ_=>Zj 0
 | .io=>ag (I1 vs) Zk λp=>ag (iH p.1) Zk λi=>ag (BI p.2) Zk λ_=>Zj i
 | .eof=>ag (one vs) Zk λv=>ag (BI v) Zk λ_=>Zj (-1)
noncomputable def DA(c:Tc)(k:Ek)(vs:List V)(s:VS):R (Fl×LE):=calm s (ag (ua k vs) .no λi => .exc ⟨s.o,Zj (c,i),s.cap⟩)
noncomputable def Nk(v:V):Bool:=match v with
 | .exc=>Zm
 | _=>Zn
noncomputable def MR(c:Tc):Option Ek:=ag (T.cl c) Zk λk=>k.exc
noncomputable def newX(v:V)(as:List Expr)(sc:Tz)(le:LE)(s:VS):R (Fl×LE):=ag (Hf v) .no λc=>ag (MR T c) .no λk=>(I.es as sc le s).bind λvs s=>DA c k vs s
noncomputable def kF(e:Expr)(sc:Tz)(le:LE)(s:VS):R (Fl×LE):=ag (nh e) (ag (eM e) .no λx=>ag (ea T x.1 sc le) .no λv=>ac (Nk v) (.exc s) .no)
 λp=>ag (eM p.1) .no λx=>ac (ip p.2.2.1) (ac (bH 20 p.2.1) (ag (ea T x.1 sc le) .no λv=>newX T I v p.2.1 sc le s) .no) .no
mutual
noncomputable def O1:V->Bool
 | .exc=>Zn
 | .tup vs=>Al vs
 | .d _=>Zm
 | .val _=>Zm
 | .ref _=>Zm
 | .rng _=>Zm
noncomputable def Al:List V->Bool
 | []=>Zm
 | v::r=>ac (O1 v) (Al r) Zn
end
noncomputable def pB(fs:List (Tq×V)):Bool:=@Ud (Tq×V) (λ_=>Bool) Zm (λp _ ih=>ac (O1 p.2) ih Zn) fs
noncomputable def xQ(fs:List (SQ×V)):Bool:=@Ud (SQ×V) (λ_=>Bool) Zm (λp _ ih=>ac (O1 p.2) ih Zn) fs
noncomputable def uq:O->Bool
 | .a_ _=>Zm
 | .dead=>Zm
 | .p_ vs=>Al vs
 | .dict kvs=>xQ kvs
 | .inst _ fs=>pB fs
 | .clo _ _ _ fs=>pB fs
noncomputable def iP(l:List O):Bool:=@Ud O (λ_=>Bool) Zm (λo _ ih=>ac (uq o) ih Zn) l
noncomputable def x_(ns:List (Tq×Tp))(le:LE):LE:=
 @Ud (Tq×V) (λ_=>LE) [] (λp _ ih=>match ah ns p.1 with
  | some .local=>ih
  | _=>p::ih) le
noncomputable def ez(sc:Tz)(n:Option Tq)(r:R (Fl×LE)):R (Fl×LE):=r.bind λp s=>ac (iP s.o) (match p.1 with
 | .next=>match n with
  | none=>ac (pB p.2) (.ok (.next,p.2) ⟨s.o,Zk,s.cap⟩) .no
  | some _ => .no
 | .ret v=>ac (O1 v) (ac (pB (x_ sc.names p.2)) (.ok (.ret v,x_ sc.names p.2) ⟨s.o,Zk,s.cap⟩) .no) .no
 | _ => .no) .no
noncomputable def vk(hs:List Uk)(sc:Tz)(le:LE)(s:VS):R (Fl×LE):=ag s.x .no λp=>ag (cx T sc hs p.1) .no λq=>ac (ip q.2) .no (ez sc q.1 (I.ex q.2 sc (ag q.1 le λx=>aR le x .exc) s))
noncomputable def Iy(ts:List Expr):Bool:=ag (one ts) Zn λt=>(eM t).isSome
mutual
noncomputable def Ab:T9->Bool
 | .Assign ts _ _=>Iy ts
 | .Expr _ _=>Zm
 | .Return _ _=>Zm
 | .If _ b o _=>ac (bP b) (bP o) Zn
 | _=>Zn
noncomputable def bP:List T9->Bool
 | []=>Zm
 | [st]=>Ab st
 | _=>Zn
end
noncomputable def Gr(r:R (Fl×LE))(f:VS->R (Fl×LE)):R (Fl×LE):=@R.rec (Fl×LE) (λ_=>R (Fl×LE)) .ok f .no r
noncomputable def ER(body:List T9)(hs:List Uk)(orelse fin:List T9)(sc:Tz)(le:LE)(s:VS):R (Fl×LE):=
 ac (hU [ip orelse,ip fin,bP body]) (ac (ip hs) .no (calm s (Gr (I.ex body sc le s) (vk T I hs sc le)))) .no
noncomputable def Fj(nm:Tq)(a:UW)(dc:List Expr)(ret:Option Expr)(tp:List TypeParam)(fsc:Tz)(Pz:Option Tz)(bd:Tq)(sc:Tz)(le:LE):Bool:=
 hU [ip dc,ret.isNone,ip tp,Pz.isNone,cI fsc,bL a,um a,se a.args,dE fsc.names (bg a.args),aw nm bd,dz sc,d8 sc.names le fsc.names,mL (ah sc.names bd)]
noncomputable def E7(nm:Tq)(a:UW)(b:List T9)(dc:List Expr)(ret:Option Expr)(tp:List TypeParam)(fsc:Tz)(Pz:Option Tz)(bd:Tq)(sc:Tz)(le:LE)(s:VS):R (Fl×LE):=
 ac (Fj nm a dc ret tp fsc Pz bd sc le) ((s.new (.clo a b fsc (gi fsc.names le))).bind λv s => .ok (.next,aR le bd v) s) .no
noncomputable def Gg(e:Option Expr)(sc:Tz)(le:LE)(s:VS):R (Fl×LE):=match e with
 | some e=>(I.ev e sc le s).bind λv s => .ok (.ret v,le) s
 | none => .ok (.ret (.d .none),le) s
noncomputable def fI(t e:Expr):Bool:=ac (eA e) Zm (ac (lJ e) (lJ t) Zn)
noncomputable def jD(t:Expr)(c:Expr×List Vh×Tz×Vw)(sc:Tz)(le:LE)(s:VS):R (Fl×LE):=ag (eM t) .no λx=>
 ac (hU [mL (ah sc.names x.1),(ah c.2.2.1.names x.1).isNone,Ue x.2.line c.2.2.2.line]) ((jv I c.1 c.2.1 c.2.2.1 sc le s).bind λv s => .ok (.next,aR le x.1 v) s) .no
noncomputable def Gk(ts:List Expr)(e:Expr)(sc:Tz)(le:LE)(s:VS):R (Fl×LE):=ag (one ts) .no λt=>ag (gW e)
 (ac (fI t e) .no ((I.ev e sc le s).bind λv s=>(assign T I t sc le v s).bind λle s => .ok (.next,le) s)) λc=>jD I t c sc le s
noncomputable def JI(t:Expr)(b o:List T9)(sc:Tz)(le:LE)(s:VS):R (Fl×LE):=(I.te t sc le s).bind λc s=>ac c (I.ex b sc le s) (I.ex o sc le s)
noncomputable def aA(st:T9)(sc:Tz)(le:LE)(s:VS):R (Fl×LE):=@YS (λ_=>R (Fl×LE)) st
 (λnm a b dc ret tp fsc Pz bd _=>E7 nm a b dc ret tp fsc Pz bd sc le s) (λ_ _ _ _ _ _ _ _ _ _ => .no) (λ_ _ _ _ _ _ _ _ _ _ _ => .no) (λe _=>Gg I e sc le s) (λ_ _ => .no) (λts e _=>Gk T I ts e sc le s)
 (λ_ _ _ _ _ _ _ => .no) (λt op e _=>wm T I t op e sc le s) (λ_ _ _ _ _ => .no) (λt it b o _=>Fs T I t it b o sc le s) (λ_ _ _ _ _ => .no) (λ_ _ _ _ => .no)
 (λt b o _=>JI I t b o sc le s) (λ_ _ _ => .no) (λ_ _ _ => .no) (λ_ _ _ => .no) (λe c _=>match e,c with|some e,Zk=>kF T I e sc le s|_,_ => .no)
 (λb hs o f _=>ER T I b hs o f sc le s) (λ_ _ _ _ _ => .no) (λ_ _ _ => .no) (λ_ _ => .no) (λ_ _ _ _ => .no) (λ_ _ => .no) (λ_ _ => .no)
 (λe _=>ac (eA e) .no ((I.ev e sc le s).bind λ_ s => .ok (.next,le) s)) (λ_ => .ok (.next,le) s) (λ_ => .no) (λ_ => .no)
noncomputable def G8(r:List T9)(sc:Tz)(p:Fl×LE)(s:VS):R (Fl×LE):=match p.1 with
 | .next=>I.ex r sc p.2 s
 | f => .ok (f,p.2) s
noncomputable def zM(l:List T9)(sc:Tz)(le:LE)(s:VS):R (Fl×LE):=match l with
 | [] => .ok (.next,le) s
 | st::r=>(aA T I st sc le s).bind λp s=>G8 I r sc p s
noncomputable def pu(xs:List Tq)(vs:List V):Option LE:=@Ud Tq (λ_=>List V->Option LE) (λvs=>ac (ip vs) (Zj []) Zk) (λx _ ih vs=>ag (mK vs) Zk λp=>ag (ih p.2) Zk λl=>Zj ((x,p.1)::l)) xs vs
noncomputable def br(mark:Nat)(p:Fl×LE)(s:VS):R V:=match p.1 with
 | .ret v=>cz mark v s
 | .next=>cz mark (.d .none) s
 | _ => .no
noncomputable def cD(body:List T9)(sc:Tz)(le:LE)(s:VS):R V:=(I.ex body sc le s).bind λp s₁=>br (len s.o) p s₁
noncomputable def DJ(v:V)(w:V)(s:VS):R V:=ag (gR w) .no λx=>ac (i5 x) (.ok v s) .no
noncomputable def gr(fn:Fn)(as:List V)(s:VS):R V:=ag (pu fn.params as) (ag (pu fn.params (as++fn.Pd)) .no λle=>cD I fn.body fn.scope le s) λle=>cD I fn.body fn.scope le s
noncomputable def oA(a:Tc)(c:Cl)(as:List V)(s:VS):R V:=ac c.exc.isNone (ag c.init .no λf=>(s.new (.inst a [])).bind λv s=>(I.cl (.val (.ref f)) (v::as) s).bind λw s=>DJ v w s) .no
noncomputable def Lx:O->Option (UW×List T9×Tz×LE)
 | .clo a b sc cap=>Zj (a,b,sc,cap)
 | _=>Zk
noncomputable def Fw(s:VS)(i:Nat):Option (UW×List T9×Tz×LE):=ag (s.get i) Zk Lx
noncomputable def pH(i:Nat)(as:List V)(s:VS):R V:=ag (Fw s i) .no λp=>ag (pu (bg p.1.args) as) .no λle=>cD I p.2.1 p.2.2.1 (p.2.2.2++le) s
noncomputable def I3(Sp:eR)(u:SX)(as:List V)(s:VS):R V:=match u with
 | .ref a=>ag (Sp a) (ag (T.fn a) (ag (T.cl a) .no λc=>oA I a c as s) λfn=>gr I fn as s) λsp=>sp as s
 | id=>zI T id as s
noncomputable def zO(Sp:eR)(f:V)(as:List V)(s:VS):R V:=match f with
 | .val u=>I3 T I Sp u as s
 | .ref i=>pH I i as s
 | _ => .no
end
noncomputable def MM:It:=⟨λ_ _ _ _ => .no,λ_ _ _ _ => .no,λ_ _ _ _ => .no,λ_ _ _ _ _ => .no,λ_ _ _ _ => .no,λ_ _ _ => .no⟩
noncomputable def aa(T:Tab)(Sp:eR)(n:Nat):It:=@Xm (λ_=>It) MM (λ_ I=>⟨FU T I,FZ I,Ia I,Br I,zM T I,zO T I Sp⟩) n
noncomputable def af:eR:=λ_=>Zk
noncomputable def tA{α:Type}(f:Bool->α):α×α:=(f Zn,f Zm)
noncomputable def tB{α:Type}(f:Bool->α):α×α:=(f Zn,f Zm)
theorem bt{α:Type}{f g:Bool->α}(a:Bool)(h:(tA f)=tB g):f a=g a:=@Uv (λa=>f a=g a) (congrArg Prod.fst h) (congrArg Prod.snd h) a
theorem Cn{α:Type}{f g:Bool->Bool->α}(a b:Bool)(h:(tA λa=>tA (f a))=tB λa=>tB (g a)):f a b=g a b:=bt b (bt a h)
theorem IN{α:Type}{f g:Bool->Bool->Bool->α}(a b c:Bool)(h:(tA λa=>tA λb=>tA (f a b))=tB λa=>tB λb=>tB (g a b)):f a b c=g a b c:=Cn b c (bt a h)
theorem km{α:Type}{f g:Bool->Bool->Bool->Bool->α}(a b c d:Bool)(h:(tA λa=>tA λb=>tA λc=>tA (f a b c))=tB λa=>tB λb=>tB λc=>tB (g a b c)):f a b c d=g a b c d:=IN b c d (bt a h)
theorem Ni{α:Type}{f g:Bool->Bool->Bool->Bool->Bool->α}(a b c d e:Bool)(h:(tA λa=>tA λb=>tA λc=>tA λd=>tA (f a b c d))=tB λa=>tB λb=>tB λc=>tB λd=>tB (g a b c d)):f a b c d e=g a b c d e:=km b c d e (bt a h)
theorem JT{α:Type}{f g:Bool->Bool->Bool->Bool->Bool->Bool->α}(a b c d e i:Bool)(h:(tA λa=>tA λb=>tA λc=>tA λd=>tA λe=>tA (f a b c d e))=tB λa=>tB λb=>tB λc=>tB λd=>tB λe=>tB (g a b c d e)):f a b c d e i=g a b c d e i:=Ni b c d e i (bt a h)
theorem Oi{α:Type}{f g:Bool->Bool->Bool->Bool->Bool->Bool->Bool->α}(a b c d e i j:Bool)(h:(tA λa=>tA λb=>tA λc=>tA λd=>tA λe=>tA λi=>tA (f a b c d e i))=tB λa=>tB λb=>tB λc=>tB λd=>tB λe=>tB λi=>tB (g a b c d e i)):f a b c d e i j=g a b c d e i j:=JT b c d e i j (bt a h)
theorem Od{α:Type}{P:List α->Prop}(h:P []):∀ l:List α,l.length < 1->P l:=λl=>by
 cases l with
 | nil=>exact λ_=>h
 | cons a l=>exact λh=>absurd (Vz h) (W9 _)
theorem Lc{α:Type}{n:Nat}{P:List α->Prop}(h:P [])(k:∀ a l,l.length < n->P (a::l)):∀ l:List α,l.length < n+1->P l:=λl=>by
 cases l with
 | nil=>exact λ_=>h
 | cons a l=>exact λh=>k a l (Vz h)
theorem Ng{α:Type}{P:List α->Prop}(l:List α)(hl:l.length < 2)(h0:P [])(h1:∀ a,P [a]):P l:=
 Lc h0 (λa=>Od (P:=λl=>P (a::l)) (h1 a)) l hl
theorem Mv{α:Type}{P:List α->Prop}(l:List α)(hl:l.length < 3)(h0:P [])(h1:∀ a,P [a])(h2:∀ a b,P [a,b]):P l:=
 Lc h0 (λa l hl=>Ng (P:=λl=>P (a::l)) l hl (h1 a) (h2 a)) l hl
theorem AB{α:Type}{P:List α->Prop}(l:List α)(hl:l.length < 4)(h0:P [])(h1:∀ a,P [a])(h2:∀ a b,P [a,b])(h3:∀ a b c,P [a,b,c]):P l:=
 Lc h0 (λa l hl=>Mv (P:=λl=>P (a::l)) l hl (h1 a) (h2 a) (h3 a)) l hl
theorem F7{α:Type}{P:List α->Prop}(l:List α)(hl:l.length < 5)(h0:P [])(h1:∀ a,P [a])(h2:∀ a b,P [a,b])(h3:∀ a b c,P [a,b,c])(h4:∀ a b c d,P [a,b,c,d]):P l:=
 Lc h0 (λa l hl=>AB (P:=λl=>P (a::l)) l hl (h1 a) (h2 a) (h3 a) (h4 a)) l hl
theorem B7{n:Nat}{P:Nat->Prop}(h:P 0)(k:∀ m,m < n->P (m+1)):∀ m,m < n+1->P m:=λm=>@Xm (λm=>m < n+1->P m) (λ_=>h) (λm _ h=>k m (Vz h)) m
theorem L1{P:Nat->Prop}:∀ m,m < 0->P m:=λm h=>absurd h (W9 m)
theorem ME{P:Nat->Prop}(m:Nat)(hm:m < 2)(h0:P 0)(h1:P 1):P m:=B7 h0 (B7 h1 L1) m hm
theorem sB{P:Nat->Prop}(m:Nat)(hm:m < 3)(h0:P 0)(h1:P 1)(h2:P 2):P m:=B7 h0 (λm hm=>ME (P:=λm=>P (m+1)) m hm h1 h2) m hm
theorem JF{P:Nat->Prop}(m:Nat)(hm:m < 4)(h0:P 0)(h1:P 1)(h2:P 2)(h3:P 3):P m:=B7 h0 (λm hm=>sB (P:=λm=>P (m+1)) m hm h1 h2 h3) m hm
theorem N8{P:Nat->Prop}(m:Nat)(hm:m < 5)(h0:P 0)(h1:P 1)(h2:P 2)(h3:P 3)(h4:P 4):P m:=B7 h0 (λm hm=>JF (P:=λm=>P (m+1)) m hm h1 h2 h3 h4) m hm
theorem MH{P:Nat->Prop}(m:Nat)(hm:m < 6)(h0:P 0)(h1:P 1)(h2:P 2)(h3:P 3)(h4:P 4)(h5:P 5):P m:=B7 h0 (λm hm=>N8 (P:=λm=>P (m+1)) m hm h1 h2 h3 h4 h5) m hm
theorem M9{P:Nat->Prop}(m:Nat)(hm:m < 8)(h0:P 0)(h1:P 1)(h2:P 2)(h3:P 3)(h4:P 4)(h5:P 5)(h6:P 6)(h7:P 7):P m:=
 B7 h0 (λm hm=>B7 (P:=λm=>P (m+1)) h1 (λm hm=>MH (P:=λm=>P (m+1+1)) m hm h2 h3 h4 h5 h6 h7) m hm) m hm
end
section
open PySem
noncomputable def ao:List T9:=PySem.Challenge.pw_no0280_01.main.body
noncomputable def aE:T9->List T9
 | .ClassDef _ _ _ b _ _ _ _ _ _ _=>b
 | _=>[]
noncomputable def Hz:Expr->List V
 | .Constant c _ _=>match tD c with
  | some v=>[v]
  | none=>[]
 | _=>[]
noncomputable def fC:List Expr->List V
 | []=>[]
 | e::r=>Hz e++fC r
noncomputable def kq:T9->Fn
 | .FunctionDef _ a b _ _ _ sc _ _ _=>⟨bg a.args,fC a.defaults,b,sc⟩
 | _=>⟨[],[],[],{ kind := .module,names:=[],isGenerator:=Zn,isCoroutine:=Zn,more:=[] }⟩
noncomputable def ai(l:List T9)(n:Nat):T9:=match f9 l n with
 | some x=>x
 | none => .Pass default
noncomputable def aI(i:Nat):Fn:=kq (ai ao i)
noncomputable def jm(i j:Nat):Fn:=kq (ai (aE (ai ao i)) j)
noncomputable def cw{α:Type}(l:List (Nat×α))(a:Nat):Option α:=
 @Ud (Nat×α) (λ_=>Option α) Zk (λp _ ih=>@Uv (λ_=>Option α) ih (Zj p.2) (Ue p.1 a)) l
noncomputable def L5:List (Nat×Fn):=[(21,aI 0),(35,jm 2 0),(67,jm 4 0),(86,jm 5 0),(98,aI 11),(112,jm 15 0),(119,jm 15 1),(126,jm 15 2),(133,jm 15 3),(147,aI 16),(154,aI 17),(161,aI 18),(168,aI 19),(175,aI 20),(182,aI 21),(189,aI 22),(196,aI 23),(203,aI 24),(208,aI 25),(215,aI 32),(222,aI 33),(229,aI 34),(236,aI 35),(243,aI 36),(250,aI 37),(257,aI 38),(264,aI 39),(271,aI 40),(285,jm 41 0),(292,jm 41 1),(306,aI 42),(320,jm 44 0),(327,jm 44 1),(348,jm 46 0),(362,aI 47),(376,jm 51 0),(383,jm 51 1),(404,jm 52 0),(411,jm 52 1),(425,aI 53),(432,aI 54),(439,aI 55),(446,aI 56),(460,jm 57 0),(467,jm 57 1),(474,jm 57 2),(488,aI 58),(495,aI 59),(502,aI 60),(509,aI 61),(516,aI 62),(523,aI 63),(530,aI 64),(537,aI 66),(542,aI 67),(549,aI 68),(556,aI 69),(563,aI 70),(570,aI 71),(577,aI 72),(584,aI 73),(591,aI 74),(598,aI 75),(605,aI 76),(612,aI 77),(619,aI 78),(626,aI 79),(633,aI 80),(640,aI 81),(655,jm 83 0),(676,jm 85 0),(688,aI 86),(702,jm 89 0),(709,jm 89 1),(716,jm 89 2),(737,jm 90 0),(744,jm 90 1),(751,jm 90 2),(766,aI 93),(773,aI 94),(780,aI 95),(787,aI 96),(792,aI 97),(799,aI 98),(806,aI 99),(813,aI 100),(820,aI 101),(825,aI 102),(830,aI 103)]
noncomputable def Qd:List (Nat×Cl):=[(38,⟨Zj 35,[(⟨⟨[95,95,105,110,105,116,95,95]⟩⟩,35)],[],Zj .run⟩),
 (51,⟨Zj 35,[(⟨⟨[95,95,105,110,105,116,95,95]⟩⟩,35)],[],Zj .run⟩),
 (70,⟨Zj 67,[(⟨⟨[95,95,105,110,105,116,95,95]⟩⟩,67)],[],Zj .io⟩),
 (89,⟨Zj 86,[(⟨⟨[95,95,105,110,105,116,95,95]⟩⟩,86)],[],Zj .eof⟩),
 (136,⟨Zj 112,[(⟨⟨[95,95,105,110,105,116,95,95]⟩⟩,112),(⟨⟨[108,111,97,100]⟩⟩,119),(⟨⟨[115,116,111,114,101]⟩⟩,126),(⟨⟨[117,110,100,101,102,105,110,101]⟩⟩,133)],[⟨⟨[110,117,109,101,114,105,99]⟩⟩,⟨⟨[99,104,97,114,97,99,116,101,114,115]⟩⟩],Zk⟩),
 (295,⟨Zj 285,[(⟨⟨[95,95,105,110,105,116,95,95]⟩⟩,285),(⟨⟨[110,101,120,116,95,114,101,99,111,114,100]⟩⟩,292)],[⟨⟨[117,110,105,116]⟩⟩],Zk⟩),
 (330,⟨Zj 320,[(⟨⟨[95,95,105,110,105,116,95,95]⟩⟩,320),(⟨⟨[110,101,120,116,95,114,101,99,111,114,100]⟩⟩,327)],[⟨⟨[114,101,99,111,114,100,115]⟩⟩,⟨⟨[97,116]⟩⟩],Zk⟩),
 (351,⟨Zj 348,[(⟨⟨[95,95,105,110,105,116,95,95]⟩⟩,348)],[⟨⟨[105,110,112,117,116]⟩⟩,⟨⟨[97,116]⟩⟩,⟨⟨[111,117,116]⟩⟩,⟨⟨[115,116,111,114,101]⟩⟩,⟨⟨[117,110,105,116,115]⟩⟩,⟨⟨[109,97,107,101,114,115]⟩⟩],Zk⟩),
 (386,⟨Zj 376,[(⟨⟨[95,95,105,110,105,116,95,95]⟩⟩,376),(⟨⟨[110,101,120,116,95,114,101,99,111,114,100]⟩⟩,383)],[⟨⟨[119,111,114,108,100]⟩⟩],Zk⟩),
 (414,⟨Zj 404,[(⟨⟨[95,95,105,110,105,116,95,95]⟩⟩,404),(⟨⟨[110,101,120,116,95,114,101,99,111,114,100]⟩⟩,411)],[⟨⟨[117,110,105,116]⟩⟩,⟨⟨[114,101,99]⟩⟩],Zk⟩),
 (477,⟨Zj 460,[(⟨⟨[95,95,105,110,105,116,95,95]⟩⟩,460),(⟨⟨[112,117,116]⟩⟩,467),(⟨⟨[102,105,110,105,115,104]⟩⟩,474)],[⟨⟨[119,111,114,108,100]⟩⟩,⟨⟨[99,111,110,116,114,111,108]⟩⟩,⟨⟨[109,97,107,101,114]⟩⟩],Zk⟩),
 (658,⟨Zj 655,[(⟨⟨[95,95,105,110,105,116,95,95]⟩⟩,655)],[⟨⟨[119,105,100,116,104]⟩⟩,⟨⟨[114,101,97,108,95,100,105,103,105,116,115]⟩⟩,⟨⟨[100,111,117,98,108,101,95,100,105,103,105,116,115]⟩⟩,⟨⟨[116,111,112,95,101,120,112,111,110,101,110,116]⟩⟩,⟨⟨[115,116,101,112,115]⟩⟩,⟨⟨[99,111,110,116,105,110,117,97,116,105,111,110,115]⟩⟩,⟨⟨[99,111,108,117,109,110,115]⟩⟩,⟨⟨[100,101,112,116,104]⟩⟩],Zk⟩),
 (679,⟨Zj 676,[(⟨⟨[95,95,105,110,105,116,95,95]⟩⟩,676)],[⟨⟨[109,101,109,111,114,121]⟩⟩,⟨⟨[108,105,109,105,116,115]⟩⟩,⟨⟨[99,111,100,101,115]⟩⟩,⟨⟨[102,114,97,109,101,115]⟩⟩,⟨⟨[111,112,115]⟩⟩,⟨⟨[111,112,101,114,97,116,105,111,110,115]⟩⟩,⟨⟨[105,111]⟩⟩,⟨⟨[101,110,116,101,114]⟩⟩,⟨⟨[119,111,114,108,100]⟩⟩,⟨⟨[102,117,110,99,116,105,111,110,115]⟩⟩,⟨⟨[99,108,101,97,114,115]⟩⟩,⟨⟨[112,108,97,99,101,115]⟩⟩,⟨⟨[117,110,105,116,115]⟩⟩,⟨⟨[97,99,116,105,118,101]⟩⟩,⟨⟨[116,114,97,110,115,102,101,114,115]⟩⟩,⟨⟨[115,116,101,112,115]⟩⟩],Zk⟩),
 (719,⟨Zj 702,[(⟨⟨[95,95,105,110,105,116,95,95]⟩⟩,702),(⟨⟨[112,117,116]⟩⟩,709),(⟨⟨[102,105,110,105,115,104]⟩⟩,716)],[⟨⟨[105,116,101,109,115]⟩⟩],Zk⟩),
 (754,⟨Zj 737,[(⟨⟨[95,95,105,110,105,116,95,95]⟩⟩,737),(⟨⟨[116,97,107,101]⟩⟩,744),(⟨⟨[102,105,110,105,115,104]⟩⟩,751)],[⟨⟨[114,101,99,111,114,100]⟩⟩,⟨⟨[97,116]⟩⟩],Zk⟩)]
noncomputable def Pt:List (Nat×List (Nat×Unit)):=[(38,[(38,())]),(51,[(51,()),(38,())]),(70,[(70,()),(38,())]),(89,[(89,()),(70,()),(38,())])]
noncomputable def wq:List (Tq×V):=[(⟨⟨[95,119,97,108,108]⟩⟩,.val (.ref 21)),
 (⟨⟨[117,110,105,116,115,95,111,102]⟩⟩,.val (.ref 98)),
 (⟨⟨[110,101,101,100,95,117,110,105,116,115]⟩⟩,.val (.ref 147)),
 (⟨⟨[114,101,97,100,95,99,101,108,108]⟩⟩,.val (.ref 154)),
 (⟨⟨[108,111,97,100,95,110,117,109,98,101,114]⟩⟩,.val (.ref 161)),
 (⟨⟨[115,116,111,114,101,95,110,117,109,98,101,114]⟩⟩,.val (.ref 168)),
 (⟨⟨[108,111,97,100,95,116,101,120,116]⟩⟩,.val (.ref 175)),
 (⟨⟨[115,116,111,114,101,95,116,101,120,116]⟩⟩,.val (.ref 182)),
 (⟨⟨[112,97,100]⟩⟩,.val (.ref 189)),
 (⟨⟨[117,110,105,116,95,115,105,122,101]⟩⟩,.val (.ref 196)),
 (⟨⟨[101,120,116,101,110,116]⟩⟩,.val (.ref 203)),
 (⟨⟨[101,108,101,109,101,110,116,115,95,111,102]⟩⟩,.val (.ref 208)),
 (⟨⟨[117,110,105,116,95,111,102]⟩⟩,.val (.ref 215)),
 (⟨⟨[110,101,101,100,95,97,99,99,101,115,115]⟩⟩,.val (.ref 222)),
 (⟨⟨[110,101,101,100,95,102,111,114,109]⟩⟩,.val (.ref 229)),
 (⟨⟨[114,101,97,100,95,114,101,99,111,114,100]⟩⟩,.val (.ref 236)),
 (⟨⟨[99,117,116,95,102,105,108,101]⟩⟩,.val (.ref 243)),
 (⟨⟨[119,114,105,116,101,95,114,101,99,111,114,100]⟩⟩,.val (.ref 250)),
 (⟨⟨[115,105,122,101,95,111,102]⟩⟩,.val (.ref 257)),
 (⟨⟨[114,101,97,100,95,100,105,114,101,99,116]⟩⟩,.val (.ref 264)),
 (⟨⟨[119,114,105,116,101,95,100,105,114,101,99,116]⟩⟩,.val (.ref 271)),
 (⟨⟨[102,105,116,95,105,110,116,101,114,110,97,108]⟩⟩,.val (.ref 306)),
 (⟨⟨[110,101,120,116,95,105,110,112,117,116]⟩⟩,.val (.ref 362)),
 (⟨⟨[105,115,95,105,110,116,101,114,110,97,108]⟩⟩,.val (.ref 425)),
 (⟨⟨[117,110,105,116,95,102,111,114]⟩⟩,.val (.ref 432)),
 (⟨⟨[105,115,95,115,116,97,110,100,97,114,100]⟩⟩,.val (.ref 439)),
 (⟨⟨[109,97,107,101,114,95,111,102]⟩⟩,.val (.ref 446)),
 (⟨⟨[98,101,103,105,110,95,119,114,105,116,101]⟩⟩,.val (.ref 488)),
 (⟨⟨[100,101,108,105,118,101,114]⟩⟩,.val (.ref 495)),
 (⟨⟨[115,111,117,114,99,101,95,111,102]⟩⟩,.val (.ref 502)),
 (⟨⟨[105,115,95,98,108,97,110,107,95,122,101,114,111]⟩⟩,.val (.ref 509)),
 (⟨⟨[98,101,103,105,110,95,114,101,97,100]⟩⟩,.val (.ref 516)),
 (⟨⟨[105,111,115,116,97,116,95,111,102]⟩⟩,.val (.ref 523)),
 (⟨⟨[111,117,116,99,111,109,101]⟩⟩,.val (.ref 530)),
 (⟨⟨[108,97,98,101,108,95,116,101,120,116]⟩⟩,.val (.ref 537)),
 (⟨⟨[112,97,114,116,95,118,97,108,117,101]⟩⟩,.val (.ref 542)),
 (⟨⟨[99,111,110,116,114,111,108,95,111,102]⟩⟩,.val (.ref 549)),
 (⟨⟨[119,97,121,95,111,102]⟩⟩,.val (.ref 556)),
 (⟨⟨[102,97,108,108]⟩⟩,.val (.ref 563)),
 (⟨⟨[98,101,103,105,110]⟩⟩,.val (.ref 570)),
 (⟨⟨[105,111,95,98,101,103,105,110,95,119,114,105,116,101]⟩⟩,.val (.ref 577)),
 (⟨⟨[105,111,95,98,101,103,105,110,95,114,101,97,100]⟩⟩,.val (.ref 584)),
 (⟨⟨[105,111,95,112,117,116]⟩⟩,.val (.ref 591)),
 (⟨⟨[105,111,95,112,117,116,95,97,108,108]⟩⟩,.val (.ref 598)),
 (⟨⟨[105,111,95,116,97,107,101]⟩⟩,.val (.ref 605)),
 (⟨⟨[105,111,95,116,97,107,101,95,97,108,108]⟩⟩,.val (.ref 612)),
 (⟨⟨[105,111,95,102,105,110,105,115,104,95,119,114,105,116,101]⟩⟩,.val (.ref 619)),
 (⟨⟨[105,111,95,102,105,110,105,115,104,95,114,101,97,100]⟩⟩,.val (.ref 626)),
 (⟨⟨[105,111,95,115,116,97,116]⟩⟩,.val (.ref 633)),
 (⟨⟨[116,114,97,110,115,102,101,114,95,111,112,115]⟩⟩,.val (.ref 640)),
 (⟨⟨[112,108,97,105,110,95,102,114,97,109,101]⟩⟩,.val (.ref 688)),
 (⟨⟨[95,108,97,119,95,112,117,108,108]⟩⟩,.val (.ref 766)),
 (⟨⟨[95,108,97,119,95,118,97,108,117,101]⟩⟩,.val (.ref 773)),
 (⟨⟨[95,108,97,119,95,105,110,112,117,116,115]⟩⟩,.val (.ref 780)),
 (⟨⟨[95,108,97,119,95,115,116,97,116,101,109,101,110,116]⟩⟩,.val (.ref 787)),
 (⟨⟨[95,108,97,119,95,112,97,114,116,115]⟩⟩,.val (.ref 792)),
 (⟨⟨[95,108,97,119,95,100,117,101]⟩⟩,.val (.ref 799)),
 (⟨⟨[95,108,97,119,95,119,97,121]⟩⟩,.val (.ref 806)),
 (⟨⟨[95,108,97,119,95,116,111,108,100]⟩⟩,.val (.ref 813)),
 (⟨⟨[95,108,97,119,95,104,101,97,114,100]⟩⟩,.val (.ref 820)),
 (⟨⟨[95,108,97,119,95,109,97,99,104,105,110,101]⟩⟩,.val (.ref 825)),
 (⟨⟨[108,97,119]⟩⟩,.val (.ref 830)),
 (⟨⟨[70,55,55,69,114,114,111,114]⟩⟩,.val (.ref 38)),
 (⟨⟨[82,117,110,70,97,117,108,116]⟩⟩,.val (.ref 51)),
 (⟨⟨[73,111,70,97,117,108,116]⟩⟩,.val (.ref 70)),
 (⟨⟨[69,110,100,70,97,117,108,116]⟩⟩,.val (.ref 89)),
 (⟨⟨[77,101,109,111,114,121]⟩⟩,.val (.ref 136)),
 (⟨⟨[85,110,105,116,83,111,117,114,99,101]⟩⟩,.val (.ref 295)),
 (⟨⟨[76,105,115,116,83,111,117,114,99,101]⟩⟩,.val (.ref 330)),
 (⟨⟨[87,111,114,108,100]⟩⟩,.val (.ref 351)),
 (⟨⟨[73,110,112,117,116,83,111,117,114,99,101]⟩⟩,.val (.ref 386)),
 (⟨⟨[68,105,114,101,99,116,83,111,117,114,99,101]⟩⟩,.val (.ref 414)),
 (⟨⟨[87,114,105,116,105,110,103]⟩⟩,.val (.ref 477)),
 (⟨⟨[76,105,109,105,116,115]⟩⟩,.val (.ref 658)),
 (⟨⟨[77,97,99,104,105,110,101]⟩⟩,.val (.ref 679)),
 (⟨⟨[80,108,97,105,110,79,117,116]⟩⟩,.val (.ref 719)),
 (⟨⟨[80,108,97,105,110,73,110]⟩⟩,.val (.ref 754)),
 (⟨⟨[95,95,110,97,109,101,95,95]⟩⟩,.d (.str ⟨⟨[108,97,119,95,110,111,48,50,56,48,95,48,49]⟩⟩)),
 (⟨⟨[82,69,65,76]⟩⟩,.d (.int 1)),
 (⟨⟨[68,79,85,66,76,69]⟩⟩,.d (.int 2)),
 (⟨⟨[67,79,77,80,76,69,88]⟩⟩,.d (.int 3)),
 (⟨⟨[67,72,65,82,65,67,84,69,82]⟩⟩,.d (.int 5)),
 (⟨⟨[83,69,67,79,78,68]⟩⟩,.d (.int 6)),
 (⟨⟨[76,65,66,69,76]⟩⟩,.d (.int 7)),
 (⟨⟨[78,79,84,95,67,79,78,78,69,67,84,69,68]⟩⟩,.d (.int 11)),
 (⟨⟨[87,82,79,78,71,95,83,79,82,84]⟩⟩,.d (.int 16)),
 (⟨⟨[66,69,72,73,78,68,95,69,78,68]⟩⟩,.d (.int 17)),
 (⟨⟨[78,79,95,82,69,67,79,82,68]⟩⟩,.d (.int 18)),
 (⟨⟨[84,79,79,95,76,79,78,71]⟩⟩,.d (.int 19)),
 (⟨⟨[73,78,80,85,84,95,85,78,73,84]⟩⟩,.d (.int 5)),
 (⟨⟨[79,85,84,80,85,84,95,85,78,73,84]⟩⟩,.d (.int 6)),
 (⟨⟨[66,65,68,95,82,69,67,79,82,68]⟩⟩,.d (.int 7)),
 (⟨⟨[95,108,97,119,95,102,111,114,109,97,116,115]⟩⟩,.d (.dict [(.int 10,.str ⟨⟨[40,73,52,41]⟩⟩),(.int 20,.str ⟨⟨[40,76,50,41]⟩⟩)])),
 (⟨⟨[108,101,110]⟩⟩,.val (.builtin "len")),
 (⟨⟨[105,115,105,110,115,116,97,110,99,101]⟩⟩,.val (.builtin "isinstance")),
 (⟨⟨[114,101,112,114]⟩⟩,.val (.builtin "repr")),
 (⟨⟨[114,97,110,103,101]⟩⟩,.val (.type "range")),
 (⟨⟨[108,105,115,116]⟩⟩,.val (.type "list")),
 (⟨⟨[100,105,99,116]⟩⟩,.val (.type "dict")),
 (⟨⟨[116,117,112,108,101]⟩⟩,.val (.type "tuple")),
 (⟨⟨[115,116,114]⟩⟩,.val (.type "str")),
 (⟨⟨[105,110,116]⟩⟩,.val (.type "int"))]
noncomputable def CY(c k:Tc):Option Bool:=match cw Pt c,cw Pt k with
 | some l,Zj _=>match cw l k with
  | some _=>Zj Zm
  | none=>Zj Zn
 | _,_=>Zk
noncomputable def T0:Tab:=⟨ak wq,cw L5,cw Qd,CY⟩
end
section
open PySem PySem.W PyProof.Rows PyProof
noncomputable def Ox:SX->Bool
 | .none=>Zn
 | .type t => !(t=="traceback" || t=="list_iterator" || t=="tuple_iterator" || t=="range_iterator")
 | _=>Zm
noncomputable def PN:List SX:=[.type "Exception",.type "BaseException",.type "object"]
noncomputable def c9:List Tq:=["__setattr__","code","text","__getattribute__","__getattr__","__class__"]
abbrev Gt:=Tc->Option V3
noncomputable def rS:SX->Option Tq
 | .str x _=>Zj x
 | _=>Zk
noncomputable def uv:SX->Option Int
 | .int i _=>Zj i
 | _=>Zk
noncomputable def Gd:SX->Option Bool
 | .bool b=>Zj b
 | _=>Zk
noncomputable def pR:SX->Option Tc
 | .ref a=>Zj a
 | _=>Zk
noncomputable def Mp:SX->Option String
 | .type t=>Zj t
 | _=>Zk
noncomputable def Lb:SX->Bool
 | .none=>Zm
 | _=>Zn
noncomputable def iQ:Data->Option (List Vm)
 | .dict es _=>Zj es.toList
 | _=>Zk
noncomputable def ky:Data->Option (Array SX)
 | .fields vs=>Zj vs
 | _=>Zk
noncomputable def J5:Data->Option (Array SX)
 | .seq vs _=>Zj vs
 | _=>Zk
noncomputable def rN:Data->Option YG
 | .func f=>Zj f
 | _=>Zk
noncomputable def EH(o:V3)(t:String):Bool:=ag (Mp o.cls) Zn λx=>x==t
noncomputable def Bg(v:SX)(x:Tq):Bool:=ag (rS v) Zn λn=>aw n x
noncomputable def bS(l:List Vm)(x:Tq):Option SX:=@Ud Vm (λ_=>Option SX) Zk (λe _ ih=>@Uv (λ_=>Option SX) ih (Zj e.val) (Bg e.key x)) l
noncomputable def k8(l:List Vm):Bool:=@Ud Vm (λ_=>Bool) Zm (λe _ ih=>ag (rS e.key) Zn λ_=>ih) l
noncomputable def kb(g:Gt)(a:Tc):List Vm:=ag (g a) [] λo=>ag (iQ o.data) [] λl=>l
noncomputable def yE(g:Gt)(a:Tc):Bool:=ag (g a) Zn λo=>ag (Mp o.cls) Zn λ_=>ag (iQ o.data) Zn k8
noncomputable def FF(g:Gt)(a:Tc):Bool:=ag (g a) Zn λo=>ac (EH o "dict") (iQ o.data).isSome Zn
noncomputable def Ml(g:Gt)(a:Tc):Bool:=ag (g a) Zn λo=>ac (EH o "function") (rN o.data).isSome Zn
noncomputable def Gp{α:Type}(vs:Array SX)(i:Nat)(f:SX->Option α):Option α:=ag (f9 vs.toList i) Zk f
noncomputable def FC(g:Gt)(v:SX):Bool:=ag (pR v) Zn λc=>ag (g c) Zn λo=>ag (ky o.data) Zn λvs=>ac (Ox o.cls) (Gp vs 1 rS).isSome Zn
noncomputable def M3(g:Gt)(P:Tc):Bool:=ag (g P) Zn λo=>ac (Lb o.cls) (ag (ky o.data) Zn λps=>ac (Ue (len ps.toList) 0) (ac (Ue (len o.slots.toList) 0) o.dict.isNone Zn) Zn) Zn
noncomputable def J3(g:Gt)(c:Tc)(vs:Array SX):Bool:=
 ag (Gp vs 7 uv) Zn λ_=>ag (Gp vs 9 Gd) Zn λ_=>ag (Gp vs 10 uv) Zn λ_=>ag (Gp vs 18 rS) Zn λ_=>ag (Gp vs 11 pR) Zn λP=>ac (!(Ue c P)) (M3 g P) Zn
noncomputable def FW(g:Gt)(v:SX):Bool:=ag (pR v) Zn λc=>ag (g c) Zn λo=>ac (EH o "code") (ag (ky o.data) Zn λvs=>J3 g c vs) Zn
noncomputable def wG:List V->List SX->Bool
 | [],r=>ip r
 | v::r,r'=>ag (iH v) Zn λi=>ag r'.head? Zn λw=>ag (uv w) Zn λj=>ac (bR i j) (wG r r'.tail) Zn
noncomputable def MZ(g:Gt)(v:SX)(ds:List V):Bool:=ac (Lb v) (ip ds) (ag (pR v) Zn λT=>ag (g T) Zn λo=>ac (EH o "tuple") (ag (J5 o.data) Zn λitems=>wG ds items.toList) Zn)
noncomputable def stL:List (Nat×T9):=[(21,ai ao 0),(35,ai (aE (ai ao 2)) 0),(67,ai (aE (ai ao 4)) 0),(86,ai (aE (ai ao 5)) 0),(98,ai ao 11),(112,ai (aE (ai ao 15)) 0),(119,ai (aE (ai ao 15)) 1),(126,ai (aE (ai ao 15)) 2),(133,ai (aE (ai ao 15)) 3),(147,ai ao 16),(154,ai ao 17),(161,ai ao 18),(168,ai ao 19),(175,ai ao 20),(182,ai ao 21),(189,ai ao 22),(196,ai ao 23),(203,ai ao 24),(208,ai ao 25),(215,ai ao 32),(222,ai ao 33),(229,ai ao 34),(236,ai ao 35),(243,ai ao 36),(250,ai ao 37),(257,ai ao 38),(264,ai ao 39),(271,ai ao 40),(285,ai (aE (ai ao 41)) 0),(292,ai (aE (ai ao 41)) 1),(306,ai ao 42),(320,ai (aE (ai ao 44)) 0),(327,ai (aE (ai ao 44)) 1),(348,ai (aE (ai ao 46)) 0),(362,ai ao 47),(376,ai (aE (ai ao 51)) 0),(383,ai (aE (ai ao 51)) 1),(404,ai (aE (ai ao 52)) 0),(411,ai (aE (ai ao 52)) 1),(425,ai ao 53),(432,ai ao 54),(439,ai ao 55),(446,ai ao 56),(460,ai (aE (ai ao 57)) 0),(467,ai (aE (ai ao 57)) 1),(474,ai (aE (ai ao 57)) 2),(488,ai ao 58),(495,ai ao 59),(502,ai ao 60),(509,ai ao 61),(516,ai ao 62),(523,ai ao 63),(530,ai ao 64),(537,ai ao 66),(542,ai ao 67),(549,ai ao 68),(556,ai ao 69),(563,ai ao 70),(570,ai ao 71),(577,ai ao 72),(584,ai ao 73),(591,ai ao 74),(598,ai ao 75),(605,ai ao 76),(612,ai ao 77),(619,ai ao 78),(626,ai ao 79),(633,ai ao 80),(640,ai ao 81),(655,ai (aE (ai ao 83)) 0),(676,ai (aE (ai ao 85)) 0),(688,ai ao 86),(702,ai (aE (ai ao 89)) 0),(709,ai (aE (ai ao 89)) 1),(716,ai (aE (ai ao 89)) 2),(737,ai (aE (ai ao 90)) 0),(744,ai (aE (ai ao 90)) 1),(751,ai (aE (ai ao 90)) 2),(766,ai ao 93),(773,ai ao 94),(780,ai ao 95),(787,ai ao 96),(792,ai ao 97),(799,ai ao 98),(806,ai ao 99),(813,ai ao 100),(820,ai ao 101),(825,ai ao 102),(830,ai ao 103)]
noncomputable def tm(st:T9):Option (UW×List T9×Tz):=@YS (λ_=>Option (UW×List T9×Tz)) st (λ_ a b _ _ _ c _ _ _=>Zj (a,b,c)) (λa b c d f g h k m n=>Zk) (λa b c d f g h k m n u=>Zk) (λa b=>Zk) (λa b=>Zk) (λa b c=>Zk) (λa b c d f g h=>Zk) (λa b c d=>Zk) (λa b c d f=>Zk) (λa b c d f=>Zk) (λa b c d f=>Zk) (λa b c d=>Zk) (λa b c d=>Zk) (λa b c=>Zk) (λa b c=>Zk) (λa b c=>Zk) (λa b c=>Zk) (λa b c d f=>Zk) (λa b c d f=>Zk) (λa b c=>Zk) (λa b=>Zk) (λa b c d=>Zk) (λa b=>Zk) (λa b=>Zk) (λa b=>Zk) (λa=>Zk) (λa=>Zk) (λa=>Zk)
noncomputable def qg(g:Gt)(a:Tc):Option (UW×Xg×Tz):=ag (g a) Zk λo=>ag (rN o.data) Zk λfd=>Zj (fd.params,fd.body,fd.scope)
noncomputable def o5(g:Gt)(p:Nat×T9):Bool:=ag (tm p.2) Zn λd=>ag (g p.1) Zn λo=>ag (rN o.data) Zn λfd=>hU [EH o "function",o.dict.isNone,
 FC g fd.code,Ue fd.globals mainGlobals,Ue fd.builtins builtinsNs,fd.closure.isEmpty,MZ g fd.defaults (fC d.1.defaults),ac (dz d.2.2) (FW g fd.code) Zm]
noncomputable def iL(l:List Vm)(ns:List Tq):Bool:=d6 (λn=>ag (bS l n) Zm λ_=>Zn) ns
noncomputable def eq(v:Option SX)(a:Tc):Bool:=ag v Zn λv=>ag (pR v) Zn λb=>Ue b a
noncomputable def pI:List Tc->List SX->List SX->Bool
 | [],l,tl=>l==tl
 | b::r,l,tl=>ag l.head? Zn λv=>ag (pR v) Zn λa=>ac (Ue a b) (pI r l.tail tl) Zn
noncomputable def HU:Data->Option ClassData
 | .cls c=>Zj c
 | _=>Zk
noncomputable def Kg:SX->Option String
 | .builtin k=>Zj k
 | _=>Zk
noncomputable def Bs(l:List (Option SX))(mk:String):Bool:=ac (Ue (len l) 6) (ag (f9 l 4) Zn λv=>ag v Zn λw=>ag (Kg w) Zn λk=>k==mk) Zn
noncomputable def ll(g:Gt)(c:Tc)(r:List Tc)(tl:List SX)(mk:String)(ab:Bool)(N:Tc):Bool:=ag (g c) Zn λo=>ag (HU o.data) Zn λd=>
 ac (EH o "type") (ac (pI (c::r) d.mro tl) (ac (Ue d.ns N) (ac d.hasDict (ac (!d.hasDel) (ac (d.abstract==ab) (Bs o.slots.toList mk) Zn) Zn) Zn) Zn) Zn) Zn
noncomputable def cF(g:Gt)(c:Tc):Tc:=ag (g c) 0 λo=>ag (HU o.data) 0 λcd=>cd.ns
noncomputable def kz(g:Gt)(p:Nat×Cl):Bool:=ag p.2.exc (ac (ll g p.1 [] [.type "object"] "object.__new__" Zn (cF g p.1)) (ac (yE g (cF g p.1)) (ac (FF g (cF g p.1)) (ac (iL (kb g (cF g p.1)) ["__getattribute__","__getattr__","__setattr__"])
  (ac (iL (kb g (cF g p.1)) p.2.attrs) (ac (d6 (λq=>ac (eq (bS (kb g (cF g p.1)) q.1) q.2) (Ml g q.2) Zn) p.2.meths) (ag p.2.init Zm λf=>ac (eq (bS (kb g (cF g p.1)) "__init__") f) (Ml g f) Zn) Zn) Zn) Zn) Zn) Zn) Zn) λ_=>Zm
noncomputable def xL:List (Nat×List Nat):=[(38,[]),(51,[38]),(70,[38]),(89,[70,38])]
noncomputable def uO(g:Gt)(p:Nat×List Nat):Bool:=ac (ll g p.1 p.2 PN "Exception.__new__" Zn (cF g p.1)) (ac (yE g (cF g p.1)) (iL (kb g (cF g p.1)) c9) Zn) Zn
noncomputable abbrev mG(g:Gt):Tq->Option SX:=bS (kb g mainGlobals)
noncomputable abbrev mB(g:Gt):Tq->Option SX:=bS (kb g builtinsNs)
noncomputable def iZ(o:Option SX)(u:SX):Bool:=ag o Zn λv=>v==u
noncomputable def wV(o:Option SX):Bool:=ag o Zm λ_=>Zn
noncomputable def ja:List (SQ×SQ)->List Vm->Bool
 | [],es=>ip es
 | p::r,es=>ag (cS p.1) Zn λk=>ag (gY p.2) Zn λx=>ag es.head? Zn λe=>ag (uv e.key) Zn λj=>ag (rS e.val) Zn λy=>ac (bR k j) (ac (bR e.hash (hashInt k)) (ac (aw x y) (ja r es.tail) Zn) Zn) Zn
noncomputable def qR(kvs:List (SQ×SQ)):Bool:=ag kvs.head? Zn λp=>ag kvs.tail.head? Zn λq=>ac (ip kvs.tail.tail) (ag (cS p.1) Zn λa=>ag (cS q.1) Zn λb => !(bR a b)) Zn
noncomputable def FH(kvs:List (SQ×SQ))(a:Tc)(o:V3):Bool:=
 ac (EH o "dict") (ac o.dict.isNone (ag (iQ o.data) Zn λes=>ac (!(Ue a sysModules)) (ac (ip o.slots.toList) (ac (qR kvs) (ja kvs es) Zn) Zn) Zn) Zn) Zn
noncomputable def EO(g:Gt)(n:Tq)(x:SQ):Bool:=match x with
 | .int i=>ag (mG g n) Zn λv=>ag (uv v) Zn λj=>bR i j
 | .str x=>ag (mG g n) Zn λv=>ag (rS v) Zn λy=>aw x y
 | .dict kvs=>ag (mG g n) Zn λv=>ag (pR v) Zn λa=>ag (g a) Zn λo=>FH kvs a o
 | _=>Zn
noncomputable def B2(g:Gt)(p:Tq×V):Bool:=match p.2 with
 | .val u=>ac (handedIn u) (ac (iZ (mG g p.1) u) Zm (ac (wV (mG g p.1)) (iZ (mB g p.1) u) Zn)) Zn
 | .d x=>EO g p.1 x
 | _=>Zn
noncomputable def zT:Data->Bool
 | .plain=>Zm
 | _=>Zn
noncomputable def MQ(g:Gt):Bool:=ag (mG g "__builtins__") Zn λv=>ag (pR v) Zn λbm=>ag (g bm) Zn λo=>ac (!(Ue bm builtinsNs)) (ac (EH o "module") (ac (zT o.data) (ag o.dict Zn λd=>Ue d builtinsNs) Zn) Zn) Zn
noncomputable def LU(g:Gt)(a:Tc):Bool:=ag (g a) Zn λo=>ag (iQ o.data) Zn k8
noncomputable def I5(g:Gt):List Bool:=[d6 (o5 g) stL,d6 (kz g) Qd,d6 (uO g) xL,d6 (B2 g) wq,MQ g,yE g mainGlobals,yE g builtinsNs,LU g cStatics,iL (kb g cStatics) ["sys.recursionlimit","thirdparty.any"],ag (g sysModules) Zn λ_=>Zm,
 wV (mG g "Exception"),iZ (mB g "Exception") (.type "Exception"),eq (mG g "F77Error") 38,eq (mG g "IoFault") 70,eq (bS (kb g (cF g 38)) "__init__") 35,iL (kb g (cF g 51)) ["__init__"],
 eq (bS (kb g (cF g 70)) "__init__") 67,eq (bS (kb g (cF g 89)) "__init__") 86]
noncomputable def look(g:Gt):Bool:=hU (I5 g)
noncomputable def jq(st:T9):Option (UW×Xg×Tz):=ag (tm st) Zk λp=>Zj (p.1,.stmts p.2.1,p.2.2)
end
section
open PySem PySem.W
noncomputable def vh:=PySem.W.Fast.tw6613529449190102663
noncomputable def AQ:=PySem.W.Fast.tw10156331382660048174
noncomputable def IG:=PySem.W.Fast.tw11892475500146522536 PySem.W.Fast.tw14364793385576792824
theorem t9:stepOk=vh:=PySem.W.Fast.te6613529449190102663
theorem xl:stepT=AQ:=PySem.W.Fast.te10156331382660048174
theorem Ef:denote treeTable=IG:=by
 unfold IG;rw[<- PySem.W.Fast.te14364793385576792824,<- PySem.W.Fast.te11892475500146522536]
noncomputable def DX(p:VF)(w:V1)(n₀:Nat)(ann:Option SX):Nat->Yn->Thread->Option Yn
 | 0,_,_=>Zk
 | n+1,s,t=>match through t with
  | true=>Zj s
  | false=>match vh n₀ ann t with
   | false=>Zk
   | true=>match AQ IG p w s t with
    | some (s',t')=>DX p w n₀ ann n s' t'
    | none=>Zk
theorem nT{p:VF}{w:V1}{n₀:Nat}{ann:Option SX}:∀ (n:Nat) (s:Yn) (t:Thread) (s₁:Yn),DX p w n₀ ann n s t=Zj s₁->topRun treeTable p w n₀ ann n s.abs t=Zj s₁.abs
 | 0,_,_,_,h=>by cases h
 | n+1,s,t,s₁,h=>by
  unfold DX at h;unfold topRun;cases ht:through t with
  | true=>rw[ht]at h;cases h;rfl
  | false=>
   rw[ht]at h;dsimp only at h ⊢;rw[<- t9]at h;cases hk:stepOk n₀ ann t with
   | false=>rw[hk]at h;cases h
   | true=>
    rw[hk]at h;dsimp only at h ⊢;rw[<- xl,<- Ef]at h;cases hs:stepT (denote treeTable) p w s t with
    | none=>rw[hs]at h;cases h
    | some z=>
     obtain⟨s',t'⟩:=z;rw[hs]at h;rw[stepT_spec hs];exact nT n s' t' s₁ h
noncomputable def t0(P:Params):BT:=
 .node (boot_o_0 P)
  (.node (boot_o_1 P) (.node (boot_o_3 P) (.node (boot_o_7 P) .nil .nil) .nil) (.node (boot_o_5 P) (.node (boot_o_9 P) .nil .nil) .nil))
  (.node (boot_o_2 P) (.node (boot_o_4 P) (.node (boot_o_8 P) .nil .nil) .nil) (.node (boot_o_6 P) (.node (boot_o_10 P) .nil .nil) .nil))
noncomputable def s0(P:Params)(os:Wo):Yn:=⟨t0 P,11,(Wa P).life,#[],boot_drawn,boot_toks,os⟩
theorem Iw(P:Params)(os:Wo):(s0 P os).abs=⟨Wa P,#[],boot_drawn,boot_toks,os⟩:=rfl
end
section
open PySem PySem.W
noncomputable abbrev pw:VF:=PySem.Challenge.pw_no0280_01
noncomputable def qv:VF:=view pw [103]
noncomputable def Mn:Tq:=V5 "law"
noncomputable def dD:List Tq:=(pw.main.scope.names.map (·.1)).filter λx => !(x==Mn)
noncomputable def gJ:=PySem.W.Fast.tw4187177175401517315
theorem oJ:@openSeen=@gJ:=PySem.W.Fast.te4187177175401517315
theorem Jg:opening pw=plainProg pw.main.scope.names:=by kernel_rfl
theorem zy:∀ s,fenceModules? pw s=Zj s:=λs=>by kernel_rfl
theorem C5(w:V1):∃ os,fencedOpening treeTable pw w 20000=Zj ⟨Wa w.params,#[],boot_drawn,boot_toks,os⟩:=by
 obtain⟨s,h1,h2⟩:=Xr.mp (boot_open (p:=pw) (N:=20000) Jg (by decide) zy w)
 obtain⟨h,g,d,t,os⟩:=s;cases h2
 exact⟨os,h1⟩
end
section
open PySem PySem.W
noncomputable def KR(w:V1)(b:Bool)(os:Wo):Option Yn:=DX pw (w.withFollow "special-get-raises" b) 11 ((Wa w.params).nsMap mainGlobals "__annotations__") 20000 (s0 w.params os) (topStub pw)
noncomputable def jP:List Tq:=importedModules pw.main.body
noncomputable def Et(w:V1)(s:S9):Bool:=staticsOk jP (Wa w.params) s.heap&&namesBound pw s.heap&&gensDone s&&laidKept (Wa w.params) s.heap
theorem CI{w:V1}{b:Bool}{os:Wo}{α:Type}{Yf:S9->α}{y:α}{g}
  (IP:(KR w b os).map (λs=>(gJ qv dD jP (λ_=>Zm) Zm s.abs,Et w s.abs,Yf s.abs))=Zj (g,Zm,y)) :
  (topFrom treeTable pw (w.withFollow "special-get-raises" b) 20000 ⟨Wa w.params,#[],boot_drawn,boot_toks,os⟩).map (λs=>(openSeen qv dD jP (λ_=>Zm) Zm s,Yf s))=Zj (g,y):=by
 obtain⟨s₁,h1,h2⟩:=Xr.mp IP;have t:=nT _ _ _ _ h1
 rw[Iw]at t;have k:Et w s₁.abs=Zm:=congrArg (λz=>z.2.1) h2
 have k1:gJ qv dD jP (λ_=>Zm) Zm s₁.abs=g:=congrArg (λz=>z.1) h2
 have k2:Yf s₁.abs=y:=congrArg (λz=>z.2.2) h2
 unfold topFrom;dsimp only;rw[(by kernel_rfl:((Wa w.params).isNs mainGlobals&&(#[]:Array YH).size==0)=Zm)]
 dsimp only;rw[(by kernel_rfl:(Wa w.params).objs.size=11),t]
 unfold Et jP at k
 show Option.map _ (match staticsOk (importedModules pw.main.body) (Wa w.params) s₁.abs.heap&&namesBound pw s₁.abs.heap&&gensDone s₁.abs&&laidKept (Wa w.params) s₁.abs.heap with
   | true=>Zj s₁.abs
   | false=>Zk)=_
 rw[k]
 show Zj (openSeen qv dD jP (λ_=>Zm) Zm s₁.abs,Yf s₁.abs)=_
 rw[oJ,k1,k2]
end
section
open PySem PySem.W
noncomputable def gT(s:Yn)(a:Tc):Option V3:=match Vx a s.n with
 | true=>alive ((s.tree.get a).getD default)
 | false=>Zk
theorem JX(s:Yn):gT s=s.abs.heap.get? := by
 funext a
 show _=(absHeap s.tree s.n s.life).get? a
 unfold gT Tr.get?;refine b_ (absHeap_at ..) ?_
 by_cases h:a < s.n
 ·(refine b_ (if_pos h ..) ?_;refine b_ (show Vx a s.n=Zm from WW.mpr h ..) ?_)
  show alive _=_
  generalize (s.tree.get a).getD default=o
  obtain⟨c,d,dt,sl⟩:=o;cases dt<;>rfl
 ·(refine b_ (if_neg h ..) ?_)
  cases hb:Vx a s.n with
  | true=>exact absurd (Tw hb) h
  | false=>rfl
noncomputable def lN(g:Gt)(l:List (Nat×T9)):List (Option (UW×Xg×Tz)):=@Ud (Nat×T9) (λ_=>List (Option (UW×Xg×Tz))) [] (λp _ ih=>qg g p.1::ih) l
theorem nH(g:Gt):∀ l,lN g l=l.map λp=>qg g p.1
 | []=>rfl
 | p::l=>by show qg g p.1::lN g l=_;(refine b_ (nH g l) ?_);rfl
noncomputable def Yf(s:S9):Bool×List (Option (UW×Xg×Tz)):=(look s.heap.get?,lN s.heap.get? stL)
noncomputable def Ya:Bool×List (Option (UW×Xg×Tz)):=(Zm,stL.map λp=>jq p.2)
noncomputable def IP(w:V1)(b:Bool)(os:Wo):=(KR w b os).map λs=>(gJ qv dD jP (λ_=>Zm) Zm s.abs,Et w s.abs,look (gT s),lN (gT s) stL)
theorem xV(w:V1)(os:Wo):IP w Zn os=Zj (openGood qv dD,Zm,Ya):=by kernel_rfl
end
section
open PySem PySem.W PyProof.Rows PyProof
theorem z9(w:V1)(os:Wo):IP w Zm os=Zj (openGood qv dD,Zm,Ya):=by kernel_rfl
end
section
open PySem PySem.W PyProof.Rows
theorem bI{α:Type}:∀ (l:List α) (i:Nat),f9 l i=l[i]?
 | [],_=>rfl
 | _::_,0=>rfl
 | _::l,n+1=>by show f9 l n=_;(refine b_ (bI l n) ?_);simp
theorem aJ{α:Type}:∀ (l:List α),len l=l.length
 | []=>rfl
 | _::l=>by show Ul (len l)=_;(refine b_ (aJ l) ?_);rfl
theorem aS{α:Type}:∀ (l:List α) (i:Nat) (b:α),bb l i b=l.set i b
 | [],_,_=>rfl
 | _::_,0,_=>rfl
 | a::l,n+1,b=>by show a::bb l n b=_;(refine b_ (aS l n b) ?_);rfl
theorem pf{α:Type}(n:Nat):∀ l:List α,cut n l=l.take n:=by
 induction n with
 | zero=>exact λl=>List.take_zero.symm
 | succ n IH=>
  intro l;cases l with
  | nil=>rfl
  | cons a l=>exact congrArg (a::·) (IH l)
theorem yM(a b:Nat)(x y:List Nat):IS (a::x) (b::y)=match Ue a b with|true=>IS x y|false=>Zn:=by
 show @Uv (λ_=>Bool) Zn (IS x y) (Ue a b)=_
 cases Ue a b<;>rfl
theorem Pj:∀ {x y:List Nat},IS x y=Zm ↔ x=y
 | [],[]=>⟨λ_=>rfl,λ_=>rfl⟩
 | [],_::_=>⟨λh=>Ti (h:Zn=Zm),λh=>(nomatch h)⟩
 | _::_,[]=>⟨λh=>Ti (h:Zn=Zm),λh=>(nomatch h)⟩
 | a::x,b::y=>by
  refine b_ (yM ..) ?_
  cases h:Ue a b with
  | true=>
   have:=Uj h
   subst this
   simp [Pj]
  | false=>
   have:a≠b:=Nat.ne_of_beq_eq_false h
   simp [this]
theorem g_{a b:Tq}:aw a b=Zm ↔ a=b:=by
 unfold aw;rw[Pj]
 constructor
 ·intro h;cases a;cases b
  simp only[Tq.mk.injEq]
  exact WM.mp h
 ·rintro rfl;rfl
theorem aG(y:Tq)(v:V)(r:LE)(x:Tq):ak ((y,v)::r) x=match aw y x with|true=>Zj v|false=>ak r x:=by
 show @Uv (λ_=>Option V) (ak r x) (Zj v) (aw y x)=_
 cases aw y x<;>rfl
theorem hH(y:Tq)(u:V)(r:LE)(x:Tq)(v:V):aR ((y,u)::r) x v=match aw y x with|true=>(y,v)::r|false=>(y,u)::aR r x v:=by
 show @Uv (λ_=>LE) ((y,u)::aR r x v) ((y,v)::r) (aw y x)=_
 cases aw y x<;>rfl
theorem dl(y:Tq)(k:Tp)(r:List (Tq×Tp))(x:Tq):ah ((y,k)::r) x=match aw y x with|true=>Zj k|false=>ah r x:=by
 show @Uv (λ_=>Option Tp) (ah r x) (Zj k) (aw y x)=_
 cases aw y x<;>rfl
theorem fN(y:SQ)(v:V)(r:List (SQ×V))(x:SQ):fY ((y,v)::r) x=match pZ y x with|true=>Zj v|false=>fY r x:=by
 show @Uv (λ_=>Option V) (fY r x) (Zj v) (pZ y x)=_
 cases pZ y x<;>rfl
theorem cU(y:SQ)(u:V)(r:List (SQ×V))(x:SQ)(v:V):cm ((y,u)::r) x v=match pZ y x with|true=>(y,v)::r|false=>(y,u)::cm r x v:=by
 show @Uv (λ_=>List (SQ×V)) ((y,u)::cm r x v) ((y,v)::r) (pZ y x)=_
 cases pZ y x<;>rfl
theorem nD(y:SQ)(v:SQ)(r:List (SQ×SQ))(x:SQ):mu ((y,v)::r) x=match pZ y x with|true=>Zj v|false=>mu r x:=by
 show @Uv (λ_=>Option SQ) (mu r x) (Zj v) (pZ y x)=_
 cases pZ y x<;>rfl
theorem dX{α:Type}(f:SQ->Bool)(k:SQ)(v:α)(r:List (SQ×α)):be f ((k,v)::r)=match f k with|true=>be f r|false=>Zn:=by
 show @Uv (λ_=>Bool) Zn (be f r) (f k)=_
 cases f k<;>rfl
theorem jK{a b:Tq}(h:aw a b=Zn):a≠b:=λe=>by
 rw[g_.mpr e]at h;cases h
theorem aQ(a:Tq):aw a a=Zm:=g_.mpr rfl
theorem aV{a b:Tq}(h:a≠b):aw a b=Zn:=by
 cases q:aw a b with
 | false=>rfl
 | true=>exact absurd (g_.mp q) h
theorem ni(a b:Tq):aw a b=(a==b):=by
 by_cases h:a=b
 ·subst h;simp [aQ]
 ·(refine b_ (aV h) ?_);simp [h]
theorem bA(a b:Int):bR a b=(a==b):=by
 have key:bR a b=Zm ↔ a=b:=by
  cases a with
  | ofNat m=>cases b with
   | ofNat n=>
    show Ue m n=Zm ↔ _
    constructor
    ·intro h;(exact b_ (Uj h) rfl)
    ·intro h;cases h;exact Xh m
   | negSucc n=>show Zn=Zm ↔ _;constructor<;>intro h<;>cases h
  | negSucc m=>cases b with
   | ofNat n=>show Zn=Zm ↔ _;constructor<;>intro h<;>cases h
   | negSucc n=>
    show Ue m n=Zm ↔ _
    constructor
    ·intro h;(exact b_ (Uj h) rfl)
    ·intro h;cases h;exact Xh m
 cases h:bR a b with
 | true=>(refine b_ (key.mp h) ?_);simp
 | false=>
  have:a≠b:=λe=>by rw[key.mpr e]at h;cases h
  simp [this]
theorem js(a b:Int):l8 a b=decide (a<=b):=by
 have h:=PySem.W.Z.leB_iff a b
 refine b_ (by cases a<;>cases b<;>rfl:l8 a b=PySem.W.Z.leB a b) ?_
 cases q:PySem.W.Z.leB a b with
 | true=>(exact b_ (decide_eq_true (h.mp q)) rfl)
 | false=>rw[decide_eq_false];intro z;rw[h.mpr z]at q;cases q
theorem dU(le:LE)(x y:Tq)(v:V):ak (aR le x v) y=if y=x then Zj v else ak le y:=by
 induction le with
 | nil=>
  show ak ((x,v)::[]) y=_
  refine b_ (aG ..) ?_
  by_cases h:y=x
  ·subst h;(refine b_ (aQ ..) ?_;exact b_ (if_pos rfl ..) rfl)
  ·(refine b_ (aV (Vd h)) ?_;exact b_ (if_neg h) rfl)
 | cons p r ih=>
  obtain⟨z,u⟩:=p;refine b_ (hH ..) ?_;refine b_ (aG ..) ?_
  by_cases h:z=x
  ·subst h;refine b_ (aQ ..) ?_
   show ak ((z,v)::r) y=_
   refine b_ (aG ..) ?_
   by_cases q:y=z
   ·subst q;(refine b_ (aQ ..) ?_;exact b_ (if_pos rfl ..) rfl)
   ·(refine b_ (aV (Vd q)) ?_;exact b_ (if_neg q) rfl)
  ·(refine b_ (aV h ..) ?_)
   show ak ((z,u)::aR r x v) y=_
   refine b_ (aG ..) ?_
   by_cases q:z=y
   ·subst q;(refine b_ (aQ ..) ?_;exact b_ (if_neg h ..) rfl)
   ·(refine b_ (aV q ..) ?_);exact ih
theorem lQ(z:Tq)(u:V)(r:LE)(x:Tq):f0 ((z,u)::r) x=match aw z x with|true=>f0 r x|false=>(z,u)::f0 r x:=rfl
theorem jk(le:LE)(x y:Tq)(v:V)(h:ak (f0 le x) y=Zj v):y≠x/\ak le y=Zj v:=by
 induction le with
 | nil=>cases h
 | cons p r ih=>
  obtain⟨z,u⟩:=p;rw[lQ]at h
  by_cases q:z=x
  ·subst q;rw[aQ]at h;obtain⟨a,b⟩:=ih h
   refine⟨a,?_⟩
   (refine b_ (aG ..) ?_;refine b_ (aV (Vd a) ..) ?_);exact b
  ·rw[aV q]at h;dsimp only at h;rw[aG]at h ⊢
   by_cases e:z=y
   ·subst e;rw[aQ]at h ⊢
    exact⟨q,h⟩
   ·rw[aV e]at h ⊢;exact ih h
structure Base where
 prog:VF
 w:V1
 T:Tab
 h₀:Tr
 mg:Tq->Option SX
 mb:Tq->Option SX
 os:Wo
structure e_ where
 m:List (Option (Tc×List Tc))
 x:Option (Tc×Tc)
 fs:List Tc
noncomputable abbrev Base.M(B:Base):Ze:=model B.prog B.w
def mz(p:Tc×List Tc)(b:Tc):Prop:=b=p.1\/b∈p.2
def aj(ρ:e_)(fr:List Tc)(b:Tc):Prop:=
 (X2 λ(i:Nat) (p:Tc×List Tc)=>ρ.m[i]? = Zj (Zj p)/\mz p b)\/(∃ q,ρ.x=Zj q/\(b=q.1\/b=q.2))\/b∈fr\/b∈ρ.fs
noncomputable abbrev bD(cls:String)(vs:Array SX)(n:Nat):V3:={ cls := .type cls,dict:=Zk,data := .seq vs n,slots:=#[] }
inductive PP (t:String) (h:Tr) (ow:Tc->Prop) (ok:List SX->Prop) (v:SX):Prop
 | mk (a:Tc) (vs:Array SX) (n:Nat):v = .ref a->¬ ow a->h.get? a=Zj (bD t vs n)->ok vs.toList->PP t h ow ok v
inductive Pu (p:SX->Prop) (q:List SX->Prop) (vs:List SX):Prop
 | mk (u:SX) (us:List SX):vs=u::us->p u->q us->Pu p q vs
inductive Pv {K:Type} (k:K->Prop) (p:SX->Prop) (q:List (K×SX)->Prop) (l:List (K×SX)):Prop
 | mk (x:K) (v:SX) (l':List (K×SX)):l=(x,v)::l'->k x->p v->q l'->Pv k p q l
mutual
noncomputable def PR(B:Base)(h:Tr)(ow:Tc->Prop):SQ->SX->Prop
 | .none,v=>v = .none
 | .bool b,v=>v = .bool b
 | .int i,v=>∃ t,v = .int i t
 | .str x,v=>∃ t,v = .str x t
 | .list xs,v=>PP "list" h ow (λus=>PRs B h ow xs us/\xs.length<=2 ^ 20) v
 | .tuple xs,v=>PP "tuple" h ow (λus=>PRs B h ow xs us) v
 | .dict kvs,v=>∃ a,A6 (v = .ref a) (¬ ow a) ((a≠sysModules/\∃ o,A3 (h.get? a=Zj o) (o.cls = .type "dict") (o.dict=Zk))) ((be gu kvs=Zm->∃ l:List (Tq×SX),h.DictOf (strKind B.prog B.w) a l/\OE B h ow kvs l)) ((be kj kvs=Zm->∃ l:List (Int×SX),h.DictOf (intKind B.prog B.w) a l/\OF B h ow kvs l)) (kvs.length<=1000)
noncomputable def PRs(B:Base)(h:Tr)(ow:Tc->Prop):List SQ->List SX->Prop
 | [],vs=>vs=[]
 | x::xs,vs=>Pu (λu=>PR B h ow x u) (λus=>PRs B h ow xs us) vs
noncomputable def OE(B:Base)(h:Tr)(ow:Tc->Prop):List (SQ×SQ)->List (Tq×SX)->Prop
 | [],l=>l=[]
 | (k,d)::r,l=>Pv (λx=>k = .str x) (λv=>PR B h ow d v) (λl'=>OE B h ow r l') l
noncomputable def OF(B:Base)(h:Tr)(ow:Tc->Prop):List (SQ×SQ)->List (Int×SX)->Prop
 | [],l=>l=[]
 | (k,d)::r,l=>Pv (λx=>k = .int x) (λv=>PR B h ow d v) (λl'=>OF B h ow r l') l
end
mutual
noncomputable def VR(B:Base)(ρ:e_)(h:Tr)(ow:Tc->Prop):V->SX->Prop
 | .d x,v=>PR B h ow x v
 | .val u,v=>v=u/\handedIn u=Zm
 | .ref i,v=>(∃ p,ρ.m[i]? = Zj (Zj p)/\v = .ref p.1)\/(ρ.m[i]? = Zj Zk/\∃ a,v = .ref a)
 | .tup vs,v=>PP "tuple" h ow (λus=>k_ B ρ h ow vs us) v
 | .rng n,v=>bW n=Zm/\∃ a,A3 (v = .ref a) (¬ ow a) (X3 λta tb tc=>IsRange h a 0 n 1 ta tb tc)
 | .exc,v=>∃ q,ρ.x=Zj q/\v = .ref q.1
noncomputable def k_(B:Base)(ρ:e_)(h:Tr)(ow:Tc->Prop):List V->List SX->Prop
 | [],vs=>vs=[]
 | x::xs,vs=>Pu (λu=>VR B ρ h ow x u) (λus=>k_ B ρ h ow xs us) vs
end
theorem Ox.none{v:SX}(h:Ox v=Zm):v ≠ .none:=by rintro rfl;cases h
theorem Ox.tb{v:SX}(h:Ox v=Zm):v ≠ .type "traceback":=by rintro rfl;exact absurd h (by decide)
noncomputable def cJ:SX->Bool
 | .type t=>t=="list_iterator" || t=="tuple_iterator" || t=="range_iterator"
 | _=>Zn
theorem Ox.it{v:SX}(h:Ox v=Zm):cJ v=Zn:=by
 cases v with
 | type t=>
  unfold Ox at h;unfold cJ
  simp at h ⊢
  exact⟨⟨h.1.1.2,h.1.2⟩,h.2⟩
 | _=>rfl
structure Still (h:Tr) (ow:Tc->Prop) (h':Tr) (y_:Tc->Prop):Prop where
 keep:∀ b o,h.get? b=Zj o->¬ ow b->Ox o.cls=Zm->h'.get? b=Zj o
 own:∀ b,y_ b->ow b\/h.get? b=Zk
 there:∀ b o,h.get? b=Zj o->ow b\/∃ o',h'.get? b=Zj o'
theorem Still.no{h h':Tr}{ow y_:Tc->Prop}(S:Still h ow h' y_){b:Tc}{o:V3}(e:h.get? b=Zj o)(n:¬ ow b):¬ y_ b:=λq=>by
 rcases S.own b q with z|z
 ·exact n z
 ·rw[e]at z;cases z
theorem j7{prog:VF}{w:V1}{K:Type}[DecidableEq K]{knd:PySem.KeyKind prog w K}{h h':Tr}{ow y_:Tc->Prop}(S:Still h ow h' y_){a:Tc}{l:List (K×SX)}(n:¬ ow a)
  (d:h.DictOf knd a l):h'.DictOf knd a l:=
 by obtain⟨o,es,ep,ho,hx,r⟩:=d;exact⟨o,es,ep,S.keep a o ho n (by(refine b_ hx.1 ?_);decide),hx,r⟩
section
variable{B:Base}{h h':Tr}{ow y_:Tc->Prop}
mutual
theorem PR.mono(S:Still h ow h' y_):∀ (d:SQ) (v:SX),PR B h ow d v->PR B h' y_ d v
 | .none,v,r=>by unfold PR at r ⊢;exact r
 | .bool b,v,r=>by unfold PR at r ⊢;exact r
 | .int i,v,r=>by unfold PR at r ⊢;exact r
 | .str x,v,r=>by unfold PR at r ⊢;exact r
 | .list xs,v,r=>by
  unfold PR at r ⊢;obtain⟨a,vs,n,rfl,ha,ho,hs,hl⟩:=r
  exact⟨a,vs,n,rfl,S.no ho ha,S.keep _ _ ho ha (by show Ox (.type _)=Zm;decide),PRs.mono S xs _ hs,hl⟩
 | .tuple xs,v,r=>by
  unfold PR at r ⊢;obtain⟨a,vs,n,rfl,ha,ho,hs⟩:=r
  exact⟨a,vs,n,rfl,S.no ho ha,S.keep _ _ ho ha (by show Ox (.type _)=Zm;decide),PRs.mono S xs _ hs⟩
 | .dict kvs,v,r=>by
  unfold PR at r ⊢;obtain⟨a,rfl,ha,⟨hm,o,ho,hc,hdn⟩,h1,h2,hz⟩:=r
  refine⟨a,rfl,S.no ho ha,⟨hm,o,S.keep _ _ ho ha (by(refine b_ hc ?_);decide),hc,hdn⟩,λhk => ?_,λhk => ?_,hz⟩
  ·obtain⟨l,hl,hr⟩:=h1 hk
   exact⟨l,j7 S ha hl,OE.mono S kvs l hr⟩
  ·obtain⟨l,hl,hr⟩:=h2 hk
   exact⟨l,j7 S ha hl,OF.mono S kvs l hr⟩
theorem PRs.mono(S:Still h ow h' y_):∀ (ds:List SQ) (vs:List SX),PRs B h ow ds vs->PRs B h' y_ ds vs
 | [],vs,r=>by unfold PRs at r ⊢;exact r
 | x::xs,vs,r=>by
  unfold PRs at r ⊢;obtain⟨u,us,rfl,h1,h2⟩:=r
  exact⟨u,us,rfl,PR.mono S x u h1,PRs.mono S xs us h2⟩
theorem OE.mono(S:Still h ow h' y_):∀ (ds:List (SQ×SQ)) (l:List (Tq×SX)),OE B h ow ds l->OE B h' y_ ds l
 | [],vs,r=>by unfold OE at r ⊢;exact r
 | (k,d)::xs,vs,r=>by
  unfold OE at r ⊢;obtain⟨x,v,l',rfl,e,h1,h2⟩:=r
  exact⟨x,v,l',rfl,e,PR.mono S d v h1,OE.mono S xs l' h2⟩
theorem OF.mono(S:Still h ow h' y_):∀ (ds:List (SQ×SQ)) (l:List (Int×SX)),OF B h ow ds l->OF B h' y_ ds l
 | [],vs,r=>by unfold OF at r ⊢;exact r
 | (k,d)::xs,vs,r=>by
  unfold OF at r ⊢;obtain⟨x,v,l',rfl,e,h1,h2⟩:=r
  exact⟨x,v,l',rfl,e,PR.mono S d v h1,OF.mono S xs l' h2⟩
end
end
end
section
open PySem PySem.W PyProof.Rows
structure v_ (ρ ρ':e_):Prop where
 m:∀ (i:Nat) (e:Option (Tc×List Tc)),ρ.m[i]? = Zj e->ρ'.m[i]? = Zj e\/ρ'.m[i]? = Zj Zk
 x:∀ q,ρ.x=Zj q->ρ'.x=Zj q
theorem v_.refl(ρ:e_):v_ ρ ρ:=⟨λ_ _ e => .inl e,λ_ e=>e⟩
theorem v_.trans{a b c:e_}(x:v_ a b)(y:v_ b c):v_ a c:=
 ⟨λi e h=>by
  rcases x.m i e h with z|z
  ·exact y.m i e z
  ·rcases y.m i Zk z with u|u<;>exact .inr u,
  λq e=>y.x q (x.x q e)⟩
section
variable{B:Base}{ρ ρ':e_}{h h':Tr}{ow y_:Tc->Prop}
mutual
theorem VR.mono(G:v_ ρ ρ')(S:Still h ow h' y_):∀ (d:V) (v:SX),VR B ρ h ow d v->VR B ρ' h' y_ d v
 | .d x,v,r=>by unfold VR at r ⊢;exact PR.mono S x v r
 | .val u,v,r=>by unfold VR at r ⊢;exact r
 | .ref i,v,r=>by
  unfold VR at r ⊢;rcases r with ⟨p,hp,rfl⟩|⟨hn,a,rfl⟩
  ·rcases G.m i _ hp with z|z
   ·exact .inl ⟨p,z,rfl⟩
   ·exact .inr ⟨z,_,rfl⟩
  ·rcases G.m i _ hn with z|z<;>exact .inr ⟨z,_,rfl⟩
 | .tup xs,v,r=>by
  unfold VR at r ⊢;obtain⟨a,vs,n,rfl,ha,ho,hs⟩:=r
  exact⟨a,vs,n,rfl,S.no ho ha,S.keep _ _ ho ha (by show Ox (.type _)=Zm;decide),k_.mono G S xs _ hs⟩
 | .rng n,v,r=>by
  unfold VR at r ⊢;obtain⟨hs,a,rfl,ha,ta,tb,tc,ho⟩:=r
  exact⟨hs,a,rfl,S.no ho ha,ta,tb,tc,S.keep _ _ ho ha (by show Ox (.type _)=Zm;decide)⟩
 | .exc,v,r=>by
  unfold VR at r ⊢;obtain⟨q,hq,rfl⟩:=r
  exact⟨q,G.x q hq,rfl⟩
theorem k_.mono(G:v_ ρ ρ')(S:Still h ow h' y_):∀ (ds:List V) (vs:List SX),k_ B ρ h ow ds vs->k_ B ρ' h' y_ ds vs
 | [],vs,r=>by unfold k_ at r ⊢;exact r
 | x::xs,vs,r=>by
  unfold k_ at r ⊢;obtain⟨u,us,rfl,h1,h2⟩:=r
  exact⟨u,us,rfl,VR.mono G S x u h1,k_.mono G S xs us h2⟩
end
end
inductive O3 (h:Tr) (ow:Tc->Prop) (cd:SX) (q:Tq):Prop
 | mk (c:Tc) (o:V3) (vs:Array SX) (t:Tok):cd = .ref c->¬ ow c->h.get? c=Zj o->Ox o.cls=Zm->o.data = .fields vs->vs[1]? = Zj (.str q t)->O3 h ow cd q
theorem O3.mono{h h':Tr}{ow y_:Tc->Prop}{cd:SX}{q:Tq}(S:Still h ow h' y_)(r:O3 h ow cd q):O3 h' y_ cd q:=
 by obtain⟨c,o,vs,t,e,n,g,h1,d,x⟩:=r;exact⟨c,o,vs,t,e,S.no g n,S.keep c o g n h1,h1,d,x⟩
theorem O3.rec'{h:Tr}{ow:Tc->Prop}{cd:SX}{q:Tq}(r:O3 h ow cd q):h.CodeRec cd q:=
 by obtain⟨c,o,vs,t,e,n,g,h1,d,x⟩:=r;exact⟨c,o,vs,t,e,g,d,x⟩
def Ot(h:Tr)(ow:Tc->Prop)(cd:SX):Prop:=∃ q,O3 h ow cd q
theorem Ot.mono{h h':Tr}{ow y_:Tc->Prop}{cd:SX}(S:Still h ow h' y_)(r:Ot h ow cd):Ot h' y_ cd:=by obtain⟨q,hq⟩:=r;exact⟨q,hq.mono S⟩
structure Rv (sc:Tz) (a:UW) (cap:LE) (cl:List (Tq×Tc)):Prop where
 ok:cI sc=Zm
 args:bL a=Zm
 QZ:dE sc.names (bg a.args)=Zm
 free:∀ x v,ak cap x=Zj v->ah sc.names x=Zj .free
 apart:∀ x y c,cl.lookup x=Zj c->cl.lookup y=Zj c->x=y
 only:∀ x c,cl.lookup x=Zj c->∃ v,ak cap x=Zj v
section
variable(B:Base)(ρ:e_)(h:Tr)(ow:Tc->Prop)
noncomputable def C_:List (SQ×V)->List (Tq×SX)->Prop
 | [],l=>l=[]
 | (k,d)::r,l=>Pv (λx=>k = .str x) (λv=>VR B ρ h ow d v) (λl'=>C_ r l') l
noncomputable def G':List (SQ×V)->List (Int×SX)->Prop
 | [],l=>l=[]
 | (k,d)::r,l=>Pv (λx=>k = .int x) (λv=>VR B ρ h ow d v) (λl'=>G' r l') l
inductive Qo (k:SQ) (p:SX->Prop) (q:List (List Tq×Tc×SX)->Prop) (l:List (List Tq×Tc×SX)):Prop
 | mk (x y:Tq) (a:Tc) (v:SX) (l':List (List Tq×Tc×SX)):l=([x,y],a,v)::l'->k = .tuple [.str x,.str y]->¬ ow a->p v->q l'->Qo k p q l
noncomputable def N_:List (SQ×V)->List (List Tq×Tc×SX)->Prop
 | [],l=>l=[]
 | (k,d)::r,l=>Qo ow k (λv=>VR B ρ h ow d v) (λl'=>N_ r l') l
inductive PG (ok:List SX->Prop) (p:Tc×List Tc):Prop
 | mk:p.2=[]->∀ vs n,h.get? p.1=Zj (bD "list" vs n)->ok vs.toList->PG ok p
inductive Qp (kvs:List (SQ×V)) (p:Tc×List Tc):Prop
 | mk:p.2=[]->p.1≠sysModules->(∃ o,A3 (h.get? p.1=Zj o) (o.cls = .type "dict") (o.dict=Zk))->
   (be gu kvs=Zm->∃ l:List (Tq×SX),h.DictOf (strKind B.prog B.w) p.1 l/\C_ B ρ h ow kvs l)->
   (be kj kvs=Zm->∃ l:List (Int×SX),h.DictOf (intKind B.prog B.w) p.1 l/\G' B ρ h ow kvs l)->
   (be yj kvs=Zm->∃ l:List (List Tq×Tc×SX),h.DictOfH (tupleKind (strKind B.prog B.w)) p.1 l/\N_ B ρ h ow kvs l)->kvs.length<=1000->Qp kvs p
inductive Qq (c:Tc) (fs:LE) (p:Tc×List Tc):Prop
 | mk (dx:Tc) (mA:Tq->Option SX) (o:V3):p.2=[dx]->h.get? p.1=Zj o->o.cls = .ref c->(∀ c,o.data ≠ .cls c)->o.dict=Zj dx->dx≠p.1->h.Ns1 dx mA->
   (∀ y,match ak fs y with|some v=>∃ rv,A3 (mA y=Zj rv) (VR B ρ h ow v rv) (handedIn rv=Zm)|none=>mA y=Zk)->(fs.length<=1000/\∃ kc,B.T.cl c=Zj kc/\kc.exc.isNone=Zm)->Qq c fs p
inductive Q0 (fd:YG) (a:UW) (b:List T9) (sc:Tz) (cap:LE):Prop
 | mk:fd.params=a->fd.body = .stmts b->fd.scope=sc->fd.globals=mainGlobals->fd.builtins=builtinsNs->fd.defaults = .none->fd.kwdefaults = .none->Rv sc a cap fd.closure->Q0 fd a b sc cap
inductive Q1 (a:UW) (b:List T9) (sc:Tz) (cap:LE) (p:Tc×List Tc):Prop
 | mk:p.2=[]->∀ o fd,h.get? p.1=Zj o->o.cls = .type "function"->o.data = .func fd->Ot h ow fd.code->Q0 fd a b sc cap->
   (∀ x v,ak cap x=Zj v->X3 λc oc rv=>A5 (fd.closure.lookup x=Zj c) (h.get? c=Zj oc) (oc.cls = .type "cell") (oc.data = .cell (Zj rv)) (VR B ρ h ow v rv))->Q1 a b sc cap p
def OR:O->Tc×List Tc->Prop
 | .a_ xs,p=>PG h (PRs B h ow xs) p
 | .p_ xs,p=>PG h (k_ B ρ h ow xs) p
 | .dict kvs,p=>Qp B ρ h ow kvs p
 | .inst c fs,p=>Qq B ρ h ow c fs p
 | .clo a b sc cap,p=>Q1 B ρ h ow a b sc cap p
 | .dead,_=>False
end
structure Cell1 (h h':Tr):Prop where
 cells:∀ b o v,h.get? b=Zj o->o.cls = .type "cell"->o.data = .cell (Zj v)->∃ o',A3 (h'.get? b=Zj o') (o'.cls=o.cls) (o'.data=o.data)
structure Cells (h h':Tr):Prop extends Cell1 h h' where
 its:∀ b o ts,h.get? b=Zj o->cJ o.cls=Zm->o.data = .fields ts->h'.get? b=Zj o
theorem Cells.refl(h:Tr):Cells h h:=⟨⟨λ_ o _ e _ _=>⟨o,e,rfl,rfl⟩⟩,λ_ _ _ e _ _=>e⟩
theorem Cells.trans{a b c:Tr}(x:Cells a b)(y:Cells b c):Cells a c:=⟨⟨λb o v e k d=>by
 obtain⟨o',e',k',d'⟩:=x.cells b o v e k d;obtain⟨o2,e2,k2,d2⟩:=y.cells b o' v e' (k'.trans k) (d'.trans d)
 exact⟨o2,e2,k2.trans k',d2.trans d'⟩⟩,λb o ts e k d=>y.its b o ts (x.its b o ts e k d) k d⟩
section
variable{B:Base}{ρ ρ':e_}{h h':Tr}{ow y_:Tc->Prop}
theorem C_.mono(G:v_ ρ ρ')(S:Still h ow h' y_):∀ (ds:List (SQ×V)) (l:List (Tq×SX)),C_ B ρ h ow ds l->C_ B ρ' h' y_ ds l
 | [],vs,r=>by unfold C_ at r ⊢;exact r
 | (k,d)::xs,vs,r=>by
  unfold C_ at r ⊢;obtain⟨x,v,l',rfl,e,h1,h2⟩:=r
  exact⟨x,v,l',rfl,e,VR.mono G S d v h1,C_.mono G S xs l' h2⟩
theorem G'.mono(G:v_ ρ ρ')(S:Still h ow h' y_):∀ (ds:List (SQ×V)) (l:List (Int×SX)),G' B ρ h ow ds l->G' B ρ' h' y_ ds l
 | [],vs,r=>by unfold G' at r ⊢;exact r
 | (k,d)::xs,vs,r=>by
  unfold G' at r ⊢;obtain⟨x,v,l',rfl,e,h1,h2⟩:=r
  exact⟨x,v,l',rfl,e,VR.mono G S d v h1,G'.mono G S xs l' h2⟩
theorem N_.mono(G:v_ ρ ρ')(S:Still h ow h' y_):∀ (ds:List (SQ×V)) (l:List (List Tq×Tc×SX)),(∀ x∈l,∃ o,h.get? x.2.1=Zj o)->N_ B ρ h ow ds l->N_ B ρ' h' y_ ds l
 | [],vs,_,r=>by unfold N_ at r ⊢;exact r
 | (k,d)::xs,vs,hl,r=>by
  unfold N_ at r ⊢;obtain⟨x,y,a,v,l',rfl,e,ha,h1,h2⟩:=r;obtain⟨o,ho⟩:=hl _ (Uo)
  exact⟨x,y,a,v,l',rfl,e,S.no ho ha,VR.mono G S d v h1,N_.mono G S xs l' (λz hz=>hl z (T8 _ hz)) h2⟩
theorem BV:∀ (ds:List (SQ×V)) (l:List (List Tq×Tc×SX)),N_ B ρ h ow ds l->∀ x∈l,¬ ow x.2.1
 | [],vs,r=>by unfold N_ at r;subst r;intro x hx;cases hx
 | (k,d)::xs,vs,r=>by
  obtain⟨x,y,a,v,l',rfl,e,ha,h1,h2⟩:=r;intro z hz;rcases Ub.mp hz with rfl|hz
  ·exact ha
  ·exact BV xs l' h2 z hz
theorem de{prog:VF}{w:V1}{K:Type}[DecidableEq K]{knd:PySem.KeyKind prog w K}{a:Tc}{l:List (List K×Tc×SX)}(d:h.DictOfH (tupleKind knd) a l) :
  (∃ o,h.get? a=Zj o/\o.cls = .type "dict")/\∀ x∈l,∃ o,h.get? x.2.1=Zj o:=by
 obtain⟨o,es,ep,ho,hx,hd,he,hi,hn⟩:=d
 exact⟨⟨o,ho,hx.1⟩,λx hx=>by obtain⟨o,_,_,ho,_⟩:=hi x hx;exact⟨o,ho⟩⟩
theorem pr{prog:VF}{w:V1}{K:Type}[DecidableEq K]{knd:PySem.KeyKind prog w K}{a:Tc}{l:List (List K×Tc×SX)}(hk:∀ o,h.get? a=Zj o->h'.get? a=Zj o)(hl:∀ x∈l,∀ o,h.get? x.2.1=Zj o->o.cls = .type "tuple"->h'.get? x.2.1=Zj o)
  (d:h.DictOfH (tupleKind knd) a l):h'.DictOfH (tupleKind knd) a l:=by
 obtain⟨o,es,ep,ho,hx,hd,he,hi,hn⟩:=d
 refine⟨o,es,ep,hk o ho,hx,hd,he,λx hx => ?_,hn⟩
 obtain⟨o',items,n,ho',hc,r⟩:=hi x hx
 exact⟨o',items,n,hl x hx o' ho' hc,hc,r⟩
theorem OR.mono(G:v_ ρ ρ')(S:Still h ow h' y_)(C:Cell1 h h')(o:O)(p:Tc×List Tc)(hp:∀ b x,mz p b->h.get? b=Zj x->h'.get? b=Zj x)
  (r:OR B ρ h ow o p):OR B ρ' h' y_ o p:=by
 cases o with
 | a_ xs=>
  obtain⟨e,vs,n,ho,hs⟩:=r
  exact⟨e,vs,n,hp _ _ (.inl rfl) ho,PRs.mono S xs _ hs⟩
 | p_ xs=>
  obtain⟨e,vs,n,ho,hs⟩:=r
  exact⟨e,vs,n,hp _ _ (.inl rfl) ho,k_.mono G S xs _ hs⟩
 | dict kvs=>
  obtain⟨e,hm,⟨o,ho,hc,hdn⟩,h1,h2,h3,hz⟩:=r
  refine⟨e,hm,⟨o,hp _ _ (.inl rfl) ho,hc,hdn⟩,λhk => ?_,λhk => ?_,λhk => ?_,hz⟩
  ·obtain⟨l,⟨o,es,ep,ho,hx⟩,hr⟩:=h1 hk
   exact⟨l,⟨o,es,ep,hp _ _ (.inl rfl) ho,hx⟩,C_.mono G S kvs l hr⟩
  ·obtain⟨l,⟨o,es,ep,ho,hx⟩,hr⟩:=h2 hk
   exact⟨l,⟨o,es,ep,hp _ _ (.inl rfl) ho,hx⟩,G'.mono G S kvs l hr⟩
  ·obtain⟨l,hd,hr⟩:=h3 hk
   refine⟨l,pr (λo ho=>hp _ _ (.inl rfl) ho) (λx hx o ho hc=>S.keep _ _ ho (BV kvs l hr x hx) (by(refine b_ hc ?_);decide)) hd,N_.mono G S kvs l (de hd).2 hr⟩
 | inst c fs=>
  obtain⟨dx,mA,o,e,ho,hc,hnc,hd,hne,hn,hf,hz⟩:=r
  refine⟨dx,mA,o,e,hp _ _ (.inl rfl) ho,hc,hnc,hd,hne,hn.at λo ho=>hp _ _ (.inr (by(refine b_ e ?_);exact Uo)) ho,λy => ?_,hz⟩
  have:=hf y
  revert this
  cases ak fs y with
  | none=>exact id
  | some v=>rintro⟨rv,h1,h2,h3⟩;exact⟨rv,h1,VR.mono G S v rv h2,h3⟩
 | clo a b sc cap=>
  obtain⟨e,o,fd,ho,hc,hd,hcd,hm,hv⟩:=r
  refine⟨e,o,fd,hp _ _ (.inl rfl) ho,hc,hd,hcd.mono S,hm,λx v hx => ?_⟩
  obtain⟨c,oc,rv,h1,h2,hk,h3,h4⟩:=hv x v hx;obtain⟨o',e',k',d'⟩:=C.cells _ _ _ h2 hk h3
  exact⟨c,o',rv,h1,e',k'.trans hk,d'.trans h3,VR.mono G S v rv h4⟩
 | dead=>exact r.elim
end
inductive Pk (B:Base) (h:Tr) (c:Tc) (k:Int) (q:Tc×Tc):Prop
 | mk (o:V3) (vs:Array SX) (mA:Tq->Option SX):h.get? q.1=Zj o->o.cls = .ref c->o.dict=Zj q.2->o.data = .fields vs->(5 < vs.size/\vs[2]? = Zj .none)->h.Ns1 q.2 mA->((B.T.sub c c).isSome=Zm/\∃ t,mA "code"=Zj (.int k t)\/k=0)->
  (vs[1]? = Zj .none\/X3 λT oT ts=>A6 (vs[1]? = Zj (.ref T)) (B.h₀.get? T=Zk) (h.get? T=Zj oT) (oT.cls = .type "traceback") (oT.data = .fields ts) (3 < ts.size))->Pk B h c k q
def O4(B:Base)(h:Tr)(sx:Option (Tc×Int))(rx:Option (Tc×Tc)):Prop:=match sx,rx with
 | none,Zk=>True
 | some (c,k),Zj q=>Pk B h c k q
 | _,_=>False
theorem O4.mono{B:Base}{h h':Tr}{sx:Option (Tc×Int)}{rx:Option (Tc×Tc)}(e:O4 B h sx rx)(k:∀ c n q,rx=Zj q->Pk B h c n q->Pk B h' c n q):O4 B h' sx rx:=by
 cases sx with
 | none=>
  cases rx with
  | none=>trivial
  | some q=>exact e
 | some p=>
  cases rx with
  | none=>exact e
  | some q=>exact k p.1 p.2 q rfl e
def dL(n:Nat):O->Prop
 | .a_ xs=>xs.length+n<=2 ^ 20
 | .p_ xs=>xs.length+n<=2 ^ 20
 | _=>True
def td(B:Base)(c P:Tc):Prop:=B.h₀.IsCode c P #[]/\B.h₀.TableAt c P #[]
structure Qz (B:Base) (h:Tr) (ow:Tc->Prop):Prop extends OldK B.h₀ h where
 tabs:∀ c P,td B c P->∃ ps,A3 (h.IsCode c P ps) (h.TableAt c P ps) (∀ pos v,codeAmong pos ps.toList=Zj v->Ot h ow v)
 stat:∀ o,B.h₀.get? cStatics=Zj o->h.get? cStatics=Zj o
structure SR (B:Base) (ρ:e_) (fr:List Tc) (σ:VS) (s:S9):Prop where
 len:ρ.m.length=σ.o.length
 obj:∀ (i:Nat) (p:Tc×List Tc),ρ.m[i]? = Zj (Zj p)->∃ o,σ.o[i]? = Zj o/\OR B ρ s.heap (aj ρ fr) o p
 gone:∀ (i:Nat),ρ.m[i]? = Zj Zk->σ.o[i]? = Zj .dead
 sep:∀ (i j:Nat) (p q:Tc×List Tc),ρ.m[i]? = Zj (Zj p)->ρ.m[j]? = Zj (Zj q)->i≠j->∀ b,mz p b->¬ mz q b
 L_:∀ (i:Nat) (p:Tc×List Tc),ρ.m[i]? = Zj (Zj p)->∀ b,mz p b->b∉fr/\b∉ρ.fs/\B.h₀.get? b=Zk
 I_:∀ q,ρ.x=Zj q->q.1≠q.2/\∀ b,(b=q.1\/b=q.2)->b∉fr/\b∉ρ.fs/\B.h₀.get? b=Zk/\∀ (i:Nat) (p:Tc×List Tc),ρ.m[i]? = Zj (Zj p)->¬ mz p b
 frB:∀ b,(b∈fr\/b∈ρ.fs)->B.h₀.get? b=Zk/\∃ o,s.heap.get? b=Zj o/\∀ vs,o.data ≠ .fields vs
 exc:O4 B s.heap σ.x ρ.x
 base:Qz B s.heap (aj ρ fr)
 gens:s.gens=#[]
 os:s.os=B.os
 cap:∀ (i:Nat) (o:O),σ.o[i]? = Zj o->dL σ.cap o
 Os:σ.cap<=2 ^ 19
end
section
open PySem PySem.W PyProof.Rows
theorem Still.refl(h:Tr)(ow:Tc->Prop):Still h ow h ow:=⟨λ_ _ e _ _=>e,λ_ h => .inl h,λ_ o e => .inr ⟨o,e⟩⟩
theorem Still.trans{a b c:Tr}{oa ob oc:Tc->Prop}(x:Still a oa b ob)(y:Still b ob c oc):Still a oa c oc:=by
 refine⟨λp o e n t=>y.keep p o (x.keep p o e n t) (x.no e n) t,λp h => ?_,λp o e => ?_⟩
 ·rcases y.own p h with z|z
  ·exact x.own p z
  ·cases e:a.get? p with
   | none=>exact .inr rfl
   | some o=>
    rcases x.there p o e with q|⟨o',ho'⟩
    ·exact .inl q
    ·rw[ho']at z;cases z
 ·rcases x.there p o e with q|⟨o',ho'⟩
  ·exact .inl q
  ·rcases y.there p o' ho' with q|q
   ·rcases x.own p q with z|z
    ·exact .inl z
    ·rw[e]at z;cases z
   ·exact .inr q
structure Step (B:Base) (ρ:e_) (fr:List Tc) (s:S9) (ρ':e_) (s':S9):Prop where
 goes:v_ ρ ρ'
 still:Still s.heap (aj ρ fr) s'.heap (aj ρ' fr)
 cells:Cells s.heap s'.heap
 fs:ρ'.fs=ρ.fs
 Pl:∀ b∈ρ.fs,∀ o,s.heap.get? b=Zj o->∃ sl,s'.heap.get? b=Zj { o with slots:=sl }
structure dR (B:Base) (ρ:e_) (fr:List Tc) (s:S9) (ρ':e_) (s':S9):Prop extends Step B ρ fr s ρ' s' where
 OY:∀ b∈fr,∀ o,s.heap.get? b=Zj o->∃ sl,s'.heap.get? b=Zj { o with slots:=sl }
section
variable{B:Base}{ρ ρ' M_:e_}{fr:List Tc}{s s' s'':S9}
theorem Step.refl(B:Base)(ρ:e_)(fr:List Tc)(s:S9):Step B ρ fr s ρ s:=
 ⟨.refl _,.refl _ _,.refl _,rfl,λ_ _ o e=>⟨o.slots,e⟩⟩
theorem Step.trans(x:Step B ρ fr s ρ' s')(y:Step B ρ' fr s' M_ s''):Step B ρ fr s M_ s'':=
 ⟨x.goes.trans y.goes,x.still.trans y.still,x.cells.trans y.cells,y.fs.trans x.fs,
  λb hb o e=>by obtain⟨_,e'⟩:=x.Pl b hb o e;exact by obtain⟨sl,e''⟩:=y.Pl b (x.fs▸hb) _ e';exact⟨sl,e''⟩⟩
theorem dR.refl(B:Base)(ρ:e_)(fr:List Tc)(s:S9):dR B ρ fr s ρ s:=⟨Step.refl ..,λ_ _ o e=>⟨o.slots,e⟩⟩
theorem dR.trans(x:dR B ρ fr s ρ' s')(y:dR B ρ' fr s' M_ s''):dR B ρ fr s M_ s'':=
 ⟨x.toStep.trans y.toStep,λb hb o e=>by obtain⟨_,e'⟩:=x.OY b hb o e;exact by obtain⟨sl,e''⟩:=y.OY b hb _ e';exact⟨sl,e''⟩⟩
end
structure AC (A:TV) (ρ:e_) (fr:List Tc) (n:Nat):Prop where
 frames:∃ l,A.frames=Zj l/\∀ env∈l,env.scope.kind ≠ .module/\∃ L,env.frame=Zj L/\(L∈fr\/L∈ρ.fs)
 depth:A.depth+n<=500
 units:A.units+8*n<=8000
 guards:A.guards=Zj []
 handled:A.handled=ρ.x.map λq => .ref q.1
theorem AC.step{A:TV}{ρ ρ':e_}{fr:List Tc}{n:Nat}(x:AC A ρ fr n)(hf:ρ'.fs=ρ.fs)(hx:ρ'.x=ρ.x):AC A ρ' fr n:=
 ⟨by(refine b_ hf ?_);exact x.frames,x.depth,x.units,x.guards,by(refine b_ hx ?_);exact x.handled⟩
theorem AC.less{A:TV}{ρ:e_}{fr:List Tc}{n m:Nat}(x:AC A ρ fr n)(h:m<=n):AC A ρ fr m:=
 ⟨x.frames,by have:=x.depth;lia,by have:=x.units;lia,x.guards,x.handled⟩
theorem cZ:∀ (l:List (Tq×Tp)) (x:Tq),ah l x=l.lookup x
 | [],_=>rfl
 | (y,k)::r,x=>by
  refine b_ (dl ..) ?_;refine b_ (Uc ..) ?_
  by_cases h:y=x
  ·subst h;(refine b_ (aQ ..) ?_);simp
  ·(refine b_ (aV h ..) ?_)
   have:(x==y)=Zn:=by simpa using Vd h
   (refine b_ (this ..) ?_);exact cZ r x
theorem q8{h h':Tr}{a:Tc}{m:Tq->Option SX}(x:h.Ns a m)(k:∀ o,h.get? a=Zj o->∃ sl,h'.get? a=Zj { o with slots:=sl }):h'.Ns a m:=by
 obtain⟨o,es,ep,ho,hd,r⟩:=x;obtain⟨sl,hs⟩:=k o ho
 exact⟨_,es,ep,hs,hd,r⟩
def tQ(B:Base)(env:WD):Prop:=X2 λc P=>env.code = .ref c/\td B c P
structure Fm (B:Base) (env:WD) (sc:Tz) (le:LE) (ρ:e_) (fr:List Tc) (h:Tr):Prop where
 kind:env.scope.kind = .function
 globals:env.globals=mainGlobals
 builtins:env.builtins=builtinsNs
 kinds:∀ x k,ah sc.names x=Zj k->env.kindOf x=Zj k\/(k = .free/\env.kindOf x=Zj .cell)
 loc:env.locals∈fr
 ns:∃ m,h.Ns env.locals m/\∀ x v,ak le x=Zj v->ah sc.names x=Zj .local->∃ u,m x=Zj u/\VR B ρ h (aj ρ fr) v u
 cells:∀ x v,ak le x=Zj v->ah sc.names x=Zj .cell\/ah sc.names x=Zj .free->X3 λc o u=>A5 (env.cells.lookup x=Zj c) (h.get? c=Zj o) (o.cls = .type "cell") (o.data = .cell (Zj u)) (VR B ρ h (aj ρ fr) v u)
 empty:∀ x,ak le x=Zk->ah sc.names x=Zj .cell->X2 λc o=>A6 (env.cells.lookup x=Zj c) (h.get? c=Zj o) (o.cls = .type "cell") (o.data = .cell Zk) (c∈fr) (c≠env.locals)
 apart:∀ x y c,env.cells.lookup x=Zj c->env.cells.lookup y=Zj c->x=y
 code:dz sc=Zm->tQ B env
section
variable{B:Base}{env:WD}{sc:Tz}{le:LE}{ρ ρ':e_}{fr:List Tc}{s s':S9}
theorem Fm.step(F:Fm B env sc le ρ fr s.heap)(S:dR B ρ fr s ρ' s'):Fm B env sc le ρ' fr s'.heap:=by
 refine⟨F.kind,F.globals,F.builtins,F.kinds,F.loc,?_,λx v hx hk => ?_,λx hx hk => ?_,F.apart,F.code⟩
 ·obtain⟨m,hn,hm⟩:=F.ns
  refine⟨m,q8 hn (S.OY _ F.loc),λx v hx hk => ?_⟩
  obtain⟨u,hu,hv⟩:=hm x v hx hk
  exact⟨u,hu,hv.mono S.goes S.still⟩
 ·obtain⟨c,o,u,hc,ho,hcl,hd,hv⟩:=F.cells x v hx hk;obtain⟨o',e',k',d'⟩:=S.cells.cells _ _ _ ho hcl hd
  exact⟨c,o',u,hc,e',k'.trans hcl,d'.trans hd,hv.mono S.goes S.still⟩
 ·obtain⟨c,o,hc,ho,hcl,hd,hf,hne⟩:=F.empty x hx hk;obtain⟨sl,hs⟩:=S.OY c hf o ho
  exact⟨c,_,hc,hs,hcl,hd,hf,hne⟩
end
section
variable{α β:Type}
theorem jM{b x:Bool}(h:ac b x Zn=Zm):Qc b x:=by
 cases b
 ·exact Ti h
 ·exact⟨rfl,h⟩
theorem bu{α:Type}{l:List α}(h:ip l=Zm):l=[]:=by
 cases l with
 | nil=>rfl
 | cons=>exact Ti h
theorem nn{α:Type}{a:α}{C:Prop}(h:Zk=Zj a):C:=by cases h
inductive PO {α β:Type} (B:Base) (ρ:e_) (fr:List Tc) (s:S9) (rel:α->e_->S9->β->Prop) (a:α) (σ':VS) (v:β) (s':S9):Prop
 | mk (ρ':e_):SR B ρ' fr σ' s'->dR B ρ fr s ρ' s'->ρ'.x=ρ.x->rel a ρ' s' v->PO B ρ fr s rel a σ' v s'
inductive PE (B:Base) (ρ:e_) (fr:List Tc) (s:S9) (σ':VS) (e:SX) (s':S9):Prop
 | mk (ρ':e_) (q:Tc×Tc):SR B ρ' fr σ' s'->dR B ρ fr s ρ' s'->ρ'.x=Zj q->e = .ref q.1->PE B ρ fr s σ' e s'
def Wp(B:Base)(A:TV)(ρ:e_)(fr:List Tc)(s:S9)(r:R α)(t:Xk β)(rel:α->e_->S9->β->Prop):Prop:=
 match r with
 | .ok a σ'=>wpAny B.M A t (PO B ρ fr s rel a σ') (λ_ _=>False) s
 | .exc σ'=>wpAny B.M A t (λ_ _=>False) (PE B ρ fr s σ') s
 | .no=>True
inductive EP (B:Base) (ρ:e_) (fr:List Tc) (s:S9) (r:R α) (e:SX) (s':S9):Prop
 | mk (σ':VS) (ρ':e_) (q:Tc×Tc):r = .exc σ'->SR B ρ' fr σ' s'->dR B ρ fr s ρ' s'->ρ'.x=Zj q->e = .ref q.1->EP B ρ fr s r e s'
inductive QP (B:Base) (ρ:e_) (fr:List Tc) (s:S9) (r:R α) (rel:α->e_->S9->β->Prop) (v:β) (s':S9):Prop
 | mk (a:α) (σ':VS) (ρ':e_):r = .ok a σ'->SR B ρ' fr σ' s'->dR B ρ fr s ρ' s'->ρ'.x=ρ.x->rel a ρ' s' v->QP B ρ fr s r rel v s'
variable{B:Base}{A:TV}{ρ c_:e_}{fr:List Tc}{s s₀:S9}{r:R α}{t:Xk β}{rel Rw:α->e_->S9->β->Prop}
theorem Wp.of(h:r ≠ .no->wpAny B.M A t (QP B ρ fr s r rel) (EP B ρ fr s r) s):Wp B A ρ fr s r t rel:=by
 cases r with
 | no=>trivial
 | ok a σ=>
  refine TJ (h (by simp)) (λv s' h => ?_) λe s' h => ?_
  ·obtain⟨a',σ',ρ',e,h1,h2,h3,h4⟩:=h;cases e;exact⟨ρ',h1,h2,h3,h4⟩
  ·obtain⟨_,_,_,e⟩:=h;cases e
 | exc σ=>
  refine TJ (h (by simp)) (λv s' h => ?_) λe s' h => ?_
  ·obtain⟨a',σ',ρ',e⟩:=h;cases e
  ·obtain⟨σ',ρ',q,e,h1,h2,h3,h4⟩:=h;cases e;exact⟨ρ',q,h1,h2,h3,h4⟩
theorem Wp.go(W:Wp B A ρ fr s r t rel)(hn:r ≠ .no):wpAny B.M A t (QP B ρ fr s r rel) (EP B ρ fr s r) s:=by
 cases r with
 | no=>exact absurd rfl hn
 | ok a σ=>exact TJ W (λv s' ⟨ρ',h1,h2,h3,h4⟩=>⟨a,σ,ρ',rfl,h1,h2,h3,h4⟩) λ_ _ h=>h.elim
 | exc σ=>exact TJ W (λ_ _ h=>h.elim) λe s' ⟨ρ',q,h1,h2,h3,h4⟩=>⟨σ,ρ',q,rfl,h1,h2,h3,h4⟩
theorem Wp.use{γ:Type}{res:R γ}{Q:β->S9->Prop}(W:Wp B A ρ fr s r t rel)(st:dR B c_ fr s₀ ρ s)(hn:res ≠ .no)(he:∀ σ',r = .exc σ'->res = .exc σ')(hno:r = .no->res = .no)
  (k:∀ a σ' ρ' v s',r = .ok a σ'->SR B ρ' fr σ' s'->dR B ρ fr s ρ' s'->ρ'.x=ρ.x->rel a ρ' s' v->Q v s'):wpAny B.M A t Q (EP B c_ fr s₀ res) s:=by
 refine TJ (W.go λh=>hn (hno h)) (λv s' h => ?_) λe s' h => ?_
 ·obtain⟨a,σ',ρ',e,h1,h2,hx,h3⟩:=h;exact k a σ' ρ' v s' e h1 h2 hx h3
 ·obtain⟨σ',ρ',q,e,h1,h2,h3,h4⟩:=h
  exact⟨σ',ρ',q,he σ' e,h1,st.trans h2,h3,h4⟩
end
theorem SR.tok{B:Base}{ρ:e_}{fr:List Tc}{σ:VS}{s:S9}(S:SR B ρ fr σ s)(t:Nat):SR B ρ fr σ { s with toks:=t }:=
 ⟨S.len,S.obj,S.gone,S.sep,S.L_,S.I_,S.frB,S.exc,S.base,S.gens,S.os,S.cap,S.Os⟩
theorem dR.tok{B:Base}{ρ ρ':e_}{fr:List Tc}{s s':S9}(S:dR B ρ fr s ρ' s')(t:Nat):dR B ρ fr s ρ' { s' with toks:=t }:=
 ⟨⟨S.goes,S.still,S.cells,S.fs,S.Pl⟩,S.OY⟩
theorem dR.toks(B:Base)(ρ:e_)(fr:List Tc)(s:S9)(t:Nat):dR B ρ fr s ρ { s with toks:=t }:=(dR.refl B ρ fr s).tok t
def aM(B:Base)(fr:List Tc)(v:V)(ρ:e_)(s:S9)(u:SX):Prop:=VR B ρ s.heap (aj ρ fr) v u
section
variable{B:Base}{ρ:e_}{h:Tr}{ow:Tc->Prop}
theorem l_{i:Int}{u:SX}:VR B ρ h ow (.d (.int i)) u ↔ ∃ t,u = .int i t:=by unfold VR PR;exact Iff.rfl
theorem OM{b:Bool}{u:SX}:VR B ρ h ow (.d (.bool b)) u ↔ u = .bool b:=by unfold VR PR;exact Iff.rfl
theorem D'{x:Tq}{u:SX}:VR B ρ h ow (.d (.str x)) u ↔ ∃ t,u = .str x t:=by unfold VR PR;exact Iff.rfl
theorem M'{u:SX}:VR B ρ h ow (.d .none) u ↔ u = .none:=by unfold VR PR;exact Iff.rfl
end
end
section
open PySem PySem.W PyProof.Rows
def Plain(o:V3):Prop:=(∀ ts,o.cls = .type "traceback"->o.data ≠ .fields ts)/\(∀ v,o.cls = .type "cell"->o.data ≠ .cell v)/\∀ ts,cJ o.cls=Zm->o.data ≠ .fields ts
theorem Plain.PX{o:V3}(h1:o.cls ≠ .type "traceback")(h2:o.cls ≠ .type "cell")(h3:cJ o.cls=Zn):Plain o:=⟨λ_ e=>absurd e h1,λ_ e=>absurd e h2,λ_ e=>by rw[h3]at e;cases e⟩
theorem Plain.Pm{o:V3}{es:Array Vm}{n:Nat}(h:o.data = .dict es n):Plain o:=⟨λts q e=>(by rw[h]at e;cases e),λv q e=>(by rw[h]at e;cases e),λts q e=>(by rw[h]at e;cases e)⟩
theorem Dn{h₀ h h':Tr}(K:OldK h₀ h)(hk:∀ b o₀ o,h₀.get? b=Zj o₀->h.get? b=Zj o->h'.get? b=Zj o):OldK h₀ h':=
 ⟨λb o e=>by
  rcases K.old b o e with x|⟨t,hc,vs,more,hv,x⟩|⟨rfl,hc,⟨o',es,n,ho',r⟩,z⟩
  ·exact .inl (hk _ _ _ e x)
  ·exact .inr (.inl ⟨t,hc,vs,more,hv,hk _ _ _ e x⟩)
  ·exact .inr (.inr ⟨rfl,hc,⟨o',es,n,hk _ _ _ e ho',r⟩,λkey=>by(refine b_ (OldK.staticOf_congr ((hk _ _ _ e ho').trans ho'.symm) key) ?_);exact z key⟩),
  λb o e=>by obtain⟨o',ho'⟩:=K.there b o e;exact⟨o',hk _ _ _ e ho'⟩⟩
def HW(o:V3)(P:Tc):Prop:=∀ (h:Tr) (c:Tc) (ps:Array SX) (op:V3),h.get? c=Zj o->h.get? P=Zj op->op.data = .fields ps->TriplesOk ps.toList->c≠P->h.IsCode c P ps
theorem i9{h:Tr}{c P:Tc}{ps:Array SX}(x:h.IsCode c P ps):X2 λo op=>A6 (h.get? c=Zj o) (h.get? P=Zj op) (op.data = .fields ps) (TriplesOk ps.toList) (c≠P) (HW o P):=by
 obtain⟨o,vs,file,tf,flags,tg,inF,text,tt,op,a,r1,r2,r3,r4,r5,r6,b,d,t,n⟩:=x
 refine⟨o,op,a,b,d,t,n,λ_ _ _ op a b d t n => ?_⟩
 exact⟨o,vs,file,tf,flags,tg,inF,text,tt,op,a,r1,r2,r3,r4,r5,r6,b,d,t,n⟩
theorem np{h h':Tr}{c P:Tc}{ps:Array SX}(h1:∀ o,h.get? c=Zj o->h'.get? c=Zj o)(h2:∀ o,h.get? P=Zj o->h'.get? P=Zj o)(x:h.IsCode c P ps):h'.IsCode c P ps:=
 have ⟨_,_,a,b,d,t,n,f⟩:=i9 x
 f _ _ _ _ (h1 _ a) (h2 _ b) d t n
theorem li{h h':Tr}{c P:Tc}{ps:Array SX}(h1:∀ o,h.get? c=Zj o->h'.get? c=Zj o)(h2:∀ o,h.get? P=Zj o->h'.get? P=Zj o)(x:h.TableAt c P ps):h'.TableAt c P ps:=
 by obtain⟨⟨o,vs,a,r⟩,t⟩:=x;exact⟨⟨o,vs,h1 _ a,r⟩,h2 _ t⟩
theorem cK{B:Base}{h h':Tr}{ow y_:Tc->Prop}(K:Qz B h ow)(St:Still h ow h' y_)(hk:∀ b o₀ o,B.h₀.get? b=Zj o₀->h.get? b=Zj o->h'.get? b=Zj o):Qz B h' y_:=
 ⟨Dn K.toOldK hk,λc P n=>by
  obtain⟨ps,h1,h2,h3⟩:=K.tabs c P n;obtain⟨⟨oc,_,hc,_⟩,hP⟩:=n.2;have k1:∀ o,h.get? c=Zj o->h'.get? c=Zj o:=λo e=>hk _ _ _ hc e
  have k2:∀ o,h.get? P=Zj o->h'.get? P=Zj o:=λo e=>hk _ _ _ hP e
  exact⟨ps,np k1 k2 h1,li k1 k2 h2,λpos v e=>(h3 pos v e).mono St⟩,λo e=>hk _ _ _ e (K.stat o e)⟩
theorem gO{k:Option Tp}(h:mL k=Zm):k=Zj .local:=by
 cases k with
 | none=>cases h
 | some k=>cases k<;>first|rfl|cases h
section
variable{B:Base}{ρ:e_}
theorem cQ{α:Type}{b:Bool}{x:Option α}{r:α}(h:ac b x Zk=Zj r):Ru b x r:=by
 cases b with
 | false=>exact nn h
 | true=>exact⟨rfl,h⟩
theorem aD{α β:Type}{o:Option α}{f:α->Option β}{r:β}(h:ag o Zk f=Zj r):QY o f r:=by
 cases o with
 | none=>exact nn h
 | some a=>exact⟨a,rfl,h⟩
theorem ca{o:V}{x:SQ}(h:gR o=Zj x):o = .d x:=by
 cases o<;>first|exact nn h|(cases h;rfl)
theorem aH{h:Tr}{ow:Tc->Prop}{i:Nat}{p:Tc×List Tc}{u:SX}(hp:ρ.m[i]? = Zj (Zj p))(r:VR B ρ h ow (.ref i) u):u = .ref p.1:=by
 unfold VR at r;rcases r with ⟨p',hp',rfl⟩|⟨hn,_⟩
 ·rw[hp]at hp';cases hp';rfl
 ·rw[hp]at hn;cases hn
end
section
variable{B:Base}{ρ:e_}{h:Tr}{ow:Tc->Prop}
theorem Az{o:O}{p:Tc×List Tc}(r:OR B ρ h ow o p):∀ b,mz p b->∃ x,h.get? b=Zj x:=by
 intro b hb;cases o with
 | a_ xs=>
  obtain⟨e,vs,n,ho,_⟩:=r;rcases hb with rfl|hb
  ·exact⟨_,ho⟩
  ·rw[e]at hb;cases hb
 | p_ xs=>
  obtain⟨e,vs,n,ho,_⟩:=r;rcases hb with rfl|hb
  ·exact⟨_,ho⟩
  ·rw[e]at hb;cases hb
 | dict xs=>
  obtain⟨e,_,⟨o,ho,_⟩,_⟩:=r;rcases hb with rfl|hb
  ·exact⟨_,ho⟩
  ·rw[e]at hb;cases hb
 | inst c fs=>
  obtain⟨dx,mA,o,e,ho,_,_,_,_,⟨od,_,_,hod,_⟩,_⟩:=r;rcases hb with rfl|hb
  ·exact⟨_,ho⟩
  ·rw[e]at hb;(refine b_ (YB.mp hb) ?_);exact⟨_,hod⟩
 | clo a b sc cap=>
  obtain⟨e,o,fd,ho,_⟩:=r;rcases hb with rfl|hb
  ·exact⟨_,ho⟩
  ·rw[e]at hb;cases hb
 | dead=>exact r.elim
end
section
variable{B:Base}{ρ:e_}{fr:List Tc}{σ:VS}{s:S9}
theorem SR.obj'(S:SR B ρ fr σ s){i:Nat}{p:Tc×List Tc}{o:O}(hp:ρ.m[i]? = Zj (Zj p))(ho:σ.get i=Zj o):OR B ρ s.heap (aj ρ fr) o p:=by
 obtain⟨o',ho',r⟩:=S.obj i p hp;unfold VS.get at ho;rw[bI]at ho;rw[ho]at ho';cases ho';exact r
theorem SR.at(S:SR B ρ fr σ s){i:Nat}{o:O}(ho:σ.get i=Zj o)(hd:o ≠ .dead):∃ p,ρ.m[i]? = Zj (Zj p)/\OR B ρ s.heap (aj ρ fr) o p:=by
 have ho':=ho
 unfold VS.get at ho';rw[bI]at ho';have hlt:i < ρ.m.length:=by(refine b_ S.len ?_);exact(TF.mp ho').1
 cases e:ρ.m[i]? with
 | none=>rw[Uu]at e;lia
 | some x=>
  cases x with
  | none=>rw[S.gone i e]at ho';cases ho';exact absurd rfl hd
  | some p=>exact⟨p,rfl,S.obj' e ho⟩
theorem SR.there(S:SR B ρ fr σ s){b:Tc}(hb:aj ρ fr b):∃ x,s.heap.get? b=Zj x:=by
 rcases hb with ⟨i,p,hp,hat⟩|⟨q,hq,hat⟩|hf|hf
 ·obtain⟨o,_,r⟩:=S.obj i p hp;exact Az r b hat
 ·have hx:=S.exc
  rw[hq]at hx;cases hsx:σ.x with
  | none=>rw[hsx]at hx;exact hx.elim
  | some ck=>
   rw[hsx]at hx;obtain⟨o,vs,mA,ho,_,hd,_,_,⟨od,_,_,hod,_⟩,_⟩:=hx;rcases hat with rfl|rfl
   ·exact⟨_,ho⟩
   ·exact⟨_,hod⟩
 ·obtain⟨_,o,ho,_⟩:=S.frB b (.inl hf);exact⟨o,ho⟩
 ·obtain⟨_,o,ho,_⟩:=S.frB b (.inr hf);exact⟨o,ho⟩
theorem SR.Qe(S:SR B ρ fr σ s){b:Tc}(hb:aj ρ fr b):B.h₀.get? b=Zk:=by
 rcases hb with ⟨i,p,hp,hat⟩|⟨q,hq,hat⟩|hf|hf
 ·exact(S.L_ i p hp b hat).2.2
 ·exact((S.I_ q hq).2 b hat).2.2.1
 ·exact(S.frB b (.inl hf)).1
 ·exact(S.frB b (.inr hf)).1
theorem SR.OU(S:SR B ρ fr σ s){b:Tc}(h:s.heap.get? b=Zk):¬ aj ρ fr b:=λhb=>by
 obtain⟨x,hx⟩:=S.there hb;rw[h]at hx;cases hx
theorem SR.fresh0(S:SR B ρ fr σ s){b:Tc}(h:s.heap.get? b=Zk):B.h₀.get? b=Zk:=by
 cases e:B.h₀.get? b with
 | none=>rfl
 | some o=>obtain⟨o',ho'⟩:=S.base.there b o e;rw[h]at ho';cases ho'
theorem SR.old(S:SR B ρ fr σ s){b:Tc}{o:V3}(e:B.h₀.get? b=Zj o):¬ aj ρ fr b:=λq=>by rw[S.Qe q]at e;cases e
theorem Pk.keep{h h':Tr}{c:Tc}{k:Int}{q:Tc×Tc}(r:Pk B h c k q)(k1:∀ o,h.get? q.1=Zj o->h'.get? q.1=Zj o)(k2:∀ o,h.get? q.2=Zj o->h'.get? q.2=Zj o)
  (k3:∀ b o ts,B.h₀.get? b=Zk->h.get? b=Zj o->o.cls = .type "traceback"->o.data = .fields ts->h'.get? b=Zj o):Pk B h' c k q:=by
 obtain⟨o,vs,mA,ho,hc,hdd,hd,hz,hn,hk,ht⟩:=r
 refine⟨o,vs,mA,k1 o ho,hc,hdd,hd,hz,hn.at k2,hk,?_⟩
 rcases ht with ht|⟨T,oT,ts,h1,h2,h3,h4,h5,h6⟩
 ·exact .inl ht
 ·exact .inr ⟨T,oT,ts,h1,h2,k3 _ _ _ h2 h3 h4 h5,h4,h5,h6⟩
theorem SR.turn{s':S9}{σ':VS}(W:Tc->Prop)(S:SR B ρ fr σ s)(hk:∀ b o,¬ W b->s.heap.get? b=Zj o->s'.heap.get? b=Zj o)(hW:∀ b,W b->X2 λ(i:Nat) (p:Tc×List Tc)=>ρ.m[i]? = Zj (Zj p)/\mz p b)
  (Q2:∀ b o,W b->s.heap.get? b=Zj o->Plain o) (hth:∀ b,W b->∃ o',s'.heap.get? b=Zj o')
  (hg:s'.gens=s.gens) (hos:s'.os=s.os) (hl:σ'.o.length=σ.o.length) (hx:σ'.x=σ.x)
  (hO:Still s.heap (aj ρ fr) s'.heap (aj ρ fr)->Cells s.heap s'.heap->
   ∀ (i:Nat) (p:Tc×List Tc),ρ.m[i]? = Zj (Zj p)->(∃ o,σ'.o[i]? = Zj o/\OR B ρ s'.heap (aj ρ fr) o p)\/(σ'.o[i]? = σ.o[i]? /\ ∀ b,mz p b->¬ W b))
  (Q3:∀ (i:Nat),ρ.m[i]? = Zj Zk->σ'.o[i]? = Zj O.dead) (hcap:∀ (i:Nat) (o:O),σ'.o[i]? = Zj o->dL σ'.cap o) (hcs:σ'.cap<=2 ^ 19) :
  SR B ρ fr σ' s'/\dR B ρ fr s ρ s':=by
 have there:∀ b o,s.heap.get? b=Zj o->∃ o',s'.heap.get? b=Zj o':=λb o e=>by
  by_cases hw:W b
  ·exact hth b hw
  ·exact⟨o,hk b o hw e⟩
 have hown:∀ b,W b->aj ρ fr b:=λb hw=>by obtain⟨i,p,h1,h2⟩:=hW b hw;exact .inl ⟨i,p,h1,h2⟩
 have still:Still s.heap (aj ρ fr) s'.heap (aj ρ fr):=⟨λb o e n _=>hk b o (λw=>n (hown b w)) e,λb h => .inl h,λb o e => .inr (there b o e)⟩
 have cells:Cells s.heap s'.heap:=⟨⟨λb o v e c d=>⟨o,hk b o (λw=>(Q2 b o w e).2.1 _ c d) e,rfl,rfl⟩⟩,λb o ts e c d=>hk b o (λw=>(Q2 b o w e).2.2 _ c d) e⟩
 have Rx:∀ b,b∈fr\/b∈ρ.fs->¬ W b:=λb hb w=>by
  obtain⟨i,p,h1,h2⟩:=hW b w
  have:=S.L_ i p h1 b h2
  rcases hb with hb|hb
  ·exact this.1 hb
  ·exact this.2.1 hb
 refine⟨⟨by(refine b_ hl ?_);exact S.len,λi p hp => ?_,Q3,S.sep,S.L_,S.I_,λb hb => ?_,?_,?_,hg.trans S.gens,hos.trans S.os,hcap,hcs⟩,⟨⟨.refl _,still,cells,rfl,λb hb o e=>⟨o.slots,hk b o (Rx b (.inr hb)) e⟩⟩,λb hb o e=>⟨o.slots,hk b o (Rx b (.inl hb)) e⟩⟩⟩
 ·rcases hO still cells i p hp with h|⟨he,hno⟩
  ·exact h
  ·obtain⟨o,ho,r⟩:=S.obj i p hp
   exact⟨o,he.trans ho,r.mono (.refl _) still cells.toCell1 o p (λb x hb e=>hk b x (hno b hb) e)⟩
 ·obtain⟨h0,o,ho,hd⟩:=S.frB b hb
  exact⟨h0,o,hk b o (Rx b hb) ho,hd⟩
 ·(refine b_ hx ?_)
  refine O4.mono S.exc λ_ _ q PQ e => ?_
  have sx:=(S.I_ q PQ).2
  have nW:∀ b,(b=q.1\/b=q.2)->¬ W b:=λb hb w=>by
   obtain⟨i,p,h1,h2⟩:=hW b w
   exact(sx b hb).2.2.2 i p h1 h2
  refine Pk.keep e (λo ho=>hk _ o (nW _ (.inl rfl)) ho) (λo ho=>hk _ o (nW _ (.inr rfl)) ho) λb o ts h0 ho hc hd=>hk b o (λw=>(Q2 b o w ho).1 _ hc hd) ho
 ·exact cK S.base still λb o₀ o e0 e=>hk b o (λw=>by rw[S.Qe (hown b w)]at e0;cases e0) e
theorem SR.grow{s':S9}(S:SR B ρ fr σ s)(hk:∀ b o,s.heap.get? b=Zj o->s'.heap.get? b=Zj o)(hg:s'.gens=s.gens)(hos:s'.os=s.os) :
  SR B ρ fr σ s'/\dR B ρ fr s ρ s':=
 S.turn (λ_=>False) (λb o _ e=>hk b o e) (λ_ h=>h.elim) (λ_ _ h=>h.elim) (λ_ h=>h.elim) hg hos rfl rfl (λ_ _ i p hp=>(.inr ⟨rfl,λ_ _ h=>h⟩)) S.gone S.cap S.Os
theorem SR.upd{s':S9}{i:Nat}{p:Tc×List Tc}{a:Tc}{oa:V3}{O':O}(S:SR B ρ fr σ s)(hi:ρ.m[i]? = Zj (Zj p))(ha:mz p a)(hoa:s.heap.get? a=Zj oa)
  (hcl:Plain oa) (hk:∀ b o,b≠a->s.heap.get? b=Zj o->s'.heap.get? b=Zj o) (hth:∃ o',s'.heap.get? a=Zj o')
  (hg:s'.gens=s.gens) (hos:s'.os=s.os)
  (hO:Still s.heap (aj ρ fr) s'.heap (aj ρ fr)->Cells s.heap s'.heap->OR B ρ s'.heap (aj ρ fr) O' p) (hc:dL σ.cap O') :
  SR B ρ fr (σ.put i O') s'/\dR B ρ fr s ρ s':=by
 have hilt:i < σ.o.length:=by(refine A' (S.len ..) ?_;try (with_reducible rfl));exact(TF.mp hi).1
 refine S.turn (σ':=σ.put i O') (λb=>b=a) (λb o hb e=>hk b o hb e) (λb hb=>⟨i,p,hi,hb▸ha⟩) (λb o hb e=>by subst hb;rw[hoa]at e;cases e;exact hcl) (λb hb=>hb▸hth) hg hos
  (by show(bb _ _ _).length=_;(refine b_ (aS ..) ?_;refine b_ (Wq ..) ?_;try (with_reducible rfl))) rfl (λst ce j q hq => ?_) (λj hj => ?_) (λj o hj => ?_) S.Os
 ·by_cases e:j=i
  ·subst e;rw[hi]at hq;cases hq;refine .inl ⟨O',?_,hO st ce⟩
   show(bb _ _ _)[j]? = _
   (refine b_ (aS ..) ?_;refine b_ (U7 hilt ..) ?_;try (with_reducible rfl))
  ·refine .inr ⟨?_,λb hb h => ?_⟩
   ·show(bb _ _ _)[j]? = _
    (refine b_ (aS ..) ?_;refine b_ (Us (Vd e) ..) ?_;try (with_reducible rfl))
   ·subst h;exact S.sep j i q p hq hi e b hb ha
 ·show(bb _ _ _)[j]? = _
  have e:j≠i:=λe=>by subst e;rw[hi]at hj;cases hj
  (refine b_ (aS ..) ?_;refine b_ (Us (Vd e) ..) ?_;try (with_reducible rfl));exact S.gone j hj
 ·have hj':(bb σ.o i O')[j]? = Zj o:=hj
  rw[aS]at hj'
  by_cases e:j=i
  ·subst e;rw[U7 hilt]at hj';cases hj';exact hc
  ·rw[Us (Vd e)]at hj';exact S.cap j o hj'
noncomputable def e_.add(ρ:e_)(p:Tc×List Tc):e_:={ ρ with m:=ρ.m++[Zj p] }
theorem v9{ρ:e_}{p:Tc×List Tc}{i:Nat}{e:Option (Tc×List Tc)}(h:ρ.m[i]? = Zj e):(ρ.add p).m[i]? = Zj e:=by
 show(ρ.m++[Zj p])[i]? = _
 (refine b_ (Vt (TF.mp h).1) ?_);exact h
theorem gF(ρ:e_)(p:Tc×List Tc):(ρ.add p).m[ρ.m.length]? = Zj (Zj p):=by show(ρ.m++[Zj p])[ρ.m.length]? = _;simp
theorem fu{ρ:e_}{p:Tc×List Tc}{i:Nat}{e:Option (Tc×List Tc)}(h:(ρ.add p).m[i]? = Zj e):ρ.m[i]? = Zj e\/(i=ρ.m.length/\e=Zj p):=by
 have h':(ρ.m++[Zj p])[i]? = Zj e:=h
 by_cases hi:i < ρ.m.length
 ·rw[Vt hi]at h';exact .inl h'
 ·have:i=ρ.m.length:=by
   have:=(TF.mp h').1
   simp at this;exact Nat.eq_of_lt_succ_of_not_lt this hi
  subst this;rw[gF ρ p]at h;cases h;exact .inr ⟨rfl,rfl⟩
theorem Qf{ρ:e_}{p:Tc×List Tc}{fr:List Tc}{b:Tc}:aj (ρ.add p) fr b ↔ aj ρ fr b\/mz p b:=by
 constructor
 ·rintro(⟨i,q,hq,hat⟩|h|h)
  ·rcases fu hq with h|⟨_,e⟩
   ·exact .inl (.inl ⟨i,q,h,hat⟩)
   ·cases e;exact .inr hat
  ·exact .inl (.inr (.inl h))
  ·exact .inl (.inr (.inr h))
 ·rintro((⟨i,q,hq,hat⟩|h|h)|h)
  ·exact .inl ⟨i,q,v9 hq,hat⟩
  ·exact .inr (.inl h)
  ·exact .inr (.inr h)
  ·exact .inl ⟨_,p,gF ρ p,h⟩
theorem SR.add{s':S9}{p:Tc×List Tc}{O':O}(S:SR B ρ fr σ s)(hp:∀ b,mz p b->s.heap.get? b=Zk)(hk:∀ b o,s.heap.get? b=Zj o->s'.heap.get? b=Zj o)
  (hg:s'.gens=s.gens) (hos:s'.os=s.os)
  (hO:v_ ρ (ρ.add p)->Still s.heap (aj ρ fr) s'.heap (aj (ρ.add p) fr)->Cells s.heap s'.heap->OR B (ρ.add p) s'.heap (aj (ρ.add p) fr) O' p) (hc:dL σ.cap O') :
  SR B (ρ.add p) fr ⟨σ.o++[O'],σ.x,σ.cap⟩ s'/\dR B ρ fr s (ρ.add p) s':=by
 have goes:v_ ρ (ρ.add p):=⟨λi e h => .inl (v9 h),λq h=>h⟩
 have still:Still s.heap (aj ρ fr) s'.heap (aj (ρ.add p) fr):=⟨λb o e _ _=>hk b o e,λb h=>by
  rcases Qf.mp h with h|h
  ·exact .inl h
  ·exact .inr (hp b h),λb o e => .inr ⟨o,hk b o e⟩⟩
 have cells:Cells s.heap s'.heap:=⟨⟨λb o v e _ _=>⟨o,hk b o e,rfl,rfl⟩⟩,λb o ts e _ _=>hk b o e⟩
 refine⟨⟨?_,λi q hq => ?_,λi hi => ?_,λi j q r hq hr hij b hb hb' => ?_,λi q hq b hb => ?_,λq hq=>⟨(S.I_ q hq).1,λb hb => ?_⟩,λb hb => ?_,?_,?_,hg.trans S.gens,hos.trans S.os,λi o ho => ?_,S.Os⟩,
  ⟨⟨goes,still,cells,rfl,λb _ o e=>⟨o.slots,hk b o e⟩⟩,λb _ o e=>⟨o.slots,hk b o e⟩⟩⟩
 ·show(ρ.m++[Zj p]).length=(σ.o++[O']).length
  (refine b_ Ut ?_;refine b_ Ut ?_;refine b_ S.len ?_);rfl
 ·rcases fu hq with h|⟨rfl,e⟩
  ·obtain⟨o,ho,r⟩:=S.obj i q h
   refine⟨o,?_,r.mono goes still cells.toCell1 o q (λb x _ e=>hk b x e)⟩
   show(σ.o++[O'])[i]? = _
   (refine b_ (Vt (TF.mp ho).1) ?_);exact ho
  ·cases e
   refine⟨O',?_,hO goes still cells⟩
   show(σ.o++[O'])[ρ.m.length]? = _
   (refine b_ S.len ?_);simp
 ·rcases fu hi with h|⟨_,e⟩
  ·have:=S.gone i h
   show(σ.o++[O'])[i]? = _
   (refine b_ (Vt (TF.mp this).1) ?_);exact this
  ·cases e
 ·rcases fu hq with h|⟨e1,e⟩<;>rcases fu hr with h'|⟨e2,e'⟩
  ·exact S.sep i j q r h h' hij b hb hb'
  ·cases e';exact S.OU (hp b hb') (.inl ⟨i,q,h,hb⟩)
  ·cases e;exact S.OU (hp b hb) (.inl ⟨j,r,h',hb'⟩)
  ·exact hij (e1.trans e2.symm)
 ·rcases fu hq with h|⟨_,e⟩
  ·exact S.L_ i q h b hb
  ·cases e
   exact⟨λh=>S.OU (hp b hb) (.inr (.inr (.inl h))),λh=>S.OU (hp b hb) (.inr (.inr (.inr h))),S.fresh0 (hp b hb)⟩
 ·obtain⟨h1,h2,h3,h4⟩:=(S.I_ q hq).2 b hb
  refine⟨h1,h2,h3,λi r hr hb' => ?_⟩
  rcases fu hr with h|⟨_,e⟩
  ·exact h4 i r h hb'
  ·cases e;exact S.OU (hp b hb') (.inr (.inl ⟨q,hq,hb⟩))
 ·obtain⟨h0,o,ho,hd⟩:=S.frB b hb
  exact⟨h0,o,hk b o ho,hd⟩
 ·refine O4.mono S.exc λ_ _ q PQ e => ?_
  exact Pk.keep e (λo ho=>hk _ o ho) (λo ho=>hk _ o ho) λb o _ _ ho _ _=>hk b o ho
 ·exact cK S.base still λb o₀ o _ e=>hk b o e
 ·have ho':(σ.o++[O'])[i]? = Zj o:=ho
  by_cases hi:i < σ.o.length
  ·rw[Vt hi]at ho';exact S.cap i o ho'
  ·have:i=σ.o.length:=by
    have:=(TF.mp ho').1
    simp at this;exact Nat.eq_of_lt_succ_of_not_lt this hi
   subst this
   simp at ho';subst ho';exact hc
theorem SR.die{i:Nat}{p:Tc×List Tc}(S:SR B ρ fr σ s)(hi:ρ.m[i]? = Zj (Zj p)) :
  SR B { ρ with m:=ρ.m.set i Zk } fr (σ.put i .dead) s/\dR B ρ fr s { ρ with m:=ρ.m.set i Zk } s/\∀ b,mz p b->¬ aj { ρ with m:=ρ.m.set i Zk } fr b:=by
 have hlt:=(TF.mp hi).1
 have hilt:i < σ.o.length:=by(refine A' (S.len ..) ?_;try (with_reducible rfl));exact hlt
 have old:∀ (j:Nat) (e:Tc×List Tc),(ρ.m.set i Zk)[j]? = Zj (Zj e)->ρ.m[j]? = Zj (Zj e)/\j≠i:=λj e h=>by
  by_cases q:j=i
  ·subst q;rw[U7 hlt]at h;cases h
  ·rw[Us (Vd q)]at h;exact⟨h,q⟩
 have own:∀ b,aj { ρ with m:=ρ.m.set i Zk } fr b->aj ρ fr b:=by
  rintro b (⟨j,q,hq,hat⟩|h|h)
  ·exact .inl ⟨j,q,(old j q hq).1,hat⟩
  ·exact .inr (.inl h)
  ·exact .inr (.inr h)
 have goes:v_ ρ { ρ with m:=ρ.m.set i Zk }:=⟨λj e h=>by
  by_cases q:j=i
  ·subst q;exact .inr (U7 hlt)
  ·exact .inl (by show(ρ.m.set i Zk)[j]? = _;(refine b_ (Us (Vd q) ..) ?_;try (with_reducible rfl));exact h),λq h=>h⟩
 have still:Still s.heap (aj ρ fr) s.heap (aj { ρ with m:=ρ.m.set i Zk } fr):=⟨λb o e _ _=>e,λb h => .inl (own b h),λb o e => .inr ⟨o,e⟩⟩
 refine⟨⟨?_,λj q hq => ?_,λj hj => ?_,λj k q r hq hr hjk=>S.sep j k q r (old j q hq).1 (old k r hr).1 hjk,λj q hq=>S.L_ j q (old j q hq).1,λq hq=>⟨(S.I_ q hq).1,λb hb => ?_⟩,S.frB,S.exc,cK S.base still λ_ _ _ _ e=>e,S.gens,S.os,λj o ho => ?_,S.Os⟩,
  ⟨⟨goes,still,.refl _,rfl,λb _ o e=>⟨o.slots,e⟩⟩,λb _ o e=>⟨o.slots,e⟩⟩,λb hb h => ?_⟩
 ·show(ρ.m.set i Zk).length=(bb σ.o i .dead).length
  (refine b_ (aS ..) ?_;refine b_ (Wq ..) ?_;refine b_ (Wq ..) ?_;refine b_ (S.len ..) ?_;try (with_reducible rfl))
 ·obtain⟨h,hji⟩:=old j q hq;obtain⟨o,ho,r⟩:=S.obj j q h
  refine⟨o,?_,r.mono goes still (Cells.refl _).toCell1 o q (λ_ _ _ e=>e)⟩
  show(bb σ.o i .dead)[j]? = _
  (refine b_ (aS ..) ?_;refine b_ (Us (Vd hji) ..) ?_;try (with_reducible rfl));exact ho
 ·show(bb σ.o i .dead)[j]? = _
  (refine b_ (aS ..) ?_;try (with_reducible rfl))
  by_cases q:j=i
  ·subst q;exact U7 hilt
  ·(refine b_ (Us (Vd q) ..) ?_;try (with_reducible rfl))
   refine S.gone j ?_
   have hj':(ρ.m.set i Zk)[j]? = Zj Zk:=hj
   rw[Us (Vd q)]at hj';exact hj'
 ·obtain⟨h1,h2,h3,h4⟩:=(S.I_ q hq).2 b hb
  exact⟨h1,h2,h3,λj r hr=>h4 j r (old j r hr).1⟩
 ·have ho':(bb σ.o i .dead)[j]? = Zj o:=ho
  rw[aS]at ho'
  by_cases q:j=i
  ·subst q;rw[U7 hilt]at ho';cases ho';trivial
  ·rw[Us (Vd q)]at ho';exact S.cap j o ho'
 ·rcases h with ⟨j,q,hq,hat⟩|⟨q,hq,hat⟩|hf|hf
  ·obtain⟨h,hji⟩:=old j q hq;exact S.sep j i q p h hi hji b hat hb
  ·exact((S.I_ q hq).2 b hat).2.2.2 i p hi hb
  ·exact(S.L_ i p hi b hb).1 hf
  ·exact(S.L_ i p hi b hb).2.1 hf
end
end
section
open PySem PySem.W PyProof.Rows
theorem blt_iff{a b:Nat}:Vx a b=Zm ↔ a < b:=by unfold Vx;(refine b_ WW ?_);exact Iff.rfl
theorem fR{b x:Bool}(h:ac b x Zn=Zm):b=Zm/\x=Zm:=⟨(jM h).l,(jM h).r⟩
section
variable{B:Base}{ρ ρ':e_}{h:Tr}{ow y_:Tc->Prop}{n:Nat}
structure Cut (ρ ρ':e_) (h:Tr) (ow y_:Tc->Prop) (n:Nat):Prop where
 m:∀ (i:Nat) (e:Option (Tc×List Tc)),i < n->ρ.m[i]? = Zj e->ρ'.m[i]? = Zj e
 x:ρ'.x=ρ.x
 st:Still h ow h y_
mutual
theorem VR.cut(C:Cut ρ ρ' h ow y_ n):∀ (v:V) (u:SX),cM n v=Zm->VR B ρ h ow v u->VR B ρ' h y_ v u
 | .d x,u,_,r=>by unfold VR at r ⊢;exact PR.mono C.st x u r
 | .val w,u,_,r=>by unfold VR at r ⊢;exact r
 | .ref i,u,c,r=>by
  unfold VR at r ⊢;have hi:i < n:=by unfold cM at c;exact blt_iff.mp c
  rcases r with ⟨p,hp,rfl⟩|⟨hn,a,rfl⟩
  ·exact .inl ⟨p,C.m i _ hi hp,rfl⟩
  ·exact .inr ⟨C.m i _ hi hn,a,rfl⟩
 | .tup vs,u,c,r=>by
  unfold VR at r ⊢;obtain⟨a,us,k,rfl,ha,ho,hs⟩:=r
  exact⟨a,us,k,rfl,C.st.no ho ha,ho,k_.cut C vs _ c hs⟩
 | .rng k,u,_,r=>by
  unfold VR at r ⊢;obtain⟨hs,a,rfl,ha,ta,tb,tc,ho⟩:=r
  exact⟨hs,a,rfl,C.st.no ho ha,ta,tb,tc,ho⟩
 | .exc,u,_,r=>by unfold VR at r ⊢;(refine b_ C.x ?_);exact r
theorem k_.cut(C:Cut ρ ρ' h ow y_ n):∀ (vs:List V) (us:List SX),il n vs=Zm->k_ B ρ h ow vs us->k_ B ρ' h y_ vs us
 | [],us,_,r=>by unfold k_ at r ⊢;exact r
 | v::vs,us,c,r=>by
  unfold k_ at r ⊢;obtain⟨u,us,rfl,h1,h2⟩:=r;obtain⟨hc,c⟩:=fR c
  exact⟨u,us,rfl,VR.cut C v u hc h1,k_.cut C vs us c h2⟩
end
theorem bZ{k:SQ}{v:V}{r:List (SQ×V)}(c:dg n ((k,v)::r)=Zm):cM n v=Zm/\dg n r=Zm:=fR c
theorem jN{x:Tq}{v:V}{fs:List (Tq×V)}(c:pJ n fs=Zm)(h:ak fs x=Zj v):cM n v=Zm:=by
 induction fs with
 | nil=>exact nn h
 | cons p r IH=>
  obtain⟨hc,c⟩:=fR c;rw[show ak (p::r) x=@Uv (λ_=>Option V) (ak r x) (Zj p.2) (aw p.1 x)from rfl]at h
  cases hs:aw p.1 x with
  | true=>rw[hs]at h;exact Tf h▸hc
  | false=>rw[hs]at h;exact IH c h
theorem C_.cut(C:Cut ρ ρ' h ow y_ n):∀ (ds:List (SQ×V)) (l:List (Tq×SX)),dg n ds=Zm->C_ B ρ h ow ds l->C_ B ρ' h y_ ds l
 | [],_,_,r=>by unfold C_ at r ⊢;exact r
 | (k,d)::xs,_,c,r=>by
  unfold C_ at r ⊢;obtain⟨x,v,l',rfl,e,h1,h2⟩:=r
  exact⟨x,v,l',rfl,e,VR.cut C d v (bZ c).1 h1,C_.cut C xs l' (bZ c).2 h2⟩
theorem G'.cut(C:Cut ρ ρ' h ow y_ n):∀ (ds:List (SQ×V)) (l:List (Int×SX)),dg n ds=Zm->G' B ρ h ow ds l->G' B ρ' h y_ ds l
 | [],_,_,r=>by unfold G' at r ⊢;exact r
 | (k,d)::xs,_,c,r=>by
  unfold G' at r ⊢;obtain⟨x,v,l',rfl,e,h1,h2⟩:=r
  exact⟨x,v,l',rfl,e,VR.cut C d v (bZ c).1 h1,G'.cut C xs l' (bZ c).2 h2⟩
theorem N_.cut(C:Cut ρ ρ' h ow y_ n):∀ (ds:List (SQ×V)) (l:List (List Tq×Tc×SX)),(∀ x∈l,∃ o,h.get? x.2.1=Zj o)->dg n ds=Zm->N_ B ρ h ow ds l->N_ B ρ' h y_ ds l
 | [],_,_,_,r=>by unfold N_ at r ⊢;exact r
 | (k,d)::xs,_,hl,c,r=>by
  unfold N_ at r ⊢;obtain⟨x,y,a,v,l',rfl,e,ha,h1,h2⟩:=r;obtain⟨o,ho⟩:=hl _ (Uo)
  exact⟨x,y,a,v,l',rfl,e,C.st.no ho ha,VR.cut C d v (bZ c).1 h1,N_.cut C xs l' (λz hz=>hl z (T8 _ hz)) (bZ c).2 h2⟩
theorem OR.cut(C:Cut ρ ρ' h ow y_ n){o:O}{p:Tc×List Tc}(c:oI n o=Zm)(r:OR B ρ h ow o p):OR B ρ' h y_ o p:=by
 cases o with
 | a_ xs=>obtain⟨e,vs,k,ho,hs⟩:=r;exact⟨e,vs,k,ho,PRs.mono C.st xs _ hs⟩
 | p_ xs=>obtain⟨e,vs,k,ho,hs⟩:=r;exact⟨e,vs,k,ho,k_.cut C xs _ c hs⟩
 | dict kvs=>
  obtain⟨e,hm,ho,h1,h2,h3,hz⟩:=r
  exact⟨e,hm,ho,λhk=>by obtain⟨l,hl,hr⟩:=h1 hk;exact⟨l,hl,C_.cut C kvs l c hr⟩,λhk=>by obtain⟨l,hl,hr⟩:=h2 hk;exact⟨l,hl,G'.cut C kvs l c hr⟩,
   λhk=>by obtain⟨l,hl,hr⟩:=h3 hk;exact⟨l,hl,N_.cut C kvs l (de hl).2 c hr⟩,hz⟩
 | inst k fs=>
  obtain⟨dx,mA,o,e,ho,hc,hnc,hd,hne,hn,hf,hz⟩:=r
  refine⟨dx,mA,o,e,ho,hc,hnc,hd,hne,hn,λy => ?_,hz⟩
  have:=hf y
  revert this
  cases hg:ak fs y with
  | none=>exact id
  | some v=>rintro⟨rv,h1,h2,h3⟩;exact⟨rv,h1,VR.cut C v rv (jN c hg) h2,h3⟩
 | clo a b sc cap=>
  obtain⟨e,o,fd,ho,hc,hd,hcd,hm,hv⟩:=r
  refine⟨e,o,fd,ho,hc,hd,hcd.mono C.st,hm,λx v hx => ?_⟩
  obtain⟨a,oc,rv,h1,h2,hk,h3,h4⟩:=hv x v hx
  exact⟨a,oc,rv,h1,h2,hk,h3,VR.cut C v rv (jN c hx) h4⟩
 | dead=>exact r.elim
theorem rQ{k:Nat}:∀ {l:List O} {i:Nat} {o:O},eL n k l=Zm->i < k->l[i]? = Zj o->oI n o=Zm:=by
 induction k with
 | zero=>exact λ_ h _=>absurd h (W9 _)
 | succ k IH=>
  intro l i o c h e;cases l with
  | nil=>rw[List.getElem?_nil]at e;exact nn e
  | cons x r=>
   obtain⟨hc,c⟩:=fR (show ac (oI n x) (eL n k r) Zn=Zm from c)
   cases i with
   | zero=>exact Tf e▸hc
   | succ i=>exact IH c (Vz h) e
end
noncomputable def e_.cutAt(ρ:e_)(n:Nat):e_:={ ρ with m:=ρ.m.take n }
section
variable{B:Base}{ρ c_:e_}{fr:List Tc}{σ:VS}{s s₀:S9}{n:Nat}
theorem cB{i:Nat}{e:Option (Tc×List Tc)}(h:(ρ.cutAt n).m[i]? = Zj e):i < n/\ρ.m[i]? = Zj e:=by
 have h':(ρ.m.take n)[i]? = Zj e:=h
 rw[Wu]at h'
 split at h'
 ·exact⟨by assumption,h'⟩
 ·cases h'
theorem lg{i:Nat}{e:Option (Tc×List Tc)}(hi:i < n)(h:ρ.m[i]? = Zj e):(ρ.cutAt n).m[i]? = Zj e:=by
 show(ρ.m.take n)[i]? = _
 (refine b_ Wu ?_;refine b_ (if_pos hi) ?_);exact h
theorem vq{b:Tc}(h:aj (ρ.cutAt n) fr b):aj ρ fr b:=by
 rcases h with ⟨j,q,hq,hat⟩|h|h
 ·exact .inl ⟨j,q,(cB hq).2,hat⟩
 ·exact .inr (.inl h)
 ·exact .inr (.inr h)
theorem gQ(h:Tr):Cut ρ (ρ.cutAt n) h (aj ρ fr) (aj (ρ.cutAt n) fr) n:=
 ⟨λi e hi he=>lg hi he,rfl,⟨λ_ _ e _ _=>e,λb hb => .inl (vq hb),λ_ o e => .inr ⟨o,e⟩⟩⟩
theorem SR.cut(S:SR B ρ fr σ s)(hc:eL n n σ.o=Zm):SR B (ρ.cutAt n) fr ⟨Mine.cut n σ.o,σ.x,σ.cap⟩ s:=by
 refine⟨?_,λj q hq => ?_,λj hj => ?_,λj k q r hq hr hjk=>S.sep j k q r (cB hq).2 (cB hr).2 hjk,λj q hq=>S.L_ j q (cB hq).2,λq hq=>⟨(S.I_ q hq).1,λb hb => ?_⟩,S.frB,S.exc,cK S.base (gQ s.heap).st λ_ _ _ _ e=>e,S.gens,S.os,λj o ho => ?_,S.Os⟩
 ·show(ρ.m.take n).length=(Mine.cut n σ.o).length
  refine b_ (pf ..) ?_;refine b_ (Wd ..) ?_;refine b_ (Wd ..) ?_;exact b_ (S.len ..) rfl
 ·obtain⟨hj,h⟩:=cB hq;obtain⟨o,ho,r⟩:=S.obj j q h
  refine⟨o,?_,r.cut (gQ s.heap) (rQ hc hj ho)⟩
  show(Mine.cut n σ.o)[j]? = _
  (refine b_ (pf ..) ?_;refine b_ (Wu ..) ?_;refine b_ (if_pos hj ..) ?_;try (with_reducible rfl));exact ho
 ·obtain⟨hj,h⟩:=cB hj
  show(Mine.cut n σ.o)[j]? = _
  (refine b_ (pf ..) ?_;refine b_ (Wu ..) ?_;refine b_ (if_pos hj ..) ?_;try (with_reducible rfl));exact S.gone j h
 ·obtain⟨h1,h2,h3,h4⟩:=(S.I_ q hq).2 b hb
  exact⟨h1,h2,h3,λj r hr=>h4 j r (cB hr).2⟩
 ·have ho':(Mine.cut n σ.o)[j]? = Zj o:=ho
  rw[pf,Wu]at ho'
  split at ho'
  ·exact S.cap j o ho'
  ·cases ho'
theorem Step.cut(S:Step B c_ fr s₀ ρ s)(hn:c_.m.length<=n):Step B c_ fr s₀ (ρ.cutAt n) s:=
 ⟨⟨λi e h=>by
   have hi:i < n:=Ww (TF.mp h).1 hn
   rcases S.goes.m i e h with z|z
   ·exact .inl (lg hi z)
   ·exact .inr (lg hi z),S.goes.x⟩,
  ⟨S.still.keep,λb hb=>S.still.own b (vq hb),S.still.there⟩,S.cells,S.fs,S.Pl⟩
theorem dR.cut(S:dR B c_ fr s₀ ρ s)(hn:c_.m.length<=n):dR B c_ fr s₀ (ρ.cutAt n) s:=⟨S.toStep.cut hn,S.OY⟩
theorem ig{v:V}{vs:List V}{l:List SQ}(h:ff (v::vs)=Zj l):X2 λx l'=>A3 (v = .d x) (ff vs=Zj l') (l=x::l'):=by
 obtain⟨x,hx,h⟩:=aD h;obtain⟨l',hl,h⟩:=aD h
 exact⟨x,l',ca hx,hl,(Tf h).symm⟩
theorem jF{h:Tr}{ow:Tc->Prop}{vs:List V}:∀ {l:List SQ} {us:List SX},ff vs=Zj l->k_ B ρ h ow vs us->PRs B h ow l us:=by
 induction vs with
 | nil=>intro l us e r;(refine A' (Tf e) ?_);unfold k_ at r;unfold PRs;exact r
 | cons v vs IH=>
  intro l us e r;obtain⟨x,l',ev,hl,rfl⟩:=ig e;rw[ev]at r;unfold k_ at r;obtain⟨u,us,eu,h1,h2⟩:=r;unfold VR at h1;unfold PRs
  exact⟨u,us,eu,h1,IH hl h2⟩
theorem nK{vs:List V}:∀ {l:List SQ},ff vs=Zj l->l.length=vs.length:=by
 induction vs with
 | nil=>intro l e;(refine A' (Tf e) ?_);rfl
 | cons v vs IH=>
  intro l e;obtain⟨x,l',_,hl,rfl⟩:=ig e;exact congrArg Ul (IH hl)
theorem j0{k:Nat}{vs:List V}:∀ {l:List SQ},ff vs=Zj l->il k vs=Zm:=by
 induction vs with
 | nil=>exact λ_=>rfl
 | cons v vs IH=>
  intro l e;obtain⟨x,l',ev,hl,_⟩:=ig e;refine b_ ev ?_
  exact IH hl
theorem qI{h:Tr}{ow:Tc->Prop}{vs:List V}{u:SX}(r:VR B ρ h ow (.tup vs) u):VR B ρ h ow (gS vs) u:=by
 unfold gS;cases hp:ff vs with
 | none=>exact r
 | some l=>
  unfold VR at r;obtain⟨a,us,n,e,ha,ho,hs⟩:=r
  show VR B ρ h ow (.d (.tuple l)) u
  unfold VR PR
  exact⟨a,us,n,e,ha,ho,jF hp hs⟩
theorem n8{h:Tr}{ow:Tc->Prop}{vs:List V}{p:Tc×List Tc}(r:OR B ρ h ow (.p_ vs) p):OR B ρ h ow (ij vs) p:=by
 unfold ij;cases hp:ff vs with
 | none=>exact r
 | some l=>obtain⟨e,us,n,ho,hs⟩:=r;exact PG.mk e us n ho (jF hp hs)
theorem kR{vs:List V}{k:Nat}(r:dL k (.p_ vs)):dL k (ij vs):=by
 unfold ij;cases hp:ff vs with
 | none=>exact r
 | some l=>show l.length+k<=_;(refine b_ (nK hp) ?_);exact r
theorem bq{h:Tr}{ow:Tc->Prop}{l:List SQ}:∀ {us:List SX},PRs B h ow l us->us.length=l.length:=by
 induction l with
 | nil=>intro us r;unfold PRs at r;(refine b_ r ?_);rfl
 | cons x l IH=>
  intro us r;unfold PRs at r;obtain⟨u,us,rfl,_,h⟩:=r;exact congrArg Ul (IH h)
theorem cn{h:Tr}{ow:Tc->Prop}{l:List V}:∀ {us:List SX},k_ B ρ h ow l us->us.length=l.length:=by
 induction l with
 | nil=>intro us r;unfold k_ at r;(refine b_ r ?_);rfl
 | cons x l IH=>
  intro us r;unfold k_ at r;obtain⟨u,us,rfl,_,h⟩:=r;exact congrArg Ul (IH h)
theorem sg{vs:List V}(h:cM n (gS vs)=Zm):il n vs=Zm:=by
 unfold gS at h;cases hp:ff vs with
 | none=>rw[hp]at h;exact h
 | some l=>exact j0 hp
theorem dj{k:SQ}{v:V}{r:List (SQ×V)}{l:List (SQ×SQ)}(h:fV ((k,v)::r)=Zj l):X2 λx l'=>A3 (v = .d x) (fV r=Zj l') (l=(k,x)::l'):=by
 obtain⟨x,hx,h⟩:=aD h;obtain⟨l',hl,h⟩:=aD h
 exact⟨x,l',ca hx,hl,(Tf h).symm⟩
theorem j6{f:SQ->Bool}{kvs:List (SQ×V)}:∀ {l:List (SQ×SQ)},fV kvs=Zj l->be f l=be f kvs:=by
 induction kvs with
 | nil=>intro l e;(refine A' (Tf e) ?_);rfl
 | cons p r IH=>
  intro l e;obtain⟨x,l',_,hl,rfl⟩:=dj e;refine b_ (show be f (p::r)=@Uv (λ_=>Bool) Zn (be f r) (f p.1)from rfl) ?_;refine A' (IH hl) ?_
  rfl
theorem ue{kvs:List (SQ×V)}:∀ {l:List (SQ×SQ)},fV kvs=Zj l->l.length=kvs.length:=by
 induction kvs with
 | nil=>intro l e;(refine A' (Tf e) ?_);rfl
 | cons p r IH=>
  intro l e;obtain⟨x,l',_,hl,rfl⟩:=dj e;exact congrArg Ul (IH hl)
theorem oP{k:Nat}{kvs:List (SQ×V)}:∀ {l:List (SQ×SQ)},fV kvs=Zj l->dg k kvs=Zm:=by
 induction kvs with
 | nil=>exact λ_=>rfl
 | cons p r IH=>
  intro l e;obtain⟨x,l',ev,hl,_⟩:=dj e
  show ac (cM k p.2) (dg k r) Zn=Zm
  refine b_ ev ?_
  exact IH hl
theorem uk{h:Tr}{ow:Tc->Prop}{kvs:List (SQ×V)}:∀ {l:List (SQ×SQ)} {us:List (Tq×SX)},fV kvs=Zj l->C_ B ρ h ow kvs us->OE B h ow l us:=by
 induction kvs with
 | nil=>intro l us e r;(refine A' (Tf e) ?_);unfold C_ at r;unfold OE;exact r
 | cons p q IH=>
  intro l us e r;obtain⟨x,l',ev,hl,rfl⟩:=dj e;unfold C_ at r;obtain⟨k,u,us',eu,ek,h1,h2⟩:=r;rw[ev]at h1;unfold VR at h1;unfold OE
  exact⟨k,u,us',eu,ek,h1,IH hl h2⟩
theorem uG{h:Tr}{ow:Tc->Prop}{kvs:List (SQ×V)}:∀ {l:List (SQ×SQ)} {us:List (Int×SX)},fV kvs=Zj l->G' B ρ h ow kvs us->OF B h ow l us:=by
 induction kvs with
 | nil=>intro l us e r;(refine A' (Tf e) ?_);unfold G' at r;unfold OF;exact r
 | cons p q IH=>
  intro l us e r;obtain⟨x,l',ev,hl,rfl⟩:=dj e;unfold G' at r;obtain⟨k,u,us',eu,ek,h1,h2⟩:=r;rw[ev]at h1;unfold VR at h1;unfold OF
  exact⟨k,u,us',eu,ek,h1,IH hl h2⟩
theorem Av(S:SR B ρ fr σ s){i:Nat}{p:Tc×List Tc}(hi:n<=i)(hp:ρ.m[i]? = Zj (Zj p)){b:Tc}(hb:mz p b):¬ aj (ρ.cutAt n) fr b:=by
 rintro(⟨j,q,hq,hat⟩|⟨q,hq,hat⟩|hf|hf)
 ·obtain⟨hj,h⟩:=cB hq;exact S.sep j i q p h hp (by lia) b hat hb
 ·exact((S.I_ q hq).2 b hat).2.2.2 i p hp hb
 ·exact(S.L_ i p hp b hb).1 hf
 ·exact(S.L_ i p hp b hb).2.1 hf
structure Fz (B:Base) (ρ:e_) (fr:List Tc) (h:Tr) (n:Nat) (f:V->V):Prop where
 one:∀ v u,VR B ρ h (aj ρ fr) v u->cM n (f v)=Zm->VR B (ρ.cutAt n) h (aj (ρ.cutAt n) fr) (f v) u
section
variable{f:V->V}
theorem Fz.vs(Z:Fz B ρ fr s.heap n f)(vs:List V):∀ {us:List SX},k_ B ρ s.heap (aj ρ fr) vs us->il n (qj f vs)=Zm->k_ B (ρ.cutAt n) s.heap (aj (ρ.cutAt n) fr) (qj f vs) us:=by
 induction vs with
 | nil=>intro us r _;unfold k_ at r;show k_ _ _ _ _ [] us;unfold k_;exact r
 | cons v vs IH=>
  intro us r c;obtain⟨c1,c2⟩:=fR c;unfold k_ at r;obtain⟨u,us',e,h1,h2⟩:=r
  show k_ _ _ _ _ (f v::qj f vs) us
  unfold k_
  exact⟨u,us',e,Z.one v u h1 c1,IH h2 c2⟩
theorem Fz.dS(Z:Fz B ρ fr s.heap n f)(kvs:List (SQ×V)):∀ {l:List (Tq×SX)},C_ B ρ s.heap (aj ρ fr) kvs l->dg n (g7 f kvs)=Zm->C_ B (ρ.cutAt n) s.heap (aj (ρ.cutAt n) fr) (g7 f kvs) l:=by
 induction kvs with
 | nil=>intro us r _;unfold C_ at r;show C_ _ _ _ _ [] us;unfold C_;exact r
 | cons p q IH=>
  intro us r c;obtain⟨c1,c2⟩:=fR c;unfold C_ at r;obtain⟨k,u,us',e,ek,h1,h2⟩:=r
  show C_ _ _ _ _ ((p.1,f p.2)::g7 f q) us
  unfold C_
  exact⟨k,u,us',e,ek,Z.one p.2 u h1 c1,IH h2 c2⟩
theorem Fz.dI(Z:Fz B ρ fr s.heap n f)(kvs:List (SQ×V)):∀ {l:List (Int×SX)},G' B ρ s.heap (aj ρ fr) kvs l->dg n (g7 f kvs)=Zm->G' B (ρ.cutAt n) s.heap (aj (ρ.cutAt n) fr) (g7 f kvs) l:=by
 induction kvs with
 | nil=>intro us r _;unfold G' at r;show G' _ _ _ _ [] us;unfold G';exact r
 | cons p q IH=>
  intro us r c;obtain⟨c1,c2⟩:=fR c;unfold G' at r;obtain⟨k,u,us',e,ek,h1,h2⟩:=r
  show G' _ _ _ _ ((p.1,f p.2)::g7 f q) us
  unfold G'
  exact⟨k,u,us',e,ek,Z.one p.2 u h1 c1,IH h2 c2⟩
theorem kW(g:SQ->Bool)(kvs:List (SQ×V)):be g (g7 f kvs)=be g kvs:=by
 induction kvs with
 | nil=>rfl
 | cons p q IH=>
  refine b_ (show be g (p::q)=@Uv (λ_=>Bool) Zn (be g q) (g p.1)from rfl) ?_;refine A' IH ?_
  rfl
theorem xF(kvs:List (SQ×V)):(g7 f kvs).length=kvs.length:=by
 induction kvs with
 | nil=>rfl
 | cons p q IH=>exact congrArg Ul IH
theorem AT(vs:List V):(qj f vs).length=vs.length:=by
 induction vs with
 | nil=>rfl
 | cons p q IH=>exact congrArg Ul IH
theorem Dq(Z:Fz B ρ fr s.heap n f)(S:SR B ρ fr σ s){i:Nat}(hni:n<=i){o:O}(hg:σ.get i=Zj o){x:SQ}(hx:tn f o=Zj x){u:SX}(r:VR B ρ s.heap (aj ρ fr) (.ref i) u):PR B s.heap (aj (ρ.cutAt n) fr) x u:=by
 obtain⟨p,hp,ro⟩:=S.at hg (λz=>by rw[z]at hx;exact nn hx)
 have hu:u = .ref p.1:=aH hp r
 have hf:=Av S hni hp (.inl rfl)
 have hcap:dL σ.cap o:=S.cap i _ (by unfold VS.get at hg;rw[bI]at hg;exact hg)
 cases o with
 | a_ xs=>
  obtain⟨e,vs,m,ho,hs⟩:=ro;have h:xs.length+σ.cap<=2 ^ 20:=hcap
  refine A' (Tf hx) ?_
  unfold PR
  exact⟨p.1,vs,m,hu,hf,ho,PRs.mono (gQ (ρ:=ρ) (fr:=fr) (n:=n) s.heap :).st xs _ hs,Te (TX _ _) h⟩
 | p_ ws=>
  obtain⟨l,hq,hx⟩:=aD (show ag (ff (qj f ws)) Zk (λl=>Zj (.list l))=Zj x from hx)
  obtain⟨e,vs,m,ho,hs⟩:=ro;refine A' (Tf hx) ?_
  unfold PR
  exact⟨p.1,vs,m,hu,hf,ho,jF hq (Z.vs ws hs (j0 hq)),by(refine b_ (nK hq ..) ?_;refine b_ (AT ..) ?_);exact Te (TX _ _) (hcap:ws.length+σ.cap<=2 ^ 20)⟩
 | dict kvs=>
  obtain⟨l,hq,hx⟩:=aD (show ag (fV (g7 f kvs)) Zk (λl=>Zj (.dict l))=Zj x from hx)
  obtain⟨e,hm,ho,h1,h2,h3,hz⟩:=ro;have hcl:=oP (k:=n) hq
  refine A' (Tf hx) ?_
  unfold PR
  refine⟨p.1,hu,hf,⟨hm,ho⟩,λhk => ?_,λhk => ?_,by(refine b_ (ue hq ..) ?_;refine b_ (xF ..) ?_);exact hz⟩
  ·rw[j6 hq,kW]at hk;obtain⟨l',hl,hr⟩:=h1 hk
   exact⟨l',hl,uk hq (Z.dS kvs hr hcl)⟩
  ·rw[j6 hq,kW]at hk;obtain⟨l',hl,hr⟩:=h2 hk
   exact⟨l',hl,uG hq (Z.dI kvs hr hcl)⟩
 | _=>exact nn hx
theorem Dr(Z:Fz B ρ fr s.heap n f)(S:SR B ρ fr σ s):Fz B ρ fr s.heap n (Km σ n f):=⟨λv u r c=>by
 have C:=gQ (ρ:=ρ) (fr:=fr) (n:=n) s.heap
 cases v with
 | ref i=>
  have c:cM n (ac (U9 n i) (ag (ag (σ.get i) Zk (tn f)) (.ref i) .d) (.ref i))=Zm:=c
  show VR _ _ _ _ (ac (U9 n i) (ag (ag (σ.get i) Zk (tn f)) (.ref i) .d) (.ref i)) u
  cases hb:U9 n i with
  | false=>rw[hb]at c;exact r.cut C _ _ c
  | true=>
   rw[hb]at c;have hni:n<=i:=WW.mp hb
   show VR _ _ _ _ (ag (ag (σ.get i) Zk (tn f)) (.ref i) .d) u
   have c:cM n (ag (ag (σ.get i) Zk (tn f)) (.ref i) .d)=Zm:=c
   cases hx:ag (σ.get i) Zk (tn f) with
   | none=>
    rw[hx]at c;exact absurd (blt_iff.mp (show Vx i n=Zm from c)) (Nat.not_lt_of_le hni)
   | some x=>
    obtain⟨o,hg,hx⟩:=aD hx
    show VR _ _ _ _ (.d x) u
    unfold VR;exact Dq Z S hni hg hx r
 | tup vs=>
  show VR _ _ _ _ (gS (qj f vs)) u
  refine qI ?_
  unfold VR at r ⊢;obtain⟨a,us,m,e,ha,ho,hs⟩:=r
  exact⟨a,us,m,e,C.st.no ho ha,ho,Z.vs vs hs (sg c)⟩
 | _=>exact r.cut C _ _ c⟩
theorem Id(S:SR B ρ fr σ s)(k:Nat):Fz B ρ fr s.heap n (Ll σ n k):=by
 induction k with
 | zero=>exact⟨λv u r c=>r.cut (gQ s.heap) _ _ c⟩
 | succ k IH=>exact Dr IH S
end
theorem mx(S:SR B ρ fr σ s)(T:dR B c_ fr s₀ ρ s)(hn:c_.m.length=n){v:V}{u:SX}(r:VR B ρ s.heap (aj ρ fr) v u) :
  X3 λv' σ' ρ'=>A5 (cz n v σ = .ok v' σ') (SR B ρ' fr σ' s) (dR B c_ fr s₀ ρ' s) (ρ'.x=ρ.x) (VR B ρ' s.heap (aj ρ' fr) v' u):=by
 have g:X3 λv' σ' ρ'=>A5 (R.ok v σ = .ok v' σ') (SR B ρ' fr σ' s) (dR B c_ fr s₀ ρ' s) (ρ'.x=ρ.x) (VR B ρ' s.heap (aj ρ' fr) v' u):=⟨v,σ,ρ,rfl,S,T,rfl,r⟩
 unfold cz;cases Ue (len σ.o) n with
 | true=>exact g
 | false=>
  cases h1:eL n n σ.o with
  | false=>exact g
  | true=>
   cases h2:cM n (Ll σ n 40 v) with
   | false=>exact g
   | true=>exact⟨_,_,ρ.cutAt n,rfl,S.cut h1,T.cut (VN hn),rfl,(Id S 40).one v u r h2⟩
end
end
section
open PySem PySem.W PyProof.Rows
section
variable{B:Base}{ρ c_:e_}{fr:List Tc}{σ:VS}{s s₀ s':S9}{n:Nat}{env:WD}{sc:Tz}{le le':LE}
theorem SR.Pn(S:SR B ρ fr σ s)(fs' fr':List Tc)(hk:∀ b o,s.heap.get? b=Zj o->s'.heap.get? b=Zj o)(hg:s'.gens=s.gens)(hos:s'.os=s.os)
  (hnew:∀ b,b∈fr'\/b∈fs'->(b∈fr\/b∈ρ.fs)\/(s.heap.get? b=Zk/\∃ o,s'.heap.get? b=Zj o/\∀ vs,o.data ≠ .fields vs)) :
  SR B { ρ with fs:=fs' } fr' σ s'/\Still s.heap (aj ρ fr) s'.heap (aj { ρ with fs:=fs' } fr'):=by
 have own:∀ b,aj { ρ with fs:=fs' } fr' b->aj ρ fr b\/s.heap.get? b=Zk:=by
  rintro b (h|h|h|h)
  ·exact .inl (.inl h)
  ·exact .inl (.inr (.inl h))
  ·rcases hnew b (.inl h)with h|h
   ·exact .inl (.inr (.inr h))
   ·exact .inr h.1
  ·rcases hnew b (.inr h)with h|h
   ·exact .inl (.inr (.inr h))
   ·exact .inr h.1
 have still:Still s.heap (aj ρ fr) s'.heap (aj { ρ with fs:=fs' } fr'):=⟨λb o e _ _=>hk b o e,own,λb o e => .inr ⟨o,hk b o e⟩⟩
 have nin:∀ b,aj ρ fr b->(b∉fr/\b∉ρ.fs)->b∉fr'/\b∉fs':=λb hb hn=>by
  obtain⟨x,hx⟩:=S.there hb
  constructor<;>intro h
  ·rcases hnew b (.inl h)with z|⟨z,_⟩
   ·exact z.elim hn.1 hn.2
   ·rw[hx]at z;cases z
  ·rcases hnew b (.inr h)with z|⟨z,_⟩
   ·exact z.elim hn.1 hn.2
   ·rw[hx]at z;cases z
 refine⟨⟨S.len,λi p hp => ?_,S.gone,S.sep,λi p hp b hb => ?_,λq hq=>⟨(S.I_ q hq).1,λb hb => ?_⟩,λb hb => ?_,?_,cK S.base still λb o₀ o _ e=>hk b o e,hg.trans S.gens,hos.trans S.os,S.cap,S.Os⟩,still⟩
 ·obtain⟨o,ho,r⟩:=S.obj i p hp
  exact⟨o,ho,OR.mono (ρ:=ρ) (ρ':={ ρ with fs:=fs' }) ⟨λ_ _ h => .inl h,λ_ h=>h⟩ still ⟨λb o v e _ _=>⟨o,hk b o e,rfl,rfl⟩⟩ o p (λb x _ e=>hk b x e) r⟩
 ·obtain⟨h1,h2,h3⟩:=S.L_ i p hp b hb;obtain⟨h4,h5⟩:=nin b (.inl ⟨i,p,hp,hb⟩) ⟨h1,h2⟩
  exact⟨h4,h5,h3⟩
 ·obtain⟨h1,h2,h3,h4⟩:=(S.I_ q hq).2 b hb;obtain⟨h5,h6⟩:=nin b (.inr (.inl ⟨q,hq,hb⟩)) ⟨h1,h2⟩
  exact⟨h5,h6,h3,h4⟩
 ·rcases hnew b hb with z|⟨z,o,ho,hd⟩
  ·obtain⟨h0,o,ho,hd⟩:=S.frB b z
   exact⟨h0,o,hk b o ho,hd⟩
  ·exact⟨S.fresh0 z,o,ho,hd⟩
 ·refine O4.mono S.exc λ_ _ q PQ e => ?_
  exact Pk.keep e (λo ho=>hk _ o ho) (λo ho=>hk _ o ho) λb o _ _ ho _ _=>hk b o ho
theorem SR.frm(W:Tc->Prop)(S:SR B ρ fr σ s)(hk:∀ b o,¬ W b->s.heap.get? b=Zj o->s'.heap.get? b=Zj o)(hW:∀ b,W b->b∈fr)
  (Q2:∀ b o,W b->s.heap.get? b=Zj o->∀ v,o.data ≠ .cell (Zj v)) (hth:∀ b,W b->∃ o',s'.heap.get? b=Zj o'/\∀ vs,o'.data ≠ .fields vs)
  (hg:s'.gens=s.gens) (hos:s'.os=s.os) (hfs:∀ b,W b->b∉ρ.fs):SR B ρ fr σ s'/\Step B ρ fr s ρ s':=by
 have hown:∀ b,W b->aj ρ fr b:=λb hw => .inr (.inr (.inl (hW b hw)))
 have still:Still s.heap (aj ρ fr) s'.heap (aj ρ fr):=⟨λb o e n _=>hk b o (λw=>n (hown b w)) e,λb h => .inl h,λb o e=>by
  by_cases hw:W b
  ·exact .inr (by obtain⟨o',h,_⟩:=hth b hw;exact⟨o',h⟩)
  ·exact .inr ⟨o,hk b o hw e⟩⟩
 have cells:Cells s.heap s'.heap:=⟨⟨λb o v e c d=>⟨o,hk b o (λw=>Q2 b o w e _ d) e,rfl,rfl⟩⟩,λb o ts e c d=>hk b o (λw=>by
  obtain⟨_,o',ho',hd'⟩:=S.frB b (.inl (hW b w));rw[e]at ho';cases ho';exact hd' _ d) e⟩
 have nof:∀ b o vs,s.heap.get? b=Zj o->o.data = .fields vs->¬ W b:=λb o vs e d w=>by
  obtain⟨_,o',ho',hd'⟩:=S.frB b (.inl (hW b w));rw[e]at ho';cases ho';exact hd' _ d
 refine⟨⟨S.len,λi p hp => ?_,S.gone,S.sep,S.L_,S.I_,λb hb => ?_,?_,cK S.base still λb o₀ o e0 e=>hk b o (λw=>by rw[S.Qe (hown b w)]at e0;cases e0) e,hg.trans S.gens,hos.trans S.os,S.cap,S.Os⟩,
  ⟨.refl _,still,cells,rfl,λb hb o e=>⟨o.slots,hk b o (λw=>hfs b w hb) e⟩⟩⟩
 ·obtain⟨o,ho,r⟩:=S.obj i p hp
  exact⟨o,ho,r.mono (.refl _) still cells.toCell1 o p (λb x hb e=>hk b x (λw=>(S.L_ i p hp b hb).1 (hW b w)) e)⟩
 ·obtain⟨h0,o,ho,hd⟩:=S.frB b hb
  by_cases hw:W b
  ·exact⟨h0,hth b hw⟩
  ·exact⟨h0,o,hk b o hw ho,hd⟩
 ·refine O4.mono S.exc λ_ _ q PQ e => ?_
  have nW:∀ b,(b=q.1\/b=q.2)->¬ W b:=λb hb w=>((S.I_ q PQ).2 b hb).1 (hW b w)
  exact Pk.keep e (λo ho=>hk _ o (nW _ (.inl rfl)) ho) (λo ho=>hk _ o (nW _ (.inr rfl)) ho) λb o ts _ ho _ hd=>hk b o (nof b o ts ho hd) ho
theorem kG(p:Tq×V)(r:LE)(x:Tq):ak (p::r) x=ac (aw p.1 x) (Zj p.2) (ak r x):=rfl
structure Kept (ns:List (Tq×Tp)) (n:Nat) (le le':LE):Prop where
 has:∀ x v,ak le' x=Zj v->ak le x=Zj v/\cM n v=Zm
 no:∀ x,ak le' x=Zk->ak le x=Zk\/ah ns x=Zj .local
theorem Kept.both{ns:List (Tq×Tp)}{p:Tq×V}{r l:LE}(K:Kept ns n r l)(hc:cM n p.2=Zm):Kept ns n (p::r) (p::l) where
 has x v h:=by
  rw[kG]at h ⊢;cases hs:aw p.1 x with
  | true=>rw[hs]at h;exact⟨h,Tf h▸hc⟩
  | false=>rw[hs]at h;exact K.has x v h
 no x h:=by
  rw[kG]at h ⊢;cases hs:aw p.1 x with
  | true=>rw[hs]at h;exact nn h.symm
  | false=>rw[hs]at h;exact K.no x h
theorem Kept.drop{ns:List (Tq×Tp)}{p:Tq×V}{r l:LE}(K:Kept ns n r l)(hk:ah ns p.1=Zj .local)(hg:ak r p.1=Zk):Kept ns n (p::r) l where
 has x v h:=by
  obtain⟨h1,h2⟩:=K.has x v h
  refine⟨?_,h2⟩
  refine b_ (kG ..) ?_
  cases hs:aw p.1 x with
  | true=>rw[g_.mp hs,h1]at hg;exact nn hg.symm
  | false=>exact h1
 no x h:=by
  refine b_ (kG ..) ?_
  cases hs:aw p.1 x with
  | true=>(refine A' (g_.mp hs ..) ?_);exact .inr hk
  | false=>exact K.no x h
theorem sC{ns:List (Tq×Tp)}{le:LE}:∀ {le':LE},oy ns n le=Zj le'->Kept ns n le le':=by
 induction le with
 | nil=>intro le' h;(refine A' (Tf h) ?_);exact⟨λx v h=>nn h,λx _ => .inl rfl⟩
 | cons p r IH=>
  intro le' h;obtain⟨l,hl,h⟩:=aD h;have K:=IH hl
  have h:ac (cM n p.2) (Zj (p::l)) (ac (mL (ah ns p.1)) (ag (ak r p.1) (Zj l) λ_=>Zk) Zk)=Zj le':=h
  cases hc:cM n p.2 with
  | true=>rw[hc]at h;exact Tf h▸K.both hc
  | false=>
   rw[hc]at h;obtain⟨hk,h⟩:=cQ h;cases hg:ak r p.1 with
   | some _=>rw[hg]at h;exact nn h
   | none=>rw[hg]at h;exact Tf h▸K.drop (gO hk) hg
theorem Fm.cut(F:Fm B env sc le ρ fr s.heap)(hk:oy sc.names n le=Zj le'):Fm B env sc le' (ρ.cutAt n) fr s.heap:=by
 have C:=gQ (ρ:=ρ) (fr:=fr) (n:=n) s.heap
 obtain⟨k1,k2⟩:=sC hk
 refine⟨F.kind,F.globals,F.builtins,F.kinds,F.loc,?_,λx v hx hkd => ?_,λx hx hkd => ?_,F.apart,F.code⟩
 ·obtain⟨m,hn,hm⟩:=F.ns
  refine⟨m,hn,λx v hx hkd => ?_⟩
  obtain⟨h1,h2⟩:=k1 x v hx;obtain⟨u,hu,hv⟩:=hm x v h1 hkd
  exact⟨u,hu,hv.cut C _ _ h2⟩
 ·obtain⟨h1,h2⟩:=k1 x v hx;obtain⟨c,o,u,hc,ho,hcl,hd,hv⟩:=F.cells x v h1 hkd
  exact⟨c,o,u,hc,ho,hcl,hd,hv.cut C _ _ h2⟩
 ·rcases k2 x hx with h|h
  ·exact F.empty x h hkd
  ·rw[hkd]at h;cases h
theorem wP(S:SR B ρ fr σ s)(F:Fm B env sc le ρ fr s.heap)(T:Step B c_ fr s₀ ρ s)(hn:c_.m.length=n) :
  ∃ ρ',A4 (SR B ρ' fr (fE sc.names n le σ).2 s) (Fm B env sc (fE sc.names n le σ).1 ρ' fr s.heap) (Step B c_ fr s₀ ρ' s) (ρ'.x=ρ.x):=by
 have g:∃ ρ',A4 (SR B ρ' fr σ s) (Fm B env sc le ρ' fr s.heap) (Step B c_ fr s₀ ρ' s) (ρ'.x=ρ.x):=⟨ρ,S,F,T,rfl⟩
 unfold fE;cases Ue (len σ.o) n with
 | true=>exact g
 | false=>
  cases h1:eL n n σ.o with
  | false=>exact g
  | true=>
   cases h2:oy sc.names n le with
   | none=>exact g
   | some l=>exact⟨ρ.cutAt n,S.cut h1,F.cut h2,T.cut (VN hn),rfl⟩
theorem Fm.plain(F:Fm B env sc le ρ fr s.heap):(env.scope.kind == .class || (env.scope.kind == .module&&env.locals != env.globals))=Zn:=by(refine b_ F.kind ?_);rfl
variable{M:Ze}{A:TV}{E:SX->S9->Prop}
theorem dM{x y:Tq}{v w:V}(h:ak (aR le x v) y=Zj w):(y=x/\w=v)\/(y≠x/\ak le y=Zj w):=by
 rw[dU]at h
 by_cases e:y=x
 ·rw[if_pos e]at h;cases h;exact .inl ⟨e,rfl⟩
 ·rw[if_neg e]at h;exact .inr ⟨e,h⟩
theorem iB{x y:Tq}{v:V}(h:ak (aR le x v) y=Zk):y≠x/\ak le y=Zk:=by
 rw[dU]at h
 by_cases e:y=x
 ·rw[if_pos e]at h;cases h
 ·rw[if_neg e]at h;exact⟨e,h⟩
theorem Fm.kindOf(F:Fm B env sc le ρ fr s.heap){x:Tq}{k:Tp}(h:ah sc.names x=Zj k)(hk:k ≠ .free):env.kindOf x=Zj k:=(F.kinds x k h).resolve_right λh=>hk h.1
theorem dJ(S:SR B ρ fr σ s)(F:Fm B env sc le ρ fr s.heap){x:Tq}{v:V}{u:SX}(hkd:ah sc.names x=Zj .local)(r:VR B ρ s.heap (aj ρ fr) v u)(hfs:env.locals∉ρ.fs){Q:Unit->S9->Prop}
  (k:∀ s',SR B ρ fr σ s'->Step B ρ fr s ρ s'->Fm B env sc (aR le x v) ρ fr s'.heap->(∀ b o,b≠env.locals->s.heap.get? b=Zj o->s'.heap.get? b=Zj o)->Q () s'):wpAny M A (storeName env x u) Q E s:=by
 obtain⟨m,hn,hm⟩:=F.ns;refine wpAny_storeName_local (F.kindOf hkd (λz=>nomatch z)) hn (λh' hn' hs' => ?_) F.plain
 obtain⟨oL,es,ep,hoL,hdL,_⟩:=id hn;obtain⟨oL',es',ep',QA,QB,_⟩:=id hn';obtain⟨S',T⟩:=S.frm (s':={ s with heap:=h',toks:=s.toks+1 }) (λb=>b=env.locals) (λb o hb e=>(hs'.2 b hb).trans e) (λb hb=>hb▸F.loc) (λb o hb e v=>by subst hb;rw[hoL]at e;cases e;rw[hdL];exact λh=>nomatch h)
  (λb hb=>⟨oL',hb▸QA,λvs=>by rw[QB];exact λh=>nomatch h⟩) rfl rfl (λb hb=>hb▸hfs)
 refine k _ S' T ⟨F.kind,F.globals,F.builtins,F.kinds,F.loc,⟨_,hn',λy w hy hky => ?_⟩,λy w hy hky => ?_,λy hy hky => ?_,F.apart,F.code⟩ (λb o hb e=>(hs'.2 b hb).trans e)
 ·rcases dM hy with ⟨rfl,rfl⟩|⟨e,hy⟩
  ·exact⟨u,if_pos rfl,r.mono T.goes T.still⟩
  ·obtain⟨u',hu',hv'⟩:=hm y w hy hky
   exact⟨u',(if_neg e).trans hu',hv'.mono T.goes T.still⟩
 ·rcases dM hy with ⟨rfl,rfl⟩|⟨_,hy⟩
  ·rw[hkd]at hky;exact hky.elim (λh=>nomatch h) λh=>nomatch h
  ·obtain⟨c,o,u',hc,ho,hcl,hd,hv⟩:=F.cells y w hy hky;obtain⟨o2,e2,k2,d2⟩:=T.cells.cells _ _ _ ho hcl hd
   exact⟨c,o2,u',hc,e2,k2.trans hcl,d2.trans hd,hv.mono T.goes T.still⟩
 ·obtain⟨c,o,hc,ho,hcl,hd,hf,hne⟩:=F.empty y (iB hy).2 hky
  exact⟨c,o,hc,(hs'.2 c hne).trans ho,hcl,hd,hf,hne⟩
theorem gv(S:SR B ρ fr σ s)(F:Fm B env sc le ρ fr s.heap){x:Tq}{v:V}{u:SX}(hkd:ah sc.names x=Zj .local)(r:VR B ρ s.heap (aj ρ fr) v u)(hfs:env.locals∉ρ.fs){Q:Unit->S9->Prop}
  (k:∀ s',SR B ρ fr σ s'->Step B ρ fr s ρ s'->Fm B env sc (aR le x v) ρ fr s'.heap->Q () s'):wpAny M A (storeName env x u) Q E s:=
 dJ S F hkd r hfs λs' a b c _=>k s' a b c
theorem tF{x:Tq}{c:Tc}{o:V3}{v₀:Option SX}{u:SX}(hk:env.scope.kind = .function)(hl:env.kindOf x=Zj .cell)(hc:env.cells.lookup x=Zj c)(ho:s.heap.get? c=Zj o)(hd:o.data = .cell v₀){Q:Unit->S9->Prop}
  (h:∀ h':Tr,h'.get? c=Zj { o with data := .cell (Zj u) }->(∀ b,b≠c->h'.get? b=s.heap.get? b)->Q () { s with heap:=h' }):wpAny M A (storeName env x u) Q E s:=by
 unfold storeName;rw[hk,hl];refine S8 (wpAny_cellOf hc ?_)
 unfold cellSet;refine S8 (Yo ho ?_)
 rw[hd];exact wpAny_update ho (h _ (Va (λo=>{ o with data := .cell (Zj u) }) ho rfl) λb hb=>Vf _ _ (Vd hb))
theorem tJ(S:SR B ρ fr σ s)(F:Fm B env sc le ρ fr s.heap){x:Tq}{v:V}{u:SX}(hkd:ah sc.names x=Zj .cell)(hno:ak le x=Zk)(r:VR B ρ s.heap (aj ρ fr) v u)(hfs:∀ b∈fr,b∉ρ.fs){Q:Unit->S9->Prop}
  (k:∀ s',SR B ρ fr σ s'->Step B ρ fr s ρ s'->Fm B env sc (aR le x v) ρ fr s'.heap->Q () s'):wpAny M A (storeName env x u) Q E s:=by
 obtain⟨c,o,hc,ho,hcl,hd,hf,hne⟩:=F.empty x hno hkd;refine tF F.kind (F.kindOf hkd λz=>nomatch z) hc ho hd λh' hself hoth => ?_
 obtain⟨S',T⟩:=S.frm (s':={ s with heap:=h' }) (λb=>b=c) (λb o hb e=>(hoth b hb).trans e) (λb hb=>hb▸hf)
  (λb o' hb e v h=>by subst hb;rw[ho]at e;cases e;rw[hd]at h;cases h) (λb hb=>⟨_,hb▸hself,λvs h=>by cases h⟩) rfl rfl (λb hb=>hb▸hfs c hf)
 refine k _ S' T ⟨F.kind,F.globals,F.builtins,F.kinds,F.loc,?_,λy w hy hky => ?_,λy hy hky => ?_,F.apart,F.code⟩
 ·obtain⟨m,⟨oL,es,ep,hoL,rL⟩,hm⟩:=F.ns
  refine⟨m,⟨oL,es,ep,(hoth _ (Vd hne)).trans hoL,rL⟩,λy w hy hky => ?_⟩
  rcases dM hy with ⟨rfl,rfl⟩|⟨_,hy⟩
  ·rw[hkd]at hky;cases hky
  ·obtain⟨u',hu',hv'⟩:=hm y w hy hky
   exact⟨u',hu',hv'.mono T.goes T.still⟩
 ·rcases dM hy with ⟨rfl,rfl⟩|⟨_,hy⟩
  ·exact⟨c,_,u,hc,hself,hcl,rfl,r.mono T.goes T.still⟩
  ·obtain⟨c',o',u',hc',ho',hcl',hd',hv'⟩:=F.cells y w hy hky;obtain⟨o2,e2,k2,d2⟩:=T.cells.cells _ _ _ ho' hcl' hd'
   exact⟨c',o2,u',hc',e2,k2.trans hcl',d2.trans hd',hv'.mono T.goes T.still⟩
 ·obtain⟨e,hy⟩:=iB hy;obtain⟨c',o',hc',ho',hcl',hd',hf',hne'⟩:=F.empty y hy hky
  exact⟨c',o',hc',(hoth c' λh=>e (F.apart y x c (h▸hc') hc)).trans ho',hcl',hd',hf',hne'⟩
theorem ly(S:SR B ρ fr σ s)(F:Fm B env sc le ρ fr s.heap){x:Tq}{v:V}{u:SX}(hb:jR sc x v le=Zj le')(r:VR B ρ s.heap (aj ρ fr) v u)(hfs:∀ b∈fr,b∉ρ.fs){Q:Unit->S9->Prop}
  (k:∀ s',SR B ρ fr σ s'->Step B ρ fr s ρ s'->Fm B env sc le' ρ fr s'.heap->Q () s'):wpAny M A (storeName env x u) Q E s:=by
 unfold jR at hb;cases hkd:ah sc.names x with
 | none=>rw[hkd]at hb;cases hb
 | some kd=>
  rw[hkd]at hb;cases kd with
  | «local»=>cases hb;exact gv S F hkd r (hfs _ F.loc) k
  | cell=>
   dsimp only at hb;cases hg:ak le x with
   | none=>rw[hg]at hb;cases hb;exact tJ S F hkd hg r hfs k
   | some _=>rw[hg]at hb;cases hb
  | _=>cases hb
end
end
section
open PySem PySem.W PyProof.Rows PyProof
section
variable{B:Base}{A:TV}{ρ:e_}{fr:List Tc}{σ:VS}{s:S9}{α β:Type}{t:Xk β}{rel:α->e_->S9->β->Prop}
theorem Wp.O5(S:SR B ρ fr σ s){a:α}(h:wpAny B.M A t (λu s'=>∃ tk,s'={ s with toks:=tk }/\rel a ρ { s with toks:=tk } u) (λ_ _=>False) s):Wp B A ρ fr s (.ok a σ) t rel:=
 TJ h (λ_ _ ⟨tk,e,r⟩=>⟨ρ,e▸S.tok tk,e▸dR.toks B ρ fr s tk,rfl,e▸r⟩) λ_ _ h=>h
theorem SR.poor(S:SR B ρ fr σ s){n:Nat}(h:n<=σ.cap):SR B ρ fr ⟨σ.o,σ.x,n⟩ s:=
 ⟨S.len,S.obj,S.gone,S.sep,S.L_,S.I_,S.frB,S.exc,S.base,S.gens,S.os,λi o ho=>by
  have:=S.cap i o ho
  cases o<;>first|trivial|exact Te (Vb h _) this,Te h S.Os⟩
theorem cH{a b:Nat}(h:U9 a b=Zm):a<=b:=Tw h
theorem cq{a b:Nat}(h:Vx a b=Zm):a < b:=blt_iff.mp h
theorem Il{f:VS->R α}(S:SR B ρ fr σ s)(h:∀ n,σ.cap=n+1->SR B ρ fr ⟨σ.o,σ.x,n⟩ s->Wp B A ρ fr s (f ⟨σ.o,σ.x,n⟩) t rel):Wp B A ρ fr s (σ.pay f) t rel:=by
 unfold VS.pay;cases hc:σ.cap with
 | zero=>trivial
 | succ n=>exact h n hc (S.poor (by exact Nat.le.intro (id (Eq.symm hc))))
theorem uM:∀ (n:Nat) {σ:VS} {f:VS->R α},kS n σ f ≠ .no->n<=σ.cap/\kS n σ f=f ⟨σ.o,σ.x,σ.cap - n⟩
 | 0,σ,f,_=>⟨U4 _,rfl⟩
 | n+1,σ,f,h=>by
  unfold kS VS.pay at h ⊢;cases hc:σ.cap with
  | zero=>rw[hc]at h;exact absurd rfl h
  | succ k=>
   rw[hc]at h;dsimp only at h ⊢;obtain⟨h1,h2⟩:=uM n h;dsimp only at h1 h2
   exact⟨Wh h1,by(refine b_ (h2 ..) ?_;exact b_ (Nat.succ_sub_succ ..) rfl)⟩
theorem pD{n:Nat}{f:VS->R α}(S:SR B ρ fr σ s)(h:n<=σ.cap->SR B ρ fr ⟨σ.o,σ.x,σ.cap - n⟩ s->Wp B A ρ fr s (f ⟨σ.o,σ.x,σ.cap - n⟩) t rel):Wp B A ρ fr s (kS n σ f) t rel:=by
 by_cases e:kS n σ f = .no
 ·(refine b_ e ?_);trivial
 ·obtain⟨h1,h2⟩:=uM n e
  (refine b_ h2 ?_);exact h h1 (S.poor (by exact YJ σ.cap n))
theorem gk(S:SR B ρ fr σ s){us:Array SX}{tk:Nat}{O':O}(hc:dL σ.cap O')
  (hO:∀ (ρ':e_) (h':Tr) (y_:Tc->Prop) (p:Tc×List Tc),v_ ρ ρ'->Still s.heap (aj ρ fr) h' y_->p=(s.heap.objs.size,[])->h'.get? p.1=Zj (bD "list" us 0)->OR B ρ' h' y_ O' p) :
  ∃ ρ',A4 (SR B ρ' fr ⟨σ.o++[O'],σ.x,σ.cap⟩ { s with heap:=s.heap.push { cls := .type "list",data := .seq us },toks:=tk }) (dR B ρ fr s ρ' { s with heap:=s.heap.push { cls := .type "list",data := .seq us },toks:=tk }) (ρ'.x=ρ.x) (VR B ρ' (s.heap.push { cls := .type "list",data := .seq us }) (aj ρ' fr) (.ref (len σ.o)) (.ref s.heap.objs.size)):=by
 have key:=S.add (s':={ s with heap:=s.heap.push { cls := .type "list",data := .seq us },toks:=tk }) (p:=(s.heap.objs.size,[])) (O':=O')
  (λb hb=>by
   rcases hb with rfl|hb
   ·exact U6 (UG _)
   ·cases hb) (λb o e=>Tj _ e) rfl rfl
  (λG St C=>hO _ _ _ _ G St rfl (Uw _ rfl)) hc
 refine⟨_,key.1,key.2,rfl,?_⟩
 unfold VR;refine .inl ⟨(s.heap.objs.size,[]),?_,rfl⟩
 refine b_ (aJ ..) ?_;refine A' (S.len ..) ?_
 exact gF ρ _
theorem cT{h:Tr}{ow:Tc->Prop}:∀ {xs ys:List SQ} {us vs:List SX},PRs B h ow xs us->PRs B h ow ys vs->PRs B h ow (xs++ys) (us++vs)
 | [],ys,us,vs,h1,h2=>by unfold PRs at h1;subst h1;exact h2
 | x::xs,ys,us,vs,h1,h2=>by
  unfold PRs at h1;obtain⟨u,us',rfl,a,b⟩:=h1
  show PRs B h ow (x::(xs++ys)) (u::(us'++vs))
  unfold PRs
  exact⟨u,_,rfl,a,cT b h2⟩
theorem im{i:Int}(h:bW i=Zm):i.natAbs<=1000000:=by
 unfold bW at h;cases i with
 | ofNat n=>have:=cq h;simp;exact Y7 this
 | negSucc n=>have:=cq h;simp;exact cH h
theorem nu:∀ n,fH n=Ur n 32
 | 0=>rfl
 | n+1=>by rw[fH,nu n];rfl
theorem pY(S:SR B ρ fr σ s){n k:Nat}{x:SQ}{p:Tc}{vs:Array SX}{t':Tok}(hn:n < 1000)(ho1:s.heap.get? p=Zj (bD "list" vs k))(r1:PRs B s.heap (aj ρ fr) [x] vs.toList) :
  Wp B A ρ fr s (.ok (.ref (len σ.o)) ⟨σ.o++[.a_ (Ur n x)],σ.x,σ.cap⟩) (binaryOp .Mult (.ref p) (.int (Tn n) t')) (aM B fr):=by
 have l1':vs.size=1:=by rw[<- Tt];exact(bq r1 :)
 have hemp:vs.isEmpty=Zn:=by
  rw[Array.isEmpty_eq_false_iff];intro h;rw[h]at l1';cases l1'
 obtain⟨x',hx⟩:∃ x':Int,x'=Tn n:=⟨_,rfl⟩
 rw[<- hx];have en:x'.toNat=n:=by rw[hx];rfl
 have hx0:(0:Int)<=x'/\x' < 1000:=by have:(Tn n:Int)=(n:Int):=rfl;lia
 clear hx;have step:wpAny B.M A (call (.builtin "list.__mul__") [.ref p,.int x' t']) (PO B ρ fr s (aM B fr) (.ref (len σ.o)) ⟨σ.o++[.a_ (Ur n x)],σ.x,σ.cap⟩) (λ_ _=>False) s:=by
  have g:=AutoListH.list___mul___list_int_3 p vs k x' t' (by
   unfold YC;rw[decide_eq_true (by lia : -(2 ^ 63:Int)<=x'),decide_eq_true (by lia:x' < 2 ^ 63)];decide) (by rw[l1',en];lia) (by
   rw[l1',en];unfold YT sizeLine;rw[decide_eq_true_iff];lia)
  refine Xa F.slot_list_mul (⟨_,ho1,rfl⟩:s.TypeIs (.ref p) "list") F.entry_list_mul (F.args_list_mul_2 (.ref p) (.int x' t') :) g ⟨ho1,?_⟩
  rw[hemp,en];have key:∀ (m:Nat) (acc:Array SX) (us:List SQ),PRs B s.heap (aj ρ fr) us acc.toList->PRs B s.heap (aj ρ fr) (us++Ur m x) (List.foldl (λx1 x2=>x1++x2) acc (Ur m vs)).toList:=by
   intro m
   induction m with
   | zero=>intro acc us h;simpa using h
   | succ m ih=>
    intro acc us h;rw[Ys,Ys,List.foldl_cons,show us++x::Ur m x=(us++[x])++Ur m x by simp]
    refine ih _ _ ?_
    rw[W6];exact cT h r1
  have kr:=key n #[] [] (by unfold PRs;rfl)
  rw[XK]at kr;obtain⟨ρ',k1,k2,k3,k4⟩:=gk (O' := .a_ (Ur n x)) (us:=List.foldl (λx1 x2=>x1++x2) #[] (Ur n vs)) (tk:=s.toks) S (by
    show(Ur n x).length+σ.cap<=_
    have:=S.Os
    rw[List.length_replicate];lia) λρ' h' y_ p G St EU hp'=>⟨by rw[EU],_,0,hp',PRs.mono St _ _ kr⟩
  exact⟨ρ',k1,k2,k3,k4⟩
 exact wpAny_binaryOp_repeat_ref (T:="list") (U:="int") (by decide) ⟨_,ho1,rfl⟩ (λs'=>typeIs_int s' _ t') noFill_list_mul F.fills_int_mul F.slot_int_rmul repeat_list F.slot_int_index.lookup
  (Xa F.slot_int_rmul (typeIs_int s _ t') F.entry_int_rmul (F.args_int_rmul_2 _ _) (int___rmul___int_list _ t' p vs k)
   ⟨ho1,rfl,⟨_,ho1,rfl⟩,step⟩)
inductive PL (S:SR B ρ fr σ s) (v:V) (u:SX) (xs:List SQ):Prop
 | mk (i:Nat) (p:Tc×List Tc) (vs:Array SX) (n:Nat):v = .ref i->ρ.m[i]? = Zj (Zj p)->p.2=[]->u = .ref p.1->s.heap.get? p.1=Zj (bD "list" vs n)->PRs B s.heap (aj ρ fr) xs vs.toList->xs.length+σ.cap<=2 ^ 20->PL S v u xs
theorem BB(S:SR B ρ fr σ s){v:V}{u:SX}(r:VR B ρ s.heap (aj ρ fr) v u){xs:List SQ}(h:rJ σ v=Zj xs):PL S v u xs:=by
 cases v with
 | ref i=>
  dsimp only[rJ]at h;cases hg:σ.get i with
  | none=>rw[hg]at h;cases h
  | some o=>
   rw[hg]at h;cases o with
   | a_ ys=>
    cases h;obtain⟨p,hp,e1,vs,n,ho,r1⟩:=S.at hg (λh=>by cases h)
    exact⟨i,p,vs,n,rfl,hp,e1,aH hp r,ho,r1,(show dL σ.cap (.a_ xs)from S.cap i _ (by(refine A' (bI ..) ?_);exact hg))⟩
   | _=>cases h
 | _=>cases h
theorem au{γ:Type}{o:Option γ}{f:γ->R α}(h:∀ x,o=Zj x->Wp B A ρ fr s (f x) t rel):Wp B A ρ fr s (ag o .no f) t rel:=by
 cases o with
 | none=>trivial
 | some x=>exact h x rfl
theorem aF{c:Bool}{r:R α}(h:c=Zm->Wp B A ρ fr s r t rel):Wp B A ρ fr s (ac c r .no) t rel:=by
 cases c with
 | false=>trivial
 | true=>exact h rfl
theorem AL{b:V}{n:Nat}(h:vY b=Zj n):b = .d (.int (.ofNat n)):=by
 cases b with
 | d x=>
  cases x with
  | int i=>cases i<;>cases h;rfl
  | _=>cases h
 | _=>cases h
theorem AS{b:V}{n:Nat}(h:yF b=Zj n):b = .d (.int (.ofNat (n+1))):=by
 cases b with
 | d x=>
  cases x with
  | int i=>
   cases i with
   | ofNat m=>
    cases m with
    | zero=>cases h
    | succ m=>cases h;rfl
   | negSucc m=>cases h
  | _=>cases h
 | _=>cases h
section
variable{a b:V}{u v:SX}
theorem gK{f:Int->R V}{t:Xk SX}(ra:VR B ρ s.heap (aj ρ fr) a u)(h:∀ i tk,u = .int i tk->Wp B A ρ fr s (f i) t (aM B fr)):Wp B A ρ fr s (oU a f) t (aM B fr):=by
 cases a with
 | d x=>
  cases x with
  | int i=>
   obtain⟨tk,e⟩:=l_.mp ra;exact h i tk e
  | _=>trivial
 | _=>trivial
theorem Jh(S:SR B ρ fr σ s){i:Int}{tk:Tok}(rb:VR B ρ s.heap (aj ρ fr) b v):Wp B A ρ fr s (Ky i b σ) (binaryOp .Add (.int i tk) v) (aM B fr):=
 gK (f:=λj => .ok (int (i+j)) σ) rb λj t' e=>by
  subst e;exact Wp.O5 S (add_int ⟨_,rfl,l_.mpr ⟨_,rfl⟩⟩)
theorem I0(S:SR B ρ fr σ s){i:Int}{tk:Tok}(rb:VR B ρ s.heap (aj ρ fr) b v):Wp B A ρ fr s (K7 i b σ) (binaryOp .Sub (.int i tk) v) (aM B fr):=
 gK (f:=λj => .ok (int (i - j)) σ) rb λj t' e=>by
  subst e;exact Wp.O5 S (sub_int ⟨_,rfl,l_.mpr ⟨_,rfl⟩⟩)
theorem KZ(S:SR B ρ fr σ s){i:Int}{tk:Tok}(rb:VR B ρ s.heap (aj ρ fr) b v):Wp B A ρ fr s (JB i b σ) (binaryOp .Mult (.int i tk) v) (aM B fr):=
 gK (f:=λj=>ac (bW i) (ac (bW j) (.ok (int (i*j)) σ) .no) .no) rb λj t' e=>by
  subst e;exact aF λh1=>aF λ_=>Wp.O5 S (mul_int ⟨_,rfl,l_.mpr ⟨_,rfl⟩⟩ (.of_left (intBits_le (k:=64) (U0 (im h1) (by decide)))))
theorem J4(S:SR B ρ fr σ s){x:Tq}{tk:Tok}(rb:VR B ρ s.heap (aj ρ fr) b v):Wp B A ρ fr s (Kr x b σ) (binaryOp .Add (.str x tk) v) (aM B fr):=by
 cases b with
 | d y=>
  cases y with
  | str y=>
   obtain⟨t',rfl⟩:=D'.mp rb;refine aF λh1=>aF λh2=>Wp.O5 S (Rows.add_str (λt' tk=>⟨tk,rfl,D'.mpr ⟨t',?_⟩⟩) ?_)
   ·have:x++y=⟨⟨x.cps.toList++y.cps.toList⟩⟩:=by
     show Tq.append x y=_
     cases x;cases y;simp [Tq.append]
    exact b_ this rfl
   ·have e1:=cq h1
    have e2:=cq h2
    rw[aJ,Tt]at e1 e2;exact Te (Nat.add_le_add (Wi e1) (Wi e2)) (by decide)
  | _=>trivial
 | _=>trivial
theorem JP(S:SR B ρ fr σ s){xs ys:List SQ}(pa:PL S a u xs)(pb:PL S b v ys):Wp B A ρ fr s (kS (len ys) σ λs=>s.new (.a_ (xs++ys))) (binaryOp .Add u v) (aM B fr):=by
 obtain⟨i,p,vs,n,rfl,hp,e1,rfl,ho1,r1,ci⟩:=pa;obtain⟨j,q,ws,m,rfl,hq,e2,rfl,ho2,r2,_⟩:=pb;refine pD S λhle S' => ?_
 rw[aJ]at hle;refine P.add_list ho1 ho2 ?_ ?_
 ·obtain⟨ρ',k1,k2,k3,k4⟩:=gk (O' := .a_ (xs++ys)) (us:=vs++ws) (tk:=s.toks) S' (by(refine b_ (Ut ..) ?_;refine b_ (aJ ..) ?_;try (with_reducible rfl));lia:(xs++ys).length+(σ.cap - len ys)<=2 ^ 20) λρ' h' y_ p G St EU hp'=>⟨by(refine b_ (EU ..) ?_;try (with_reducible rfl)),vs++ws,0,hp',by
   refine b_ W6 ?_
   exact cT (PRs.mono St _ _ r1) (PRs.mono St _ _ r2)⟩
  exact⟨ρ',k1,k2,k3,k4⟩
 ·show _<=2 ^ 24
  (refine A' Tt ?_;refine A' Tt ?_;refine b_ (bq r1 :) ?_;refine b_ (bq r2 :) ?_);lia
theorem GQ(S:SR B ρ fr σ s)(ra:VR B ρ s.heap (aj ρ fr) a u)(rb:VR B ρ s.heap (aj ρ fr) b v):Wp B A ρ fr s (Jm a b σ) (binaryOp .Add u v) (aM B fr):=by
 have go:∀ {a:V} {u:SX},VR B ρ s.heap (aj ρ fr) a u->Wp B A ρ fr s (ag (rJ σ a) .no λxs=>ag (rJ σ b) .no λys=>kS (len ys) σ λs=>s.new (.a_ (xs++ys))) (binaryOp .Add u v) (aM B fr):=λra=>
  au λxs h1=>au λys h2=>JP S (BB S ra h1) (BB S rb h2)
 cases a with
 | d x=>
  cases x with
  | int i=>obtain⟨t,rfl⟩:=l_.mp ra;exact Jh S rb
  | str x=>obtain⟨t,rfl⟩:=D'.mp ra;exact J4 S rb
  | _=>exact go ra
 | _=>exact go ra
theorem q9(k:Nat)(acc:Array Nat):List.foldl (λx1 x2=>x1++x2) acc (Ur k (#[32]:Array Nat))=acc++(fH k).toArray:=by
 induction k generalizing acc with
 | zero=>simp [fH]
 | succ k ih=>rw[Ys,List.foldl_cons,ih,fH];simp
theorem I6(S:SR B ρ fr σ s){x:Tq}{tk:Tok}(rb:VR B ρ s.heap (aj ρ fr) b v):Wp B A ρ fr s (Ko x b σ) (binaryOp .Mult (.str x tk) v) (aM B fr):=by
 refine aF λhx=>au λn hn=>aF λh1 => ?_
 cases AL hn;obtain⟨t',rfl⟩:=l_.mp rb;have hx:x=⟨⟨[32]⟩⟩:=by
  have:=Pj.mp hx
  cases x;(refine b_ (Tq.mk.injEq ..) ?_;try (with_reducible rfl));exact WM.mp this
 subst hx;have hn:=cq h1
 refine Wp.O5 S (P.mul_str ?_ ?_ ?_ ?_)
 ·have h1:¬ ((n:Int) < -(2 ^ 63:Int)):=by exact of_decide_eq_false rfl
  have h2:¬ ((n:Int) ≥ 2 ^ 63):=by lia
  show(decide ((n:Int) < -(2 ^ 63:Int)) || decide ((n:Int) ≥ 2 ^ 63))=Zn
  (refine b_ (decide_eq_false h1 ..) ?_;refine b_ (decide_eq_false h2 ..) ?_;try (with_reducible rfl));rfl
 ·intro h1 _
  show ¬ ((1:Int) > (2 ^ 63 - 1) / (n:Int))
  have h1':(1:Int)<=n:=by simpa using h1
  exact Int.not_lt.mpr ((Int.le_ediv_iff_mul_le (by exact Int.lt_of_sub_pos h1')).mpr (by lia))
 ·intro _ _
  show Xy (1*n)=Zn
  unfold Xy sizeLine;rw[decide_eq_false];lia
 ·have e:(Tn n:Int)=(n:Int):=rfl
  (refine b_ (e ..) ?_;try (with_reducible rfl))
  by_cases hc:(n:Int) < 1
  ·obtain rfl:n=0:=by lia
   (refine b_ (if_pos hc ..) ?_;try (with_reducible rfl))
   exact⟨by decide,_,rfl,D'.mpr ⟨_,rfl⟩⟩
  ·(refine b_ (if_neg hc ..) ?_;try (with_reducible rfl))
   by_cases hc1:((n:Int)==1)=Zm
   ·obtain rfl:n=1:=by have:=Vq hc1;exact Eq.symm ((λ{m n}=>Int.ofNat_inj.mp) (id (Eq.symm this)))
    exact⟨s.toks,rfl,D'.mpr ⟨_,rfl⟩⟩
   ·have e0:((n:Int)==1 || (⟨#[32]⟩:Tq).length==0)=Zn:=by
     have:((n:Int)==1)=Zn:=by simpa using hc1
     (refine b_ (this ..) ?_;try (with_reducible rfl));rfl
    rw[if_neg (by rw[e0];simp)]
    have e2:(Ur (n:Int).toNat (#[32]:Array Nat)).foldl (·++·) #[]=(⟨fH n⟩:Array Nat):=by
     (refine b_ (Y8 ..) ?_;refine b_ (q9 ..) ?_;try (with_reducible rfl));simp
    refine⟨?_,?_⟩
    ·show Array.size _<=_
     (refine b_ (e2 ..) ?_;try (with_reducible rfl))
     show(fH n).length<=_
     (refine b_ (nu ..) ?_;refine b_ (List.length_replicate ..) ?_;try (with_reducible rfl))
     exact Te (Wi hn) (by decide)
    ·refine⟨_,rfl,D'.mpr ⟨s.toks,?_⟩⟩
     (refine b_ (e2 ..) ?_;try (with_reducible rfl))
theorem Hh(S:SR B ρ fr σ s)(ra:VR B ρ s.heap (aj ρ fr) a u)(rb:VR B ρ s.heap (aj ρ fr) b v):Wp B A ρ fr s (IZ a b σ) (binaryOp .Mult u v) (aM B fr):=by
 have go:∀ {a:V} {u:SX},VR B ρ s.heap (aj ρ fr) a u->Wp B A ρ fr s (ag (rJ σ a) .no λxs=>match xs with
  | [x]=>ag (vY b) .no λn=>ac (Vx n 1000) (σ.new (.a_ (Ur n x))) .no
  | _ => .no) (binaryOp .Mult u v) (aM B fr):=λra=>au λxs h1=>by
   cases xs with
   | nil=>trivial
   | cons x r=>
    cases r with
    | cons=>trivial
    | nil=>
     refine au λn hn=>aF λh2 => ?_
     obtain⟨i,p,vs,k,rfl,hp,e1,rfl,ho1,r1,_⟩:=BB S ra h1;cases AL hn;obtain⟨t',rfl⟩:=l_.mp rb;exact pY S (cq h2) ho1 r1
 cases a with
 | d x=>
  cases x with
  | int i=>obtain⟨t,rfl⟩:=l_.mp ra;exact KZ S rb
  | str x=>obtain⟨t,rfl⟩:=D'.mp ra;exact I6 S rb
  | _=>exact go ra
 | _=>exact go ra
theorem yO(S:SR B ρ fr σ s){op:Xf}(ra:VR B ρ s.heap (aj ρ fr) a u)(rb:VR B ρ s.heap (aj ρ fr) b v):Wp B A ρ fr s (nX op a b σ) (binaryOp op u v) (aM B fr):=by
 cases op with
 | Add=>exact GQ S ra rb
 | Sub=>exact gK ra λi t e=>by subst e;exact I0 S rb
 | Mult=>exact Hh S ra rb
 | Mod=>
  refine gK ra λi t e=>au λn hn => ?_
  cases AS hn;subst e;obtain⟨t',rfl⟩:=l_.mp rb;exact Wp.O5 S (mod_int (λz=>by cases z) ⟨_,rfl,l_.mpr ⟨_,rfl⟩⟩)
 | FloorDiv=>
  refine gK ra λi t e=>au λn hn=>aF λh1 => ?_
  cases AS hn;subst e;obtain⟨t',rfl⟩:=l_.mp rb;exact Wp.O5 S (floordiv_int (λz=>by cases z) ⟨_,rfl,l_.mpr ⟨_,rfl⟩⟩ (.inl (noPylong_small (by have:=cq h1;simp;omega))))
 | _=>trivial
end
end
end
section
open PySem PySem.W PyProof.Rows PyProof
section
variable{B:Base}{ρ:e_}{h:Tr}{ow:Tc->Prop}
mutual
theorem PR.reads:∀ (d:SQ) (v:SX),PR B h ow d v->d.canLay0=Zm->∃ as,Reads h v d as
 | .none,v,r,_=>by unfold PR at r;subst r;exact⟨_,.none⟩
 | .bool b,v,r,_=>by unfold PR at r;subst r;exact⟨_,.bool b⟩
 | .int i,v,r,_=>by unfold PR at r;obtain⟨t,rfl⟩:=r;exact⟨_,.int i t⟩
 | .str x,v,r,_=>by unfold PR at r;obtain⟨t,rfl⟩:=r;exact⟨_,.str x t⟩
 | .list xs,v,r,c=>by
  unfold PR at r;obtain⟨a,vs,n,rfl,_,ho,hs,_⟩:=r;unfold Vi at c;obtain⟨as,hr⟩:=PRs.reads xs _ hs c
  exact⟨_,.list ho rfl rfl hr⟩
 | .tuple xs,v,r,c=>by
  unfold PR at r;obtain⟨a,vs,n,rfl,_,ho,hs⟩:=r;unfold Vi at c;obtain⟨as,hr⟩:=PRs.reads xs _ hs c
  exact⟨_,.tuple ho rfl rfl hr⟩
 | .dict kvs,v,r,c=>by unfold Vi at c;cases c
theorem PRs.reads:∀ (ds:List SQ) (vs:List SX),PRs B h ow ds vs->VK ds=Zm->∃ as,ReadsAll h vs ds as
 | [],vs,r,_=>by unfold PRs at r;subst r;exact⟨_,.nil⟩
 | x::xs,vs,r,c=>by
  unfold PRs at r;obtain⟨u,us,rfl,h1,h2⟩:=r;unfold VK at c;obtain⟨c1,c2⟩:=Yj.mp c;obtain⟨as,r1⟩:=PR.reads x u h1 c1;obtain⟨bs,r2⟩:=PRs.reads xs us h2 c2
  exact⟨_,.cons r1 r2⟩
end
end
theorem dq{x:SQ}{i:Int}(h:cS x=Zj i):x = .int i:=by
 cases x<;>first|exact nn h|(cases h;rfl)
theorem fg{x:SQ}{i:Tq}(h:gY x=Zj i):x = .str i:=by
 cases x<;>first|exact nn h|(cases h;rfl)
theorem iE{x:SQ}{i:List SQ}(h:iW x=Zj i):x = .list i:=by
 cases x<;>first|exact nn h|(cases h;rfl)
theorem gG{x:SQ}(h:qp x=Zm):x.canLay0=Zm/\x.depth<=100:=by
 unfold qp at h;cases hc:x.canLay0 with
 | false=>rw[hc]at h;cases h
 | true=>rw[hc]at h;exact⟨rfl,cH h⟩
section
variable{B:Base}{A:TV}{ρ:e_}{fr:List Tc}{σ:VS}{s:S9}{E:SX->S9->Prop}{a b:V}{u v:SX}
inductive DC (B:Base) (ρ:e_) (fr:List Tc) (σ:VS) (s:S9) (u:SX):V->SQ->Prop
 | d (x:SQ):PR B s.heap (aj ρ fr) x u->DC B ρ fr σ s u (.d x) x
 | l (i:Nat) (xs:List SQ) (p:Tc×List Tc) (vs:Array SX) (n:Nat):σ.get i=Zj (.a_ xs)->ρ.m[i]? = Zj (Zj p)->p.2=[]->u = .ref p.1->s.heap.get? p.1=Zj (bD "list" vs n)->PRs B s.heap (aj ρ fr) xs vs.toList->DC B ρ fr σ s u (.ref i) (.list xs)
theorem d5(S:SR B ρ fr σ s){x:SQ}(ra:VR B ρ s.heap (aj ρ fr) a u)(e:cL σ a=Zj x):DC B ρ fr σ s u a x:=by
 cases a with
 | d y=>obtain rfl:y=x:=Tf e;unfold VR at ra;exact .d _ ra
 | ref i=>
  obtain⟨o,hg,e⟩:=aD (show ag (σ.get i) Zk Bw=Zj x from e)
  cases o with
  | a_ xs=>
   obtain rfl:Uz xs=x:=Tf e
   obtain⟨p,hp,e2,vs,n,ho,hr⟩:=S.at hg (λh=>by cases h)
   exact .l i xs p vs n hg hp e2 (aH hp ra) ho hr
  | _=>exact nn e
 | _=>exact nn e
inductive LC (B:Base) (ρ:e_) (fr:List Tc) (σ:VS) (s:S9) (a:V) (xs:List SQ):SX->Prop
 | mk (p:Tc) (vs:Array SX) (n:Nat):s.heap.get? p=Zj (bD "list" vs n)->PRs B s.heap (aj ρ fr) xs vs.toList->vs.size=xs.length->xs.length<=2 ^ 20->(Kf a xs=Zm->dL σ.cap (.a_ xs))->LC B ρ fr σ s a xs (.ref p)
theorem hV(S:SR B ρ fr σ s){xs:List SQ}(ra:VR B ρ s.heap (aj ρ fr) a u)(e:cL σ a=Zj (.list xs)):LC B ρ fr σ s a xs u:=by
 cases d5 S ra e with
 | d _ r=>
  unfold PR at r;obtain⟨a,vs,k,rfl,_,ho,hr,hl⟩:=r;exact .mk a vs k ho hr ((Tt (xs:=vs)).symm.trans (bq hr)) (by lia) λh=>by
   have:=cH h
   rw[aJ]at this
   have:=S.Os
   show xs.length+σ.cap<=_
   lia
 | l i _ p vs n hg hp e2 eu ho hr=>
  subst eu;have Ry:dL σ.cap (.a_ xs):=S.cap i _ (by unfold VS.get at hg;rw[bI]at hg;exact hg)
  have ci:xs.length+σ.cap<=2 ^ 20:=Ry
  exact .mk p.1 vs n ho hr ((Tt (xs:=vs)).symm.trans (bq hr)) (by exact XQ Ry) λ_=>Ry
theorem fy(S:SR B ρ fr σ s){xs:List SQ}(ra:VR B ρ s.heap (aj ρ fr) a u)(e:oV σ a=Zj xs):LC B ρ fr σ s a xs u:=by
 obtain⟨x,h1,h2⟩:=aD e
 obtain rfl:=iE h2
 exact hV S ra h1
theorem fU(S:SR B ρ fr σ s){x:SQ}(ra:VR B ρ s.heap (aj ρ fr) a u)(e:cL σ a=Zj x)(hc:x.canLay0=Zm):∃ as,Reads s.heap u x as:=by
 cases d5 S ra e with
 | d _ r=>exact PR.reads x u r hc
 | l i xs p vs n hg hp _ eu ho hr=>
  subst eu;unfold Vi at hc;obtain⟨as,h⟩:=PRs.reads xs _ hr hc
  exact⟨_,.list ho rfl rfl h⟩
inductive DE (r:Bool):SQ->SQ->Prop
 | i (i j:Int):(i==j)=r->DE r (.int i) (.int j)
 | s (p q:Tq):(p==q)=r->DE r (.str p) (.str q)
 | g (x y:SQ):qp x=Zm->qp y=Zm->SQ.eqv x y=r->DE r x y
theorem oh{x y:SQ}{r:Bool}(h:qP x y=Zj r):DE r x y:=by
 obtain⟨h1,h⟩:=cQ h;obtain⟨h2,h⟩:=cQ h;exact .g x y h1 h2 (Tf h)
theorem nO{x y:SQ}{r:Bool}(h:D8 x y=Zj r):DE r x y:=by
 unfold D8 at h;cases hi:cS x with
 | some i=>
  rw[hi]at h;cases hj:cS y with
  | some j=>
   obtain rfl:=dq hi;obtain rfl:=dq hj
   exact .i i j ((bA i j).symm.trans (Tf h))
  | none=>rw[hj]at h;exact oh h
 | none=>
  rw[hi]at h;cases hp:gY x with
  | some p=>
   rw[hp]at h;cases hq:gY y with
   | some q=>
    obtain rfl:=fg hp;obtain rfl:=fg hq
    exact .s p q ((ni p q).symm.trans (Tf h))
   | none=>rw[hq]at h;exact oh h
  | none=>rw[hp]at h;exact oh h
theorem qK{r:Bool}(h:G9 σ a b=Zj r):X2 λx y=>A3 (cL σ a=Zj x) (cL σ b=Zj y) (D8 x y=Zj r):=by
 obtain⟨x,h1,h⟩:=aD h;obtain⟨y,h2,h⟩:=aD h
 exact⟨x,y,h1,h2,h⟩
theorem ft(S:SR B ρ fr σ s){i:Int}(ra:VR B ρ s.heap (aj ρ fr) a u)(e:cL σ a=Zj (.int i)):∃ t,u = .int i t:=by
 cases d5 S ra e with
 | d _ r=>unfold PR at r;exact r
theorem di(S:SR B ρ fr σ s){x:Tq}(ra:VR B ρ s.heap (aj ρ fr) a u)(e:cL σ a=Zj (.str x)):∃ t,u = .str x t:=by
 cases d5 S ra e with
 | d _ r=>unfold PR at r;exact r
theorem Jy(S:SR B ρ fr σ s)(ra:VR B ρ s.heap (aj ρ fr) a u)(rb:VR B ρ s.heap (aj ρ fr) b v){r:Bool}(h:G9 σ a b=Zj r)(hu:A.units+104 < cLine){Q:SX->S9->Prop}(k:Q (.bool r) s) :
  wpAny B.M A (compareOp .Eq u v) Q E s:=by
 obtain⟨x,y,h1,h2,h3⟩:=qK h;cases nO h3 with
 | i i j e=>
  subst e;obtain⟨t,rfl⟩:=ft S ra h1;obtain⟨t',rfl⟩:=ft S rb h2;exact Rows.eq_int k
 | s p q e=>
  subst e;obtain⟨t,rfl⟩:=di S ra h1;obtain⟨t',rfl⟩:=di S rb h2;exact Rows.eq_str k
 | g _ _ c1 c2 e=>
  subst e;obtain⟨c1,d1⟩:=gG c1;obtain⟨c2,d2⟩:=gG c2;obtain⟨as,r1⟩:=fU S ra h1 c1;obtain⟨bs,r2⟩:=fU S rb h2 c2;exact SeqAt.compareEq_reads r1 r2 c1 c2 (by have:=Yb x.depth y.depth;lia) k
theorem Ka(S:SR B ρ fr σ s)(ra:VR B ρ s.heap (aj ρ fr) a u)(rb:VR B ρ s.heap (aj ρ fr) b v){r:Bool}(h:G9 σ a b=Zj r)(hu:A.units+104 < cLine){Q:SX->S9->Prop}(k:Q (.bool (!r)) s) :
  wpAny B.M A (compareOp .NotEq u v) Q E s:=by
 obtain⟨x,y,h1,h2,h3⟩:=qK h;cases nO h3 with
 | i i j e=>
  subst e;obtain⟨t,rfl⟩:=ft S ra h1;obtain⟨t',rfl⟩:=ft S rb h2;exact Rows.ne_int k
 | s p q e=>
  subst e;obtain⟨t,rfl⟩:=di S ra h1;obtain⟨t',rfl⟩:=di S rb h2;exact Rows.ne_str k
 | g _ _ c1 c2 e=>
  subst e;obtain⟨c1,d1⟩:=gG c1;obtain⟨c2,d2⟩:=gG c2;obtain⟨as,r1⟩:=fU S ra h1 c1;obtain⟨bs,r2⟩:=fU S rb h2 c2;exact SeqAt.compareNe_reads r1 r2 c1 c2 (by have:=Yb x.depth y.depth;lia) k
end
section
variable{B:Base}{ρ:e_}{h:Tr}{ow:Tc->Prop}
theorem dO{K:Type}[DecidableEq K](k:K)(v:SX)(l:List (K×SX))(x:K):valueAt ((k,v)::l) x=if k=x then Zj v else valueAt l x:=by
 unfold valueAt;refine b_ List.find?_cons ?_
 by_cases e:k=x
 ·simp [e]
 ·simp [e]
theorem kD(a b:Tq):pZ (.str a) (.str b)=aw a b:=rfl
theorem oB(a b:Int):pZ (.int a) (.int b)=bR a b:=rfl
theorem lr{a b:Int}(h:a≠b):bR a b=Zn:=by(refine b_ (bA ..) ?_);simpa using h
theorem ef(a:Int):bR a a=Zm:=by(refine b_ (bA ..) ?_);simp
def Found{α:Type}(rel:V->α->Prop):Option V->Option α->Prop
 | some v,Zj u=>rel v u
 | none,Zk=>True
 | _,_=>False
theorem oH(k:Tq):∀ {kvs:List (SQ×V)} {l:List (Tq×SX)},C_ B ρ h ow kvs l->Found (VR B ρ h ow) (fY kvs (.str k)) (valueAt l k)
 | [],l,r=>by unfold C_ at r;subst r;exact trivial
 | (q,v)::r,l,x=>by
  unfold C_ at x;obtain⟨y,u,l',rfl,rfl,h1,h2⟩:=x;refine b_ (fN ..) ?_;refine b_ (dO ..) ?_;refine b_ (kD ..) ?_
  by_cases e:y=k
  ·subst e;(refine b_ (aQ ..) ?_;refine b_ (if_pos rfl ..) ?_);exact h1
  ·(refine b_ (aV e ..) ?_;refine b_ (if_neg e ..) ?_);exact oH k h2
theorem pX(k:Int):∀ {kvs:List (SQ×V)} {l:List (Int×SX)},G' B ρ h ow kvs l->Found (VR B ρ h ow) (fY kvs (.int k)) (valueAt l k)
 | [],l,r=>by unfold G' at r;subst r;exact trivial
 | (q,v)::r,l,x=>by
  unfold G' at x;obtain⟨y,u,l',rfl,rfl,h1,h2⟩:=x;refine b_ (fN ..) ?_;refine b_ (dO ..) ?_;refine b_ (oB ..) ?_
  by_cases e:y=k
  ·subst e;(refine b_ (ef ..) ?_;refine b_ (if_pos rfl ..) ?_);exact h1
  ·(refine b_ (lr e ..) ?_;refine b_ (if_neg e ..) ?_);exact pX k h2
theorem vm(a b c d:Tq):pZ (.tuple [.str a,.str b]) (.tuple [.str c,.str d])=decide ([a,b]=[c,d]):=by
 show(match aw a c with|true=>aw b d|false=>Zn)=_
 by_cases e:a=c
 ·subst e;refine b_ (aQ ..) ?_
  by_cases f:b=d
  ·subst f;(refine b_ (aQ ..) ?_);simp
  ·(refine b_ (aV f ..) ?_);simp [f]
 ·(refine b_ (aV e ..) ?_);simp [e]
theorem lP{K:Type}[DecidableEq K](k:K)(v:Tc×SX)(l:List (K×Tc×SX))(x:K):atKey ((k,v)::l) x=if k=x then Zj v else atKey l x:=by
 unfold atKey;refine b_ List.find?_cons ?_
 by_cases e:k=x
 ·simp [e]
 ·simp [e]
theorem oe(x y:Tq):∀ {kvs:List (SQ×V)} {l:List (List Tq×Tc×SX)},N_ B ρ h ow kvs l->Found (λv (p:Tc×SX)=>VR B ρ h ow v p.2) (fY kvs (.tuple [.str x,.str y])) (atKey l [x,y])
 | [],l,r=>by unfold N_ at r;subst r;exact trivial
 | (q,v)::r,l,z=>by
  unfold N_ at z;obtain⟨a,b,p,u,l',rfl,rfl,_,h1,h2⟩:=z;refine b_ (fN ..) ?_;refine b_ (lP ..) ?_;refine b_ (vm ..) ?_
  by_cases e:[a,b]=[x,y]
  ·(refine b_ (decide_eq_true e ..) ?_;refine b_ (if_pos e ..) ?_);exact h1
  ·(refine b_ (decide_eq_false e ..) ?_;refine b_ (if_neg e ..) ?_);exact oe x y h2
def O6{α:Type}(rel:SQ->α->Prop):Option SQ->Option α->Prop
 | some v,Zj u=>rel v u
 | none,Zk=>True
 | _,_=>False
theorem i6(k:Tq):∀ {kvs:List (SQ×SQ)} {l:List (Tq×SX)},OE B h ow kvs l->O6 (PR B h ow) (mu kvs (.str k)) (valueAt l k)
 | [],l,r=>by unfold OE at r;subst r;exact trivial
 | (q,v)::r,l,x=>by
  unfold OE at x;obtain⟨y,u,l',rfl,rfl,h1,h2⟩:=x;refine b_ (nD ..) ?_;refine b_ (dO ..) ?_;refine b_ (kD ..) ?_
  by_cases e:y=k
  ·subst e;(refine b_ (aQ ..) ?_;refine b_ (if_pos rfl ..) ?_);exact h1
  ·(refine b_ (aV e ..) ?_;refine b_ (if_neg e ..) ?_);exact i6 k h2
theorem iz(k:Int):∀ {kvs:List (SQ×SQ)} {l:List (Int×SX)},OF B h ow kvs l->O6 (PR B h ow) (mu kvs (.int k)) (valueAt l k)
 | [],l,r=>by unfold OF at r;subst r;exact trivial
 | (q,v)::r,l,x=>by
  unfold OF at x;obtain⟨y,u,l',rfl,rfl,h1,h2⟩:=x;refine b_ (nD ..) ?_;refine b_ (dO ..) ?_;refine b_ (oB ..) ?_
  by_cases e:y=k
  ·subst e;(refine b_ (ef ..) ?_;refine b_ (if_pos rfl ..) ?_);exact h1
  ·(refine b_ (lr e ..) ?_;refine b_ (if_neg e ..) ?_);exact iz k h2
theorem Found.isSome{α:Type}{rel:V->α->Prop}{x:Option V}{y:Option α}(f:Found rel x y):x.isSome=y.isSome:=by
 cases x<;>cases y<;>first|rfl|exact f.elim
theorem O6.isSome{α:Type}{rel:SQ->α->Prop}{x:Option SQ}{y:Option α}(f:O6 rel x y):x.isSome=y.isSome:=by
 cases x<;>cases y<;>first|rfl|exact f.elim
end
theorem eW{prog:VF}{w:V1}(x:Tq)(t:Tok):(strKind prog w).is x (.str x t)=Zm:=by show Yt x (.str x t)=Zm;simp [Yt]
theorem gx{prog:VF}{w:V1}(x:Int)(t:Tok):(intKind prog w).is x (.int x t)=Zm:=by show Zf x (.int x t)=Zm;simp [Zf]
end
section
open PySem PySem.W PyProof.Rows PyProof
section
variable{B:Base}{A:TV}{ρ:e_}{fr:List Tc}{σ:VS}{s:S9}{E:SX->S9->Prop}{a b:V}{u v:SX}
theorem pF{h:Tr}{ow:Tc->Prop}{x y:Tq}{u:SX}(r:PR B h ow (.tuple [.str x,.str y]) u):∃ a,A3 (u = .ref a) (¬ ow a) (IsTupleKey (strKind B.prog B.w) h [x,y] a):=by
 unfold PR at r;obtain⟨a,vs,n,rfl,ha,ho,hs⟩:=r;unfold PRs PRs PRs PR at hs;obtain⟨u1,us1,e1,⟨t1,rfl⟩,u2,us2,rfl,⟨t2,rfl⟩,rfl⟩:=hs
 exact⟨a,rfl,ha,_,vs,n,ho,rfl,rfl,by(refine b_ e1 ?_);exact .cons (eW _ _) (.cons (eW _ _) .nil)⟩
theorem ia{α:Type}{kvs:List (SQ×α)}{k:SQ}(h:xh kvs k=Zm) :
  (∃ x,k = .str x/\be gu kvs=Zm)\/(∃ x,k = .int x/\be kj kvs=Zm)\/X2 λx y=>k = .tuple [.str x,.str y]/\be yj kvs=Zm:=by
 cases k with
 | str x=>exact .inl ⟨_,rfl,h⟩
 | int x=>exact .inr (.inl ⟨_,rfl,h⟩)
 | tuple xs=>
  rcases xs with _|⟨a,_|⟨b,_|⟨c,r⟩⟩⟩
  ·exact Ti (show Zn=Zm from h)
  ·cases a<;>exact Ti (show Zn=Zm from h)
  ·cases a with
   | str x=>cases b with
    | str y=>exact .inr (.inr ⟨_,_,rfl,h⟩)
    | _=>exact Ti (show Zn=Zm from h)
   | _=>exact Ti (show Zn=Zm from h)
  ·cases a with
   | str x=>cases b<;>exact Ti (show Zn=Zm from h)
   | _=>exact Ti (show Zn=Zm from h)
 | _=>exact Ti (show Zn=Zm from h)
theorem gz{kvs:List (SQ×SQ)}{k:SQ}(h:qU kvs k=Zm) :
  (∃ x,k = .str x/\be gu kvs=Zm)\/(∃ x,k = .int x/\be kj kvs=Zm):=by
 cases k with
 | str x=>exact .inl ⟨_,rfl,h⟩
 | int x=>exact .inr ⟨_,rfl,h⟩
 | _=>exact Ti (show Zn=Zm from h)
theorem cW{a:Tc}(h:a≠sysModules):(a==sysModules)=Zn:=by simpa using h
def Cf(B:Base)(A:TV)(s:S9)(u v:SX)(r:Bool):Prop:=∀ (E Q Q':SX->S9->Prop),(∀ tk,Q (.bool r) { s with toks:=tk })->(∀ tk,Q' (.bool (!r)) { s with toks:=tk })->
 wpAny B.M A (compareOp .In u v) Q E s/\wpAny B.M A (compareOp .NotIn u v) Q' E s
theorem Ai{x:SQ}{xs:List SQ}{r:Bool}{v:Tc}{vs:Array SX}{n:Nat}(hl:sL x xs=Zj r)(hu:A.units+204 < cLine)(rx:PR B s.heap (aj ρ fr) x u)(hr:PRs B s.heap (aj ρ fr) xs vs.toList)
  (ho:s.heap.get? v=Zj (bD "list" vs n)\/s.heap.get? v=Zj (bD "tuple" vs n)):Cf B A s u (.ref v) r:=λE Q Q' k k'=>by
 obtain⟨h1,h2⟩:=cQ hl;obtain⟨h3,h4⟩:=cQ h2;cases h4;clear hl h2;obtain⟨c1,d1⟩:=gG h1;obtain⟨c2,d2⟩:=gG h3;unfold Vi at c2;have d2':V4 xs<=100:=by unfold V9 at d2;exact Y7 d2
 obtain⟨as,r1⟩:=PR.reads x u rx c1;obtain⟨bs,r2⟩:=PRs.reads xs _ hr c2;have hm:A.units+1+min (V4 xs) x.depth < cLine:=by have:=Yb (V4 xs) x.depth;lia
 rcases ho with ho|ho
 ·exact⟨SeqAt.in_list_reads (.list ho rfl rfl r2) r1 c2 c1 hm (k s.toks),SeqAt.notIn_list_reads (.list ho rfl rfl r2) r1 c2 c1 hm (k' s.toks)⟩
 ·exact⟨SeqAt.in_tuple_reads (.tuple ho rfl rfl r2) r1 c2 c1 hm (k s.toks),SeqAt.notIn_tuple_reads (.tuple ho rfl rfl r2) r1 c2 c1 hm (k' s.toks)⟩
theorem DI{x:SQ}{kvs:List (SQ×SQ)}{r:Bool}(h:ac (qU kvs x) (Zj (mu kvs x).isSome) Zk=Zj r)(ra:PR B s.heap (aj ρ fr) x u)(rb:PR B s.heap (aj ρ fr) (.dict kvs) v):Cf B A s u v r:=λE Q Q' k k'=>by
 obtain⟨hf,h⟩:=cQ h;cases h;unfold PR at rb;obtain⟨d,rfl,hd,⟨hm,_⟩,h1,h2,_⟩:=rb;rcases gz hf with ⟨y,rfl,hk⟩|⟨y,rfl,hk⟩
 ·obtain⟨l,hl,hr⟩:=h1 hk;unfold PR at ra;obtain⟨t,rfl⟩:=ra;have e:=(i6 y hr).isSome
  exact⟨wpAny_in_of (eW _ _) (cW hm) hl.mapOf (e▸k _),YK (eW _ _) (cW hm) hl.mapOf (e▸k' _)⟩
 ·obtain⟨l,hl,hr⟩:=h2 hk;unfold PR at ra;obtain⟨t,rfl⟩:=ra;have e:=(iz y hr).isSome
  exact⟨wpAny_in_of (gx _ _) (cW hm) hl.mapOf (e▸k _),YK (gx _ _) (cW hm) hl.mapOf (e▸k' _)⟩
theorem Dl{x:SQ}{kvs:List (SQ×V)}{i:Nat}{r:Bool}(S:SR B ρ fr σ s)(hg:σ.get i=Zj (.dict kvs))(h:ac (xh kvs x) (Zj (fY kvs x).isSome) Zk=Zj r)(hu:A.units+204 < cLine)(ra:PR B s.heap (aj ρ fr) x u)(rb:VR B ρ s.heap (aj ρ fr) (.ref i) v):Cf B A s u v r:=λE Q Q' k k'=>by
 obtain⟨hf,h⟩:=cQ h;cases h;obtain⟨p,hp,_,hm,_,h1,h2,h3,_⟩:=S.at hg (λh=>by cases h)
 obtain rfl:=aH hp rb
 clear hg rb hp;rcases ia hf with ⟨y,rfl,hk⟩|⟨y,rfl,hk⟩|⟨y,z,rfl,hk⟩
 ·obtain⟨l,hl,hr⟩:=h1 hk;unfold PR at ra;obtain⟨t,rfl⟩:=ra;have e:=(oH y hr).isSome
  exact⟨wpAny_in_of (eW _ _) (cW hm) hl.mapOf (e▸k _),YK (eW _ _) (cW hm) hl.mapOf (e▸k' _)⟩
 ·obtain⟨l,hl,hr⟩:=h2 hk;unfold PR at ra;obtain⟨t,rfl⟩:=ra;have e:=(pX y hr).isSome
  exact⟨wpAny_in_of (gx _ _) (cW hm) hl.mapOf (e▸k _),YK (gx _ _) (cW hm) hl.mapOf (e▸k' _)⟩
 ·obtain⟨l,hl,hr⟩:=h3 hk;obtain⟨q,rfl,_,hq⟩:=pF ra;have e:=(oe y z hr).isSome
  have room:(tupleKind (strKind B.prog B.w)).room A.in1:=by show A.units+1 < cLine;lia
  exact⟨wpAny_in_heap room hq (cW hm) hl (e▸k _),wpAny_notIn_heap room hq (cW hm) hl (e▸k' _)⟩
theorem vz(S:SR B ρ fr σ s)(ra:VR B ρ s.heap (aj ρ fr) a u)(rb:VR B ρ s.heap (aj ρ fr) b v){r:Bool}(h:contains σ a b=Zj r)(hu:A.units+204 < cLine):Cf B A s u v r:=by
 cases a with
 | d x=>
  have ra:PR B s.heap (aj ρ fr) x u:=by unfold VR at ra;exact ra
  cases b with
  | d y=>
   have rb:PR B s.heap (aj ρ fr) y v:=by unfold VR at rb;exact rb
   cases y with
   | dict kvs=>exact DI h ra rb
   | tuple xs=>
    unfold PR at rb;obtain⟨a,vs,n,rfl,_,ho,hr⟩:=rb;exact Ai h hu ra hr (.inr ho)
   | _=>exact nn h
  | ref i=>
   obtain⟨o,hg,h⟩:=aD (show ag (σ.get i) Zk (Nh x)=Zj r from h)
   cases o with
   | dict kvs=>exact Dl S hg h hu ra rb
   | a_ xs=>
    obtain⟨p,hp,e2,vs,n,ho,hr⟩:=S.at hg (λh=>by cases h)
    obtain rfl:=aH hp rb
    exact Ai h hu ra hr (.inl ho)
   | _=>exact nn h
  | _=>exact nn h
 | _=>exact nn h
theorem cG{w:SX}(h:w ≠ .none):(w == .none)=Zn:=by simpa using h
theorem rT{x:SQ}(h:i5 x=Zn)(r:PR B s.heap (aj ρ fr) x .none):False:=by
 cases x with
 | none=>exact Ti h
 | bool b=>unfold PR at r;cases r
 | int b=>unfold PR at r;obtain⟨_,e⟩:=r;cases e
 | str b=>unfold PR at r;obtain⟨_,e⟩:=r;cases e
 | list b=>unfold PR at r;obtain⟨_,_,_,e,_⟩:=r;cases e
 | tuple b=>unfold PR at r;obtain⟨_,_,_,e,_⟩:=r;cases e
 | dict b=>unfold PR at r;obtain⟨_,e,_⟩:=r;cases e
theorem iJ{x:SQ}(h:i5 x=Zm):x = .none:=by
 cases x<;>first|rfl|exact Ti h
theorem wS(ra:VR B ρ s.heap (aj ρ fr) a u){r:Bool}(h:isNone a=Zj r):(u == .none)=r:=by
 cases a with
 | d x=>
  obtain rfl:i5 x=r:=Tf h
  unfold VR at ra;cases hn:i5 x with
  | true=>obtain rfl:=iJ hn;unfold PR at ra;subst ra;rfl
  | false=>exact cG λe=>rT hn (e▸ra)
 | val _=>exact nn h
 | ref i=>
  cases h;refine cG λe => ?_
  subst e;unfold VR at ra;rcases ra with ⟨_,_,e⟩|⟨_,_,e⟩<;>cases e
 | tup l=>
  cases h;refine cG λe => ?_
  subst e;unfold VR at ra;obtain⟨_,_,_,e,_⟩:=ra;cases e
 | rng l=>
  cases h;refine cG λe => ?_
  subst e;unfold VR at ra;obtain⟨_,_,e,_⟩:=ra;cases e
 | exc=>
  cases h;refine cG λe => ?_
  subst e;unfold VR at ra;obtain⟨_,_,e⟩:=ra;cases e
theorem AE{r:Bool}(ra:VR B ρ s.heap (aj ρ fr) a u)(rb:VR B ρ s.heap (aj ρ fr) b v)(h:MX a b=Zj r):v = .none/\(u == .none)=r:=by
 cases b with
 | d x=>
  obtain⟨h1,h2⟩:=cQ h
  obtain rfl:=iJ h1
  unfold VR PR at rb
  exact⟨rb,wS ra h2⟩
 | _=>exact nn h
theorem db{i:Int}(h:iH a=Zj i):a = .d (.int i):=by
 cases a with
 | d x=>obtain rfl:=dq h;rfl
 | _=>exact nn h
theorem kM{r:Bool}{f:Int->Int->Bool}(ra:VR B ρ s.heap (aj ρ fr) a u)(rb:VR B ρ s.heap (aj ρ fr) b v)(h:zF a b f=Zj r):X4 λi j t t'=>A3 (u = .int i t) (v = .int j t') (f i j=r):=by
 obtain⟨i,h1,h⟩:=aD h;obtain⟨j,h2,h⟩:=aD h
 obtain rfl:=db h1
 obtain rfl:=db h2
 obtain⟨t,rfl⟩:=l_.mp ra;obtain⟨t',rfl⟩:=l_.mp rb
 exact⟨i,j,t,t',rfl,rfl,Tf h⟩
theorem jA{o:Option Bool}{r:Bool}(e:o.map not=Zj r):o=Zj (!r):=by
 cases o with
 | none=>exact nn e
 | some x=>cases e;exact congrArg Zj (YW x).symm
theorem nS(i j:Int):(!l8 j i)=decide (i < j):=by
 refine b_ (js ..) ?_
 by_cases q:i < j
 ·(refine b_ (decide_eq_true q ..) ?_;refine b_ (decide_eq_false (by exact Int.not_le.mpr q) ..) ?_);rfl
 ·(refine b_ (decide_eq_false q ..) ?_;refine b_ (decide_eq_true (by exact Int.not_lt.mp q) ..) ?_);rfl
theorem zE(S:SR B ρ fr σ s){op:CmpOp}(ra:VR B ρ s.heap (aj ρ fr) a u)(rb:VR B ρ s.heap (aj ρ fr) b v){r:Bool}(h:HD op a b σ=Zj r)(hu:A.units+204 < cLine){Q:SX->S9->Prop}
  (k:∀ tk,Q (.bool r) { s with toks:=tk }):wpAny B.M A (compareOp op u v) Q E s:=by
 cases op with
 | Eq=>exact Jy S ra rb h (by lia) (k s.toks)
 | NotEq=>exact Ka S ra rb (jA h) (by lia) ((YW r).symm▸k s.toks)
 | Is=>obtain⟨rfl,e⟩:=AE ra rb h;exact is_none_gen (e▸k s.toks)
 | IsNot=>obtain⟨rfl,e⟩:=AE ra rb (jA h);exact isnot_none_gen (by(refine b_ (e ..) ?_;refine b_ (YW ..) ?_);exact k s.toks)
 | In=>exact(vz S ra rb h hu E Q (λ_ _=>True) k λ_=>trivial).1
 | NotIn=>exact(vz S ra rb (jA h) hu E (λ_ _=>True) Q (λ_=>trivial) (by(refine b_ (YW ..) ?_);exact k)).2
 | Lt=>
  obtain⟨i,j,t,t',rfl,rfl,e⟩:=kM ra rb h;exact Rows.lt_int (nS i j▸e▸k s.toks)
 | LtE=>
  obtain⟨i,j,t,t',rfl,rfl,e⟩:=kM ra rb h;exact Rows.le_int (js i j▸e▸k s.toks)
 | Gt=>
  obtain⟨i,j,t,t',rfl,rfl,e⟩:=kM ra rb h;exact Rows.gt_int (nS j i▸e▸k s.toks)
 | GtE=>
  obtain⟨i,j,t,t',rfl,rfl,e⟩:=kM ra rb h;exact Rows.ge_int (js j i▸e▸k s.toks)
end
end
section
open PySem PySem.W PyProof.Rows PyProof
theorem cE{t x:String}(h:isStr t x=Zm):t=x:=by
 unfold isStr at h;cases hd:String.decEq t x with
 | isTrue e=>exact e
 | isFalse e=>rw[hd]at h;cases h
theorem fJ{β:Type}(x y:β):ac Zn x y=y:=rfl
section
variable{B:Base}{ρ:e_}{h:Tr}{ow:Tc->Prop}
theorem kT{K K':Type}[DecidableEq K][DecidableEq K']{prog:VF}{w:V1}{k₁:PySem.KeyKind prog w K}{k₂:PySem.KeyKind prog w K'}{a:Tc}(x:h.DictOf k₁ a []):h.DictOf k₂ a []:=by
 obtain⟨o,es,ep,ho,he,hd,hk,hp,hn⟩:=x;have e:es.toList=[]:=by generalize es.toList=l at hp;cases hp;rfl
 refine⟨o,es,ep,ho,he,hd,λy hy => ?_,by(refine b_ e ?_);exact .nil,Xi⟩
 have:y∈es.toList:=Array.mem_toList_iff.mpr hy
 rw[e]at this;cases this
theorem jX{K K':Type}[DecidableEq K][DecidableEq K']{prog:VF}{w:V1}{k₁:PySem.KeyKind prog w K}{k₂:HeapKind prog w K'}{a:Tc}(x:h.DictOf k₁ a []):h.DictOfH k₂ a []:=by
 obtain⟨o,es,ep,ho,he,hd,hk,hp,hn⟩:=x
 exact⟨o,es,ep,ho,he,hd,(by generalize es.toList=l at hp;cases hp;rfl:es.toList=[]),λ_ hx=>(nomatch hx),Xi⟩
theorem dH{K:Type}[DecidableEq K]{prog:VF}{w:V1}{knd:PySem.KeyKind prog w K}{a:Tc}{l:List (K×SX)}(x:h.DictOf knd a l):∃ o,A3 (h.get? a=Zj o) (o.cls = .type "dict") (o.dict=Zk):=
 by obtain⟨o,_,_,ho,he,_⟩:=x;exact⟨o,ho,he.1,he.2.1⟩
theorem kQ{k:SQ}(h:gu k=Zm):∃ x,k = .str x:=by
 cases k<;>first|exact⟨_,rfl⟩|exact Ti (show Zn=Zm from h)
theorem qG{k:SQ}(h:kj k=Zm):∃ x,k = .int x:=by
 cases k<;>first|exact⟨_,rfl⟩|exact Ti (show Zn=Zm from h)
theorem cA{α:Type}{f:SQ->Bool}{k:SQ}{v:α}{r:List (SQ×α)}(h:be f ((k,v)::r)=Zm):f k=Zm/\be f r=Zm:=by
 rw[dX]at h;cases hk:f k with
 | true=>rw[hk]at h;exact⟨rfl,h⟩
 | false=>rw[hk]at h;cases h
theorem mr{α:Type}{kvs:List (SQ×α)}(h1:be gu kvs=Zm)(h2:be kj kvs=Zm):kvs=[]:=by
 cases kvs with
 | nil=>rfl
 | cons p r=>
  obtain⟨k,v⟩:=p;obtain⟨x,rfl⟩:=kQ (cA h1).1;exact Ti (show Zn=Zm from(cA h2).1)
theorem lM{α:Type}{kvs:List (SQ×α)}(h1:be gu kvs=Zm)(h2:be yj kvs=Zm):kvs=[]:=by
 cases kvs with
 | nil=>rfl
 | cons p r=>
  obtain⟨k,v⟩:=p;obtain⟨x,rfl⟩:=kQ (cA h1).1;exact Ti (show Zn=Zm from(cA h2).1)
theorem ml{α:Type}{kvs:List (SQ×α)}(h1:be kj kvs=Zm)(h2:be yj kvs=Zm):kvs=[]:=by
 cases kvs with
 | nil=>rfl
 | cons p r=>
  obtain⟨k,v⟩:=p;obtain⟨x,rfl⟩:=qG (cA h1).1;exact Ti (show Zn=Zm from(cA h2).1)
theorem gy{kvs:List (SQ×V)}{l:List (Tq×SX)}{a:Tc}(hm:a≠sysModules)(hk:be gu kvs=Zm)(hd:h.DictOf (strKind B.prog B.w) a l)(hr:C_ B ρ h ow kvs l)(hz:kvs.length<=1000) :
  OR B ρ h ow (.dict kvs) (a,[]):=by
 refine⟨rfl,hm,dH hd,λ_=>⟨l,hd,hr⟩,λh2 => ?_,λh2 => ?_,hz⟩
 ·obtain rfl:=mr hk h2
  unfold C_ at hr;subst hr
  exact⟨[],kT hd,by unfold G';rfl⟩
 ·obtain rfl:=lM hk h2
  unfold C_ at hr;subst hr
  exact⟨[],jX hd,by unfold N_;rfl⟩
theorem qA{kvs:List (SQ×V)}{l:List (Int×SX)}{a:Tc}(hm:a≠sysModules)(hk:be kj kvs=Zm)(hd:h.DictOf (intKind B.prog B.w) a l)(hr:G' B ρ h ow kvs l)(hz:kvs.length<=1000) :
  OR B ρ h ow (.dict kvs) (a,[]):=by
 refine⟨rfl,hm,dH hd,λh2 => ?_,λ_=>⟨l,hd,hr⟩,λh2 => ?_,hz⟩
 ·obtain rfl:=mr h2 hk
  unfold G' at hr;subst hr
  exact⟨[],kT hd,by unfold C_;rfl⟩
 ·obtain rfl:=ml hk h2
  unfold G' at hr;subst hr
  exact⟨[],jX hd,by unfold N_;rfl⟩
theorem mv(f:SQ->Bool):∀ kvs:List (SQ×SQ),be f (cR kvs)=be f kvs
 | []=>rfl
 | (k,x)::r=>by unfold cR;(refine b_ (dX ..) ?_;refine b_ (dX ..) ?_;exact b_ (mv f r ..) rfl)
theorem nM:∀ kvs:List (SQ×SQ),(cR kvs).length=kvs.length
 | []=>rfl
 | (k,x)::r=>by unfold cR;simp [nM r]
theorem nG:∀ {kvs:List (SQ×SQ)} {l:List (Tq×SX)},OE B h ow kvs l->C_ B ρ h ow (cR kvs) l
 | [],l,r=>by unfold OE at r;unfold cR C_;exact r
 | (k,x)::q,l,r=>by
  unfold OE at r;unfold cR C_;obtain⟨y,v,l',e1,e2,h1,h2⟩:=r
  exact⟨y,v,l',e1,e2,by unfold VR;exact h1,nG h2⟩
theorem kC:∀ {kvs:List (SQ×V)} {l:List (Tq×SX)},C_ B ρ h ow kvs l->l.length=kvs.length
 | [],l,r=>by unfold C_ at r;subst r;rfl
 | (k,x)::q,l,r=>by
  unfold C_ at r;obtain⟨y,v,l',rfl,e2,h1,h2⟩:=r
  simp [kC h2]
end
section
variable{B:Base}{A:TV}{ρ:e_}{fr:List Tc}{σ:VS}{s:S9}{n:Nat}
theorem vE(S:SR B ρ fr σ s)(h0:∃ o,B.h₀.get? sysModules=Zj o){a:Tc}(h:s.heap.get? a=Zk):a≠sysModules:=by
 rintro rfl
 obtain⟨o,ho⟩:=h0;obtain⟨o',ho'⟩:=S.base.there _ _ ho;rw[h]at ho';cases ho'
theorem bn(h:Tr):h.get? h.objs.size=Zk:=U6 (UG _)
theorem tX(S:SR B ρ fr σ s){s':S9}{O':O}(hk:∀ b o,s.heap.get? b=Zj o->s'.heap.get? b=Zj o)(hg:s'.gens=s.gens)(hos:s'.os=s.os)(hc:dL σ.cap O')
  (hO:∀ (ρ':e_) (y_:Tc->Prop),v_ ρ ρ'->Still s.heap (aj ρ fr) s'.heap y_->Cells s.heap s'.heap->OR B ρ' s'.heap y_ O' (s.heap.objs.size,[])) :
  ∃ ρ',A4 (SR B ρ' fr ⟨σ.o++[O'],σ.x,σ.cap⟩ s') (dR B ρ fr s ρ' s') (ρ'.x=ρ.x) (VR B ρ' s'.heap (aj ρ' fr) (.ref (len σ.o)) (.ref s.heap.objs.size)):=by
 have key:=S.add (s':=s') (p:=(s.heap.objs.size,[])) (O':=O')
  (λb hb=>by
   rcases hb with rfl|hb
   ·exact bn _
   ·cases hb) hk hg hos (λG St C=>hO _ _ G St C) hc
 refine⟨_,key.1,key.2,rfl,?_⟩
 unfold VR;refine .inl ⟨(s.heap.objs.size,[]),?_,rfl⟩
 refine b_ (aJ ..) ?_;refine A' (S.len ..) ?_
 exact gF ρ _
theorem rm(C:AC A ρ fr n):A.units+1000 < cLine:=by
 have:=C.units
 unfold cLine;lia
theorem Eo(S:SR B ρ fr σ s){v:V}{u:SX}(ra:VR B ρ s.heap (aj ρ fr) v u):Wp B A ρ fr s (JW v σ) (call (.builtin "len") [u]) (aM B fr):=au λx hx=>by
 cases x with
 | str x=>
  refine aF λhb => ?_
  obtain⟨t,rfl⟩:=di S ra hx;have hl:=cH hb
  rw[aJ,Tt]at hl;have hl':x.length<=1000000:=hl
  refine Wp.O5 S (Rows.len_str (by lia) ⟨_,rfl,l_.mpr ⟨s.toks+1,?_⟩⟩)
  (refine b_ (aJ ..) ?_;refine b_ (Tt ..) ?_);rfl
 | list xs=>
  obtain⟨p,vs,k,ho,hr,hs,hl,_⟩:=hV S ra hx;exact Wp.O5 S (Rows.len_list ⟨_,ho,rfl,_,rfl⟩ (by(refine b_ (hs ..) ?_;try (with_reducible rfl));lia) ⟨_,rfl,l_.mpr ⟨_,by(refine b_ (hs ..) ?_;refine b_ (aJ ..) ?_;try (with_reducible rfl))⟩⟩)
 | tuple xs=>
  refine aF λhb => ?_
  cases d5 S ra hx with
  | d _ r=>
   unfold PR at r;obtain⟨a,vs,k,rfl,_,ho,hr⟩:=r;have hs:vs.size=_:=(Tt (xs:=vs)).symm.trans (bq hr)
   have hl:=cH hb
   rw[aJ]at hl;exact Wp.O5 S (Rows.len_tuple ⟨_,ho,rfl,_,rfl⟩ (by(refine b_ (hs ..) ?_;try (with_reducible rfl));lia) ⟨_,rfl,l_.mpr ⟨_,by(refine b_ (hs ..) ?_;refine b_ (aJ ..) ?_;try (with_reducible rfl))⟩⟩)
 | _=>trivial
theorem DU{xs:List SQ}(h:qw xs=Zm):W2 (.list xs)=Zm/\V0 13 (.list xs)=Zm/\Wk (.list xs)=Zm:=by
 unfold qw at h;cases h1:W2 (.list xs) with
 | false=>rw[h1]at h;exact Ti h
 | true=>
  rw[h1]at h;cases h2:V0 13 (.list xs) with
  | false=>rw[h2]at h;exact Ti h
  | true=>rw[h2]at h;exact⟨rfl,rfl,h⟩
theorem zt(S:SR B ρ fr σ s)(C:AC A ρ fr n){v:V}{u:SX}(ra:VR B ρ s.heap (aj ρ fr) v u):Wp B A ρ fr s (E2 v σ) (call (.builtin "repr") [u]) (aM B fr):=au λxs hx=>aF λhs=>by
 obtain⟨h1,h2,h3⟩:=DU hs;obtain⟨p,vs,k,ho,hr,_⟩:=fy S ra hx;have hl:=Yj.mp (Yj.mp h1).1
 have hd:V9 (.list xs)<=64:=of_decide_eq_true hl.2
 obtain⟨as,hrd⟩:=PRs.reads xs _ hr (by have:=hl.1;unfold Vi at this;exact this:VK xs=Zm)
 have hz:=shown_le13 h1 h2
 have hu:=rm C
 refine repr_of_reads' (h₀:=s.heap) (.list ho rfl rfl hrd) h3 (SQ.noDict_hsm (SQ.hasDict_of_layable h1)) C.guards (by lia) (λ_ _ e=>e) (λh' t tk hk => ?_) (by show _<=2 ^ 24;lia)
 have key:=S.grow (s':={ s with heap:=h',toks:=tk }) hk rfl rfl
 exact⟨ρ,key.1,key.2,rfl,D'.mpr ⟨t,rfl⟩⟩
theorem yv(S:SR B ρ fr σ s){v:V}{u:SX}(ra:VR B ρ s.heap (aj ρ fr) v u):Wp B A ρ fr s (BP v σ) (call (.type "range") [u]) (aM B fr):=au λk hx=>aF λhk=>by
 obtain rfl:=db hx
 obtain⟨t,rfl⟩:=l_.mp ra;refine call_range_1 ?_
 have key:=S.grow (s':={ s with heap:=s.heap.push { cls := .type "range",data := .fields #[.int 0 s.toks,.int k t,.int 1 (s.toks+1)] },toks:=s.toks+1+1 }) (λb o e=>Tj _ e) rfl rfl
 refine⟨ρ,key.1,key.2,rfl,?_⟩
 show VR B ρ _ (aj ρ fr) (.rng k) _
 unfold VR
 exact⟨hk,_,rfl,S.OU (bn _),_,_,_,IsRange.new s.heap 0 k 1 s.toks t (s.toks+1)⟩
theorem BS(S:SR B ρ fr σ s){xs:List SQ}{a:Tc}{vs:Array SX}{k:Nat}(hc:dL σ.cap (.a_ xs))(ho:s.heap.get? a=Zj (bD "list" vs k))(hr:PRs B s.heap (aj ρ fr) xs vs.toList) :
  Wp B A ρ fr s (σ.new (.a_ xs)) (call (.type "list") [.ref a]) (aM B fr):=by
 have hs:vs.size=_:=(Tt (xs:=vs)).symm.trans (bq hr)
 have ci:xs.length+σ.cap<=2 ^ 20:=hc
 unfold VS.new;refine call_list_seq a (.inl rfl) ho rfl rfl (λh' c' hk hn => ?_) (by show _<=2 ^ 24;lia)
 obtain⟨ρ',k1,k2,k3,k4⟩:=tX (s':={ s with heap:=h' }) (O' := .a_ xs) S hk rfl rfl hc λρ' y_ G St C=>⟨rfl,vs,c',hn,PRs.mono St _ _ hr⟩
 exact⟨ρ',k1,k2,k3,k4⟩
theorem zV(S:SR B ρ fr σ s){v:V}{u:SX}(ra:VR B ρ s.heap (aj ρ fr) v u):Wp B A ρ fr s (E1 v σ) (call (.type "list") [u]) (aM B fr):=au λxs hx=>aF λhf=>by
 obtain⟨p,vs,k,ho,hr,_,_,hc⟩:=fy S ra hx;exact BS S (hc hf) ho hr
theorem sw(S:SR B ρ fr σ s)(h0:∃ o,B.h₀.get? sysModules=Zj o){kvs:List (SQ×V)}{a:Tc}{l:List (Tq×SX)}(hm:a≠sysModules)(hk:be gu kvs=Zm)(hd:s.heap.DictOf (strKind B.prog B.w) a l)
  (hr:C_ B ρ s.heap (aj ρ fr) kvs l) (hz:kvs.length<=1000):Wp B A ρ fr s (σ.new (.dict kvs)) (call (.type "dict") [.ref a]) (aM B fr):=by
 have hl:=kC hr
 unfold VS.new;refine kt_call_dict (cW hm) hd (by show _<=2 ^ 24;lia) λh' hd' hs => ?_
 obtain⟨ρ',k1,k2,k3,k4⟩:=tX (s':={ s with heap:=h' }) (O' := .dict kvs) S (λb o e=>(hs.2 b (λq=>by subst q;rw[bn]at e;cases e)).trans (Tj _ e):∀ b o,s.heap.get? b=Zj o->h'.get? b=Zj o) rfl rfl trivial λρ' y_ G St C=>gy (vE S h0 (bn _)) hk hd' (C_.mono G St _ _ hr) hz
 exact⟨ρ',k1,k2,k3,k4⟩
theorem qh{x:SQ}{i:List (SQ×SQ)}(h:BG x=Zj i):x = .dict i:=by
 cases x<;>first|exact nn h|(cases h;rfl)
theorem sr{x:O}{i:List (SQ×V)}(h:BR x=Zj i):x = .dict i:=by
 cases x<;>first|exact nn h|(cases h;rfl)
theorem AF(S:SR B ρ fr σ s)(h0:∃ o,B.h₀.get? sysModules=Zj o){v:V}{u:SX}(ra:VR B ρ s.heap (aj ρ fr) v u):Wp B A ρ fr s (Fx v σ) (call (.type "dict") [u]) (aM B fr):=by
 cases v with
 | d x=>
  refine au λkvs hx=>aF λhk => ?_
  obtain rfl:=qh hx
  unfold VR PR at ra;obtain⟨a,rfl,_,⟨hm,_⟩,h1,_,hz⟩:=ra;obtain⟨l,hl,hr⟩:=h1 hk;exact sw S h0 hm (by(refine b_ (mv ..) ?_);exact hk) hl (nG hr) (by(refine b_ (nM ..) ?_);exact hz)
 | ref i=>
  refine au λo hg=>au λkvs ho=>aF λhk => ?_
  obtain rfl:=sr ho
  obtain⟨p,hp,_,hm,_,h1,_,_,hz⟩:=S.at hg (λh=>by cases h)
  obtain rfl:=aH hp ra
  obtain⟨l,hl,hr⟩:=h1 hk;exact sw S h0 hm hk hl hr hz
 | _=>trivial
def vF(B:Base):Prop:=∀ {A:TV} {ρ:e_} {fr:List Tc} {σ:VS} {s:S9} {k c:Tc} {i:Int} {q:Tc×Tc} {r:Bool} {E:SX->S9->Prop} {Q:SX->S9->Prop},SR B ρ fr σ s->σ.x=Zj (k,i)->ρ.x=Zj q->B.T.sub k c=Zj r->
 (∀ tk,Q (.bool r) { s with toks:=tk })->wpAny B.M A (call (.builtin "isinstance") [.ref q.1,.ref c]) Q E s
theorem sI(S:SR B ρ fr σ s){v:V}{u:SX}(ra:VR B ρ s.heap (aj ρ fr) v u){t:String}{r:Bool}(h:vy t σ v=Zj r){E:SX->S9->Prop}{Q:SX->S9->Prop}
  (k:∀ tk,Q (.bool r) { s with toks:=tk }):wpAny B.M A (call (.builtin "isinstance") [u,.type t]) Q E s:=by
 obtain⟨x,hx,h⟩:=aD h;cases h1:isStr t "tuple" with
 | true=>
  rw[h1]at h
  obtain rfl:=cE h1
  cases x with
  | int i=>cases h;obtain⟨_,rfl⟩:=ft S ra hx;exact IsiPair.int_tuple (k _)
  | str i=>cases h;obtain⟨_,rfl⟩:=di S ra hx;exact IsiPair.str_tuple (k _)
  | _=>exact nn h
 | false=>
  rw[h1]at h;cases h2:isStr t "str" with
  | true=>
   rw[h2]at h
   obtain rfl:=cE h2
   cases x with
   | str i=>cases h;obtain⟨_,rfl⟩:=di S ra hx;exact IsiPair.str_str (k s.toks)
   | list xs=>
    cases h;obtain⟨p,vs,n,ho,_⟩:=hV S ra hx;exact IsiPair.list_str ho rfl (k _)
   | _=>exact nn h
  | false=>
   rw[h2]at h;obtain⟨h3,h⟩:=cQ h
   obtain rfl:=cE h3
   cases x with
   | int i=>cases h;obtain⟨_,rfl⟩:=ft S ra hx;exact IsiPair.int_int (k s.toks)
   | str i=>cases h;obtain⟨_,rfl⟩:=di S ra hx;exact IsiPair.str_int (k _)
   | _=>exact nn h
theorem xW(I:vF B)(S:SR B ρ fr σ s){v c:V}{u w:SX}(ra:VR B ρ s.heap (aj ρ fr) v u)(rb:VR B ρ s.heap (aj ρ fr) c w){r:Bool}(h:Am B.T σ v c=Zj r){E:SX->S9->Prop}{Q:SX->S9->Prop}
  (k:∀ tk,Q (.bool r) { s with toks:=tk }):wpAny B.M A (call (.builtin "isinstance") [u,w]) Q E s:=by
 cases c with
 | val z=>
  unfold VR at rb;obtain⟨rfl,_⟩:=rb;cases w with
  | type t=>exact sI S ra h k
  | ref c=>
   cases v with
   | exc=>
    obtain⟨p,hx,h⟩:=aD h;unfold VR at ra;obtain⟨q,hq,rfl⟩:=ra;exact I S hx hq h k
   | _=>exact nn h
  | _=>exact nn h
 | _=>exact nn h
theorem iw{h:Tr}{ow:Tc->Prop}{v:V}{us:List SX}(r:k_ B ρ h ow [v] us):∃ u,us=[u]/\VR B ρ h ow v u:=by
 unfold k_ k_ at r;obtain⟨u,us',rfl,h1,rfl⟩:=r
 exact⟨u,rfl,h1⟩
theorem CR{h:Tr}{ow:Tc->Prop}{v w:V}{us:List SX}(r:k_ B ρ h ow [v,w] us):X2 λa b=>A3 (us=[a,b]) (VR B ρ h ow v a) (VR B ρ h ow w b):=by
 unfold k_ k_ k_ at r;obtain⟨u,us',rfl,h1,u',us'',rfl,h2,rfl⟩:=r
 exact⟨u,u',rfl,h1,h2⟩
theorem dC{α:Type}{as:List α}{v:α}(h:one as=Zj v):as=[v]:=by
 cases as with
 | nil=>exact nn h
 | cons a r=>cases r with
  | nil=>exact congrArg (λx=>[x]) (Tf h)
  | cons=>exact nn h
theorem ui{α:Type}{as:List α}{p:α×α}(h:I1 as=Zj p):as=[p.1,p.2]:=by
 cases as with
 | nil=>exact nn h
 | cons a r=>
  obtain⟨w,h1,h⟩:=aD (show ag (one r) Zk (λw=>Zj (a,w))=Zj p from h)
  obtain rfl:=dC h1
  cases h;rfl
theorem pp{α β:Type}{ρ:e_}{fr:List Tc}{s:S9}{c:Bool}{r q:R α}{t:Xk β}{rel:α->e_->S9->β->Prop}(h:c=Zm->Wp B A ρ fr s r t rel)(h':Wp B A ρ fr s q t rel):Wp B A ρ fr s (ac c r q) t rel:=by
 cases c with
 | false=>exact h'
 | true=>exact h rfl
theorem AD(I:vF B)(h0:∃ o,B.h₀.get? sysModules=Zj o)(S:SR B ρ fr σ s)(C:AC A ρ fr n){id:SX}{as:List V}{us:List SX}(ra:k_ B ρ s.heap (aj ρ fr) as us) :
  Wp B A ρ fr s (zI B.T id as σ) (call id us) (aM B fr):=by
 cases id with
 | builtin t=>
  show Wp B A ρ fr s (ag (one as) (ag (I1 as) .no λp=>zu B.T t p.1 p.2 σ) λv=>AO t v σ) _ _
  cases h:one as with
  | some v=>
   obtain rfl:=dC h
   obtain⟨u,rfl,r1⟩:=iw ra;exact pp (λh=>by obtain rfl:=cE h;exact Eo S r1) (aF λh=>by obtain rfl:=cE h;exact zt S C r1)
  | none=>
   refine au λp h => ?_
   obtain rfl:=ui h
   obtain⟨u,w,rfl,r1,r2⟩:=CR ra;exact aF λh=>au λb h2=>by
    obtain rfl:=cE h
    exact xW I S r1 r2 h2 λtk=>⟨ρ,S.tok tk,dR.toks B ρ fr s tk,rfl,OM.mpr rfl⟩
 | type t=>
  refine au λv h => ?_
  obtain rfl:=dC h
  obtain⟨u,rfl,r1⟩:=iw ra;exact pp (λh=>by obtain rfl:=cE h;exact yv S r1) (pp (λh=>by obtain rfl:=cE h;exact zV S r1) (aF λh=>by obtain rfl:=cE h;exact AF S h0 r1))
 | _=>trivial
end
end
section
open PySem PySem.W PyProof.Rows PyProof
structure Q4 (B:Base) (c:Tc) (k:Cl):Prop where
 ex:X2 λN mN=>A8 (ClsAt B.h₀ c N mN) ((∃ oN,B.h₀.get? N=Zj oN/\oN.cls = .type "dict")) (mN "__getattribute__"=Zk) (mN "__getattr__"=Zk) (mN "__setattr__"=Zk) ((∀ n,kt n k.attrs=Zm->mN n=Zk/\typeLookup (.type "object") n=pure Zk)) ((∀ n f,kI B.T c n=Zj f->mN n=Zj (.ref f)/\(X2 λo fd=>A3 (B.h₀.get? f=Zj o) (o.cls = .type "function") (o.data = .func fd))/\∃ y,typeLookup (.type "object") n=pure y)) ((∀ f,k.init=Zj f->mN "__init__"=Zj (.ref f)/\X2 λo fd=>A3 (B.h₀.get? f=Zj o) (o.cls = .type "function") (o.data = .func fd)))
structure Facts (B:Base):Prop where
 lim:B.h₀.NoLimit
 sys:∃ o,B.h₀.get? sysModules=Zj o
 R8:vF B
 cls:∀ c k,B.T.cl c=Zj k->k.exc.isNone=Zm->Q4 B c k
section
variable{B:Base}{A:TV}{ρ:e_}{fr:List Tc}{σ:VS}{s:S9}{n:Nat}{E:SX->S9->Prop}
theorem SR.O2(S:SR B ρ fr σ s){b:Tc}{o:V3}(e:B.h₀.get? b=Zj o)(hc:o.cls ≠ .none):s.heap.get? b=Zj o:=S.base.get_of_cls e hc
theorem gL(S:SR B ρ fr σ s){c N:Tc}{mN:Tq->Option SX}(X:ClsAt B.h₀ c N mN)(hN:∃ oN,B.h₀.get? N=Zj oN/\oN.cls = .type "dict"):ClsAt s.heap c N mN:=by
 obtain⟨nm,q,bs,sn,sub,col,dd,k0,k1,k2,k3,k5,e⟩:=X.obj;obtain⟨oN,hN,hc⟩:=hN
 refine⟨⟨nm,q,bs,sn,sub,col,dd,k0,k1,k2,k3,k5,S.O2 e (by unfold excClassObj;simp)⟩,?_⟩
 obtain⟨o,es,ep,ho,r⟩:=X.ns;rw[hN]at ho;cases ho
 exact⟨oN,es,ep,S.O2 hN (by(refine b_ hc ?_);simp),r⟩
theorem yi{h:Tr}{ow:Tc->Prop}{v:V}{u:SX}(r:VR B ρ h ow v u):handedIn u=Zm:=by
 cases v with
 | d x=>
  unfold VR at r;cases x with
  | none=>unfold PR at r;subst r;rfl
  | bool=>unfold PR at r;subst r;rfl
  | int=>unfold PR at r;obtain⟨t,rfl⟩:=r;rfl
  | str=>unfold PR at r;obtain⟨t,rfl⟩:=r;rfl
  | list=>unfold PR at r;obtain⟨_,_,_,rfl,_⟩:=r;rfl
  | tuple=>unfold PR at r;obtain⟨_,_,_,rfl,_⟩:=r;rfl
  | dict=>unfold PR at r;obtain⟨_,rfl,_⟩:=r;rfl
 | val w=>unfold VR at r;obtain⟨rfl,h⟩:=r;exact h
 | ref i=>unfold VR at r;rcases r with ⟨_,_,rfl⟩|⟨_,_,rfl⟩<;>rfl
 | tup vs=>unfold VR at r;obtain⟨_,_,_,rfl,_⟩:=r;rfl
 | rng k=>unfold VR at r;obtain⟨_,_,rfl,_⟩:=r;rfl
 | exc=>unfold VR at r;obtain⟨_,_,rfl⟩:=r;rfl
noncomputable def MK.id:MK->SX
 | .fn f => .ref f
 | .app => .builtin "list.append"
 | .pop => .builtin "list.pop"
 | .ext => .builtin "list.extend"
 | .idx => .builtin "list.index"
 | .get => .builtin "dict.get"
 | .join => .builtin "str.join"
theorem rn{m:Tq}{k:MK}(h:nE m=Zj k):(m="append"/\k = .app)\/(m="pop"/\k = .pop)\/(m="extend"/\k = .ext)\/(m="index"/\k = .idx):=by
 unfold nE at h;cases h1:aw m "append" with
 | true=>rw[h1]at h;cases h;exact .inl ⟨g_.mp h1,rfl⟩
 | false=>
  rw[h1,fJ]at h;cases h2:aw m "pop" with
  | true=>rw[h2]at h;cases h;exact .inr (.inl ⟨g_.mp h2,rfl⟩)
  | false=>
   rw[h2,fJ]at h;cases h3:aw m "extend" with
   | true=>rw[h3]at h;cases h;exact .inr (.inr (.inl ⟨g_.mp h3,rfl⟩))
   | false=>
    rw[h3,fJ]at h;cases h4:aw m "index" with
    | true=>rw[h4]at h;cases h;exact .inr (.inr (.inr ⟨g_.mp h4,rfl⟩))
    | false=>rw[h4]at h;cases h
theorem jB{m:Tq}{k:MK}(h:nE m=Zj k){a:Tc}{o:V3}(ho:s.heap.get? a=Zj o)(hc:o.cls = .type "list")(hd:o.dict=Zk){pl:Xk Bool}{Q:SX×List SX->S9->Prop}(q:Q (k.id,[.ref a]) s) :
  wpAny B.M A (getMethod (.ref a) m pl) Q E s:=by
 have hT:s.TypeIs (.ref a) "list":=⟨o,ho,hc⟩
 have hdd:∀ b,TQ a = .ref b->∃ o,s.heap.get? b=Zj o/\o.dict=Zk:=λb e=>by injection e with e;subst e;exact⟨o,ho,hd⟩
 rcases rn h with ⟨rfl,rfl⟩|⟨rfl,rfl⟩|⟨rfl,rfl⟩|⟨rfl,rfl⟩
 ·exact Wf hT Xu F.slot_list_append F.type_list_append hdd q
 ·exact Wf hT Xu F.slot_list_pop F.type_list_pop hdd q
 ·exact Wf hT Xu F.slot_list_extend F.type_list_extend hdd q
 ·exact Wf hT Xu F.slot_list_index F.type_list_index hdd q
theorem n6{m:Tq}{k:MK}(h:vM m=Zj k){a:Tc}{o:V3}(ho:s.heap.get? a=Zj o)(hc:o.cls = .type "dict")(hd:o.dict=Zk){pl:Xk Bool}{Q:SX×List SX->S9->Prop}(q:Q (k.id,[.ref a]) s) :
  wpAny B.M A (getMethod (.ref a) m pl) Q E s:=by
 have hT:s.TypeIs (.ref a) "dict":=⟨o,ho,hc⟩
 have hdd:∀ b,TQ a = .ref b->∃ o,s.heap.get? b=Zj o/\o.dict=Zk:=λb e=>by injection e with e;subst e;exact⟨o,ho,hd⟩
 unfold vM at h;cases h1:aw m "get" with
 | true=>
  rw[h1]at h;cases h
  have:=g_.mp h1;subst this
  exact Wf hT F.plainAttrs_dict F.slot_dict_get F.type_dict_get hdd q
 | false=>rw[h1]at h;cases h
theorem y8{m:Tq}{k:MK}(h:HN m=Zj k){x:Tq}{t:Tok}{pl:Xk Bool}{Q:SX×List SX->S9->Prop}(q:Q (k.id,[.str x t]) s) :
  wpAny B.M A (getMethod (.str x t) m pl) Q E s:=by
 unfold HN at h;cases h1:aw m "join" with
 | true=>
  rw[h1]at h;cases h
  have:=g_.mp h1;subst this
  exact Wf (typeIs_str s x t) F.plainAttrs_str F.slot_str_join F.type_str_join (λb e=>by cases e) q
 | false=>rw[h1]at h;cases h
theorem y4{h:Tr}{ow:Tc->Prop}{kvs:List (SQ×V)}{p:Tc×List Tc}(r:OR B ρ h ow (.dict kvs) p):∃ o,A3 (h.get? p.1=Zj o) (o.cls = .type "dict") (o.dict=Zk):=by
 obtain⟨_,_,h,_⟩:=r;exact h
theorem ir{α β:Type}(b:β)(f:α->β):ag Zk b f=b:=rfl
theorem gA{α β:Type}(a:α)(b:β)(f:α->β):ag (Zj a) b f=f a:=rfl
theorem oG{h:Tr}{ow:Tc->Prop}{c:Tc}{fs:List (Tq×V)}{p:Tc×List Tc}(r:OR B ρ h ow (.inst c fs) p):∃ kc,B.T.cl c=Zj kc/\kc.exc.isNone=Zm:=by
 obtain⟨dx,mA,o,e,ho,hc,hnc,hd,hne,hn,hf,hz⟩:=r;exact hz.2
theorem vI{h:Tr}{ow:Tc->Prop}{c:Tc}{fs:List (Tq×V)}{p:Tc×List Tc}(r:OR B ρ h ow (.inst c fs) p) :
  X2 λdx mA=>A3 (p.2=[dx]) (h.Inst p.1 c mA) ((∀ y,match ak fs y with|some v=>∃ rv,A3 (mA y=Zj rv) (VR B ρ h ow v rv) (handedIn rv=Zm)|none=>mA y=Zk)):=by
 obtain⟨dx,mA,o,e,ho,hc,hnc,hd,hne,hn,hf,hz⟩:=r
 exact⟨dx,mA,e,⟨o,ho,hc,hnc,.inr ⟨dx,hd,hne,hn⟩⟩,hf⟩
theorem B3(Fa:Facts B)(S:SR B ρ fr σ s){i:Nat}{x:O}{u:SX}{m:Tq}{k:MK}(hg:σ.get i=Zj x)(ra:VR B ρ s.heap (aj ρ fr) (.ref i) u)(h:E3 B.T x m=Zj k){pl:Xk Bool}{Q:SX×List SX->S9->Prop}
  (q:Q (k.id,[u]) s):wpAny B.M A (getMethod u m pl) Q E s:=by
 have hd:x ≠ .dead:=λe=>by subst e;exact nn h
 obtain⟨p,hp,ro⟩:=S.at hg hd
 obtain rfl:=aH hp ra
 clear ra hp hg hd;cases x with
 | inst c fs=>
  have h:ag (ak fs m) (ag (kI B.T c m) Zk λf=>Zj (.fn f)) (λ_=>Zk)=Zj k:=h
  obtain⟨kc,hkc,he⟩:=oG ro;obtain⟨dx,mA,_,I,hfs⟩:=vI ro;have hsh:=hfs m
  clear hfs;cases hn:ak fs m with
  | some _=>rw[hn]at h;exact nn h
  | none=>
   rw[hn]at h hsh;obtain⟨f,hm,h⟩:=aD h;cases h;obtain⟨N,mN,X,hN,g1,g2,g3,g4,g5,g6⟩:=(Fa.cls c kc hkc he).ex;obtain⟨m1,⟨of,fd,hof,hfc,hfd⟩,y,hy⟩:=g5 m f hm;obtain⟨nm,q',bs,sn,sub,col,dd,k0,k1,k2,k3,k5,hC⟩:=(gL S X hN).obj;obtain⟨hp',g,d,tk,os⟩:=s;exact method_of hC (gL S X hN).ns g1 g2 m1 (S.O2 hof (by(refine b_ hfc ?_);simp)) hfc hy I hsh q
 | a_ xs=>
  obtain⟨e2,vs,n,ho,hr⟩:=ro;exact jB h ho rfl rfl q
 | p_ xs=>
  obtain⟨e2,vs,n,ho,hr⟩:=ro;exact jB h ho rfl rfl q
 | dict kvs=>
  obtain⟨o,ho,hc,hd⟩:=y4 ro;exact n6 h ho hc hd q
 | _=>exact nn h
theorem rR(Fa:Facts B)(S:SR B ρ fr σ s){o:V}{u:SX}{m:Tq}{k:MK}(ra:VR B ρ s.heap (aj ρ fr) o u)(h:d7 B.T o m σ=Zj k){pl:Xk Bool}{Q:SX×List SX->S9->Prop}
  (q:Q (k.id,[u]) s):wpAny B.M A (getMethod u m pl) Q E s:=by
 cases o with
 | ref i=>
  obtain⟨x,hg,h⟩:=aD h;exact B3 Fa S hg ra h q
 | d x=>
  cases x with
  | list xs=>
   unfold VR PR at ra;obtain⟨a,vs,n,rfl,_,ho,hr,hl⟩:=ra;exact jB h ho rfl rfl q
  | dict kvs=>
   unfold VR PR at ra;obtain⟨a,rfl,_,⟨_,o,ho,hc,hd⟩,_⟩:=ra;exact n6 h ho hc hd q
  | str x=>
   obtain⟨t,rfl⟩:=D'.mp ra;exact y8 h q
  | _=>exact nn h
 | _=>exact nn h
end
end
section
open PySem PySem.W PyProof.Rows PyProof
section
variable{B:Base}{ρ:e_}{h:Tr}{ow:Tc->Prop}
theorem Du{α:Type}(xs:List α):∀ a:α,a::xs=(An a xs).2++[(An a xs).1]:=by
 induction xs with
 | nil=>exact λa=>rfl
 | cons b l ih=>exact λa=>congrArg (a::·) (ih b)
theorem lK{α:Type}{xs:List α}{p:α×List α}(h:pe xs=Zj p):xs=p.2++[p.1]:=by
 cases xs with
 | nil=>exact nn h
 | cons a l=>obtain rfl:=Tf h;exact Du l a
theorem HC{x:O}{xs:List SQ}(h:Lo x=Zj xs):x = .a_ xs:=by
 cases x<;>first|exact nn h|(cases h;rfl)
theorem HZ{x:O}{xs:List V}(h:Nj x=Zj xs):x = .p_ xs:=by
 cases x<;>first|exact nn h|(cases h;rfl)
theorem bU{σ:VS}{i:Nat}{xs:List SQ}(h:fS σ i=Zj xs):σ.get i=Zj (.a_ xs):=by
 obtain⟨x,h1,h2⟩:=aD h;refine b_ h1 ?_;exact b_ (HC h2) rfl
theorem Cw{σ:VS}{i:Nat}{xs:List V}(h:Ch σ i=Zj xs):σ.get i=Zj (.p_ xs):=by
 obtain⟨x,h1,h2⟩:=aD h;refine b_ h1 ?_;exact b_ (HZ h2) rfl
theorem sO{as:List V}(h:og as=Zm):as=[.d (.int 0)]:=by
 unfold og at h;cases h1:one as with
 | none=>rw[h1]at h;exact Ti h
 | some v=>
  rw[h1]at h
  obtain rfl:=dC h1
  have h:ag (iH v) Zn (λi=>bR i 0)=Zm:=h
  cases h2:iH v with
  | none=>rw[h2]at h;exact Ti h
  | some i=>
   rw[h2]at h
   obtain rfl:=db h2
   exact b_ (Vq ((bA i 0).symm.trans h)) rfl
theorem iX{α:Type}{xs:List α}{p:α×List α}(h:mK xs=Zj p):xs=p.1::p.2:=by
 cases xs with
 | nil=>exact nn h
 | cons a l=>obtain rfl:=Tf h;rfl
theorem nV:∀ {xs ys:List SQ} {us:List SX},PRs B h ow (xs++ys) us->X2 λu1 u2=>A3 (us=u1++u2) (PRs B h ow xs u1) (PRs B h ow ys u2)
 | [],ys,us,r=>⟨[],us,rfl,by unfold PRs;rfl,r⟩
 | x::xs,ys,us,r=>by
  have r':PRs B h ow (x::(xs++ys)) us:=r
  unfold PRs at r';obtain⟨u,us',rfl,h1,h2⟩:=r';obtain⟨u1,u2,rfl,h3,h4⟩:=nV h2
  exact⟨u::u1,u2,rfl,by unfold PRs;exact⟨u,u1,rfl,h1,h3⟩,h4⟩
theorem nQ:∀ {xs ys:List V} {us:List SX},k_ B ρ h ow (xs++ys) us->X2 λu1 u2=>A3 (us=u1++u2) (k_ B ρ h ow xs u1) (k_ B ρ h ow ys u2)
 | [],ys,us,r=>⟨[],us,rfl,by unfold k_;rfl,r⟩
 | x::xs,ys,us,r=>by
  have r':k_ B ρ h ow (x::(xs++ys)) us:=r
  unfold k_ at r';obtain⟨u,us',rfl,h1,h2⟩:=r';obtain⟨u1,u2,rfl,h3,h4⟩:=nQ h2
  exact⟨u::u1,u2,rfl,by unfold k_;exact⟨u,u1,rfl,h1,h3⟩,h4⟩
theorem PH{x:SQ}{us:List SX}:PRs B h ow [x] us ↔ ∃ u,us=[u]/\PR B h ow x u:=by
 unfold PRs PRs
 constructor
 ·rintro⟨u,us',rfl,h1,rfl⟩;exact⟨u,rfl,h1⟩
 ·rintro⟨u,rfl,h1⟩;exact⟨u,[],rfl,h1,rfl⟩
theorem tR{vs:Array SX}{us:List SX}{u:SX}(e:vs.toList=us++[u]):(vs.eraseIdxIfInBounds (vs.size - 1)).toList=us/\vs[vs.size - 1]? = Zj u:=by
 have hs:vs.size=us.length+1:=by(refine A' Tt ?_;refine b_ e ?_);simp
 constructor
 ·(refine b_ YX ?_;refine b_ e ?_;refine b_ hs ?_)
  simp [List.eraseIdx_append_of_length_le]
 ·(refine A' Ui ?_;refine b_ e ?_;refine b_ hs ?_);simp
theorem rW{vs:Array SX}{us:List SX}{u:SX}(e:vs.toList=u::us):(vs.eraseIdxIfInBounds 0).toList=us/\vs[0]? = Zj u:=by
 constructor
 ·(refine b_ YX ?_;refine b_ e ?_);rfl
 ·(refine A' Ui ?_;refine b_ e ?_);rfl
end
section
variable{B:Base}{A:TV}{ρ:e_}{fr:List Tc}{σ:VS}{s:S9}{n:Nat}
theorem gj(S:SR B ρ fr σ s){i:Nat}{p:Tc×List Tc}{vs:Array SX}{k:Nat}{f:Array SX->Array SX}{O':O}{tk:Nat}(hp:ρ.m[i]? = Zj (Zj p))(ho:s.heap.get? p.1=Zj (bD "list" vs k))(hc:dL σ.cap O')
  (hO:∀ h' ,Still s.heap (aj ρ fr) h' (aj ρ fr)->∀ k',h'.get? p.1=Zj (bD "list" (f vs) k')->OR B ρ h' (aj ρ fr) O' p) :
  SR B ρ fr (σ.put i O') { s with heap:=s.heap.update p.1 (YL f),toks:=tk }/\dR B ρ fr s ρ { s with heap:=s.heap.update p.1 (YL f),toks:=tk }:=by
 have hself:(s.heap.update p.1 (YL f)).get? p.1=Zj (bD "list" (f vs) (if (f vs).size==vs.size then k else k+1)):=Va (YL f) ho rfl
 refine S.upd (a:=p.1) hp (.inl rfl) ho (Plain.PX (by simp) (by simp) (by first|rfl|decide)) (λb o hb e=>(Vf _ _ (Vd hb)).trans e) ⟨_,hself⟩ rfl rfl (λSt C => ?_) hc
 exact hO _ St _ hself
theorem mR{n:Nat}(h:0 < n):seqIndex? 0 n=Zj 0:=by
 unfold seqIndex?;have h1:(decide ((0:Int) < (n:Int)))=Zm:=decide_eq_true (by exact Int.natCast_pos.mpr h)
 simp [h]
theorem xU(S:SR B ρ fr σ s){i:Nat}{p:Tc×List Tc}{vs:Array SX}{k:Nat}{us:List SX}{u:SX}{t:Tok}{O':O}{v:V}(hp:ρ.m[i]? = Zj (Zj p))(ho:s.heap.get? p.1=Zj (bD "list" vs k))(e:vs.toList=u::us)(hz:vs.size<=2 ^ 20)(hc:dL σ.cap O')
  (hO:∀ h' ow,Still s.heap (aj ρ fr) h' ow->∀ k' ws,ws.toList=us->h'.get? p.1=Zj (bD "list" ws k')->OR B ρ h' ow O' p) (hv:∀ h' ow,Still s.heap (aj ρ fr) h' ow->VR B ρ h' ow v u) :
  Wp B A ρ fr s (.ok v (σ.put i O')) (call (.builtin "list.pop") [.ref p.1,.int 0 t]) (aM B fr):=by
 obtain⟨e1,e2⟩:=rW e;refine Xa F.slot_list_pop ⟨_,ho,rfl⟩ F.entry_list_pop (F.args_list_pop_2 _ _) (MeetsSeq.list_pop_at p.1 vs k 0 t 0 u (by decide) (by
  have:0 < vs.size:=by(refine A' Tt ?_;refine b_ e ?_);simp
  exact mR this) e2 (by show _<=2 ^ 24;lia)) ⟨ho,?_⟩
 have key:=gj (O':=O') (f:=λxs=>xs.eraseIdxIfInBounds 0) (tk:=s.toks) S hp ho hc λh' St k' hk=>hO h' _ St k' _ e1 hk
 exact⟨ρ,key.1,key.2,rfl,hv _ _ key.2.still⟩
theorem m0(S:SR B ρ fr σ s){i:Nat}{p:Tc×List Tc}{vs:Array SX}{k:Nat}{us:List SX}{u:SX}{O':O}{v:V}(hp:ρ.m[i]? = Zj (Zj p))(ho:s.heap.get? p.1=Zj (bD "list" vs k))(e:vs.toList=us++[u])(hz:vs.size<=2 ^ 20)(hc:dL σ.cap O')
  (hO:∀ h' ow,Still s.heap (aj ρ fr) h' ow->∀ k' ws,ws.toList=us->h'.get? p.1=Zj (bD "list" ws k')->OR B ρ h' ow O' p) (hv:∀ h' ow,Still s.heap (aj ρ fr) h' ow->VR B ρ h' ow v u) :
  Wp B A ρ fr s (.ok v (σ.put i O')) (call (.builtin "list.pop") [.ref p.1]) (aM B fr):=by
 obtain⟨e1,e2⟩:=tR e;refine Xa F.slot_list_pop ⟨_,ho,rfl⟩ F.entry_list_pop (F.args_list_pop_1 _) (MeetsSeq.list_pop_last p.1 vs k u e2 (by show _<=2 ^ 24;lia)) ⟨ho,?_⟩
 have key:=gj (O':=O') (f:=λxs=>xs.eraseIdxIfInBounds (vs.size - 1)) (tk:=s.toks) S hp ho hc λh' St k' hk=>hO h' _ St k' _ e1 hk
 exact⟨ρ,key.1,key.2,rfl,hv _ _ key.2.still⟩
theorem fM(S:SR B ρ fr σ s){i:Nat}{o:O}(hg:σ.get i=Zj o):dL σ.cap o:=S.cap i _ (by unfold VS.get at hg;rw[bI]at hg;exact hg)
inductive PA (B:Base) (ρ:e_) (fr:List Tc) (σ:VS) (s:S9) (i:Nat) (xs:List SQ):SX->Prop
 | mk (p:Tc×List Tc) (vs:Array SX) (k:Nat):ρ.m[i]? = Zj (Zj p)->p.2=[]->s.heap.get? p.1=Zj (bD "list" vs k)->PRs B s.heap (aj ρ fr) xs vs.toList->vs.size=xs.length->xs.length+σ.cap<=2 ^ 20->PA B ρ fr σ s i xs (.ref p.1)
theorem la(S:SR B ρ fr σ s){i:Nat}{xs:List SQ}{u:SX}(hg:σ.get i=Zj (.a_ xs))(ra:VR B ρ s.heap (aj ρ fr) (.ref i) u):PA B ρ fr σ s i xs u:=by
 obtain⟨p,hp,e2,vs,k,ho,hr⟩:=S.at hg (λh=>by cases h)
 obtain rfl:=aH hp ra
 exact .mk p vs k hp e2 ho hr ((Tt (xs:=vs)).symm.trans (bq hr)) (fM S hg)
inductive WA (B:Base) (ρ:e_) (fr:List Tc) (σ:VS) (s:S9) (i:Nat) (xs:List V):SX->Prop
 | mk (p:Tc×List Tc) (vs:Array SX) (k:Nat):ρ.m[i]? = Zj (Zj p)->p.2=[]->s.heap.get? p.1=Zj (bD "list" vs k)->k_ B ρ s.heap (aj ρ fr) xs vs.toList->vs.size=xs.length->xs.length+σ.cap<=2 ^ 20->WA B ρ fr σ s i xs (.ref p.1)
theorem ET(S:SR B ρ fr σ s){i:Nat}{xs:List V}{u:SX}(hg:σ.get i=Zj (.p_ xs))(ra:VR B ρ s.heap (aj ρ fr) (.ref i) u):WA B ρ fr σ s i xs u:=by
 obtain⟨p,hp,e2,vs,k,ho,hr⟩:=S.at hg (λh=>by cases h)
 obtain rfl:=aH hp ra
 exact .mk p vs k hp e2 ho hr ((Tt (xs:=vs)).symm.trans (cn hr)) (fM S hg)
theorem B9(S:SR B ρ fr σ s){i:Nat}{xs:List SQ}{u:SX}{as:List V}{us:List SX}(hg:σ.get i=Zj (.a_ xs))(ra:VR B ρ s.heap (aj ρ fr) (.ref i) u)(rs:k_ B ρ s.heap (aj ρ fr) as us):Wp B A ρ fr s (JC i xs as σ) (call (.builtin "list.pop") (u::us)) (aM B fr):=by
 obtain⟨p,vs,k,hp,e2,ho,hr,hs,ci⟩:=la S hg ra;clear ra hg;cases as with
 | nil=>
  unfold k_ at rs;subst rs;refine au λq hq => ?_
  obtain⟨x,xs'⟩:=q
  obtain rfl:=lK hq
  obtain⟨u1,u2,eu,h1,h2⟩:=nV hr;obtain⟨w,rfl,h3⟩:=PH.mp h2;rw[Ut]at ci hs;exact m0 S hp ho eu (by lia) (show xs'.length+_<=_ by lia) (λh' ow St k' ws ew hk=>⟨e2,ws,k',hk,by(refine b_ ew ?_);exact PRs.mono St _ _ h1⟩) λh' ow St=>by unfold VR;exact PR.mono St _ _ h3
 | cons v r=>
  refine aF λhz=>au λq hq => ?_
  rw[sO hz]at rs;obtain⟨w,rfl,hw⟩:=iw rs;obtain⟨t,rfl⟩:=l_.mp hw;obtain⟨x,xs'⟩:=q
  obtain rfl:=iX hq
  unfold PRs at hr;obtain⟨w,us',eu,h1,h2⟩:=hr;rw[Ug]at ci hs;exact xU S hp ho eu (by lia) (show xs'.length+_<=_ by lia) (λh' ow St k' ws ew hk=>⟨e2,ws,k',hk,by(refine b_ ew ?_);exact PRs.mono St _ _ h2⟩) λh' ow St=>by unfold VR;exact PR.mono St _ _ h1
theorem DY(S:SR B ρ fr σ s){i:Nat}{xs:List V}{u:SX}{as:List V}{us:List SX}(hg:σ.get i=Zj (.p_ xs))(ra:VR B ρ s.heap (aj ρ fr) (.ref i) u)(rs:k_ B ρ s.heap (aj ρ fr) as us):Wp B A ρ fr s (Jz i xs as σ) (call (.builtin "list.pop") (u::us)) (aM B fr):=by
 obtain⟨p,vs,k,hp,e2,ho,hr,hs,ci⟩:=ET S hg ra;clear ra hg;cases as with
 | nil=>
  unfold k_ at rs;subst rs;refine au λq hq => ?_
  obtain⟨x,xs'⟩:=q
  obtain rfl:=lK hq
  obtain⟨u1,u2,eu,h1,h2⟩:=nQ hr;obtain⟨w,rfl,h3⟩:=iw h2;rw[Ut]at ci hs;exact m0 S hp ho eu (by lia) (kR (show xs'.length+_<=_ by lia)) (λh' ow St k' ws ew hk=>n8 ⟨e2,ws,k',hk,by(refine b_ ew ?_);exact k_.mono (.refl _) St _ _ h1⟩) λh' ow St=>VR.mono (.refl _) St _ _ h3
 | cons v r=>trivial
theorem CN(S:SR B ρ fr σ s){o:V}{u:SX}{as:List V}{us:List SX}(ra:VR B ρ s.heap (aj ρ fr) o u)(rs:k_ B ρ s.heap (aj ρ fr) as us):Wp B A ρ fr s (JY o as σ) (call (.builtin "list.pop") (u::us)) (aM B fr):=by
 cases o with
 | ref i=>
  refine au λx hg => ?_
  cases x with
  | a_ xs=>exact B9 S hg ra rs
  | p_ xs=>exact DY S hg ra rs
  | _=>trivial
 | _=>trivial
end
end
section
open PySem PySem.W PyProof.Rows PyProof
section
variable{B:Base}{A:TV}{ρ:e_}{fr:List Tc}{σ:VS}{s:S9}{n:Nat}
theorem uz{σ:VS}{i j:Nat}{o:O}(h:i≠j):(σ.put j o).get i=σ.get i:=by
 show f9 (bb σ.o j o) i=f9 σ.o i
 refine b_ (bI ..) ?_;refine b_ (bI ..) ?_;refine b_ (aS ..) ?_;exact b_ (Us (Vd h) ..) rfl
theorem o6{σ:VS}{i j:Nat}{o:O}(h:(σ.put j .dead).get i=Zj o)(hd:o ≠ .dead):i≠j/\σ.get i=Zj o:=by
 by_cases e:i=j
 ·subst e
  exfalso
  have h':f9 (bb σ.o i .dead) i=Zj o:=h
  rw[bI,aS]at h'
  by_cases hl:i < σ.o.length
  ·rw[U7 hl]at h';cases h';exact hd rfl
  ·rw[List.getElem?_eq_none (by(refine b_ Wq ?_);exact Nat.le_of_not_lt hl)]at h';cases h'
 ·exact⟨e,by rw[uz e]at h;exact h⟩
inductive TP (B:Base) (ρ:e_) (fr:List Tc) (s:S9) (σ σ':VS) (P:e_->Prop):Prop
 | mk (ρ':e_):SR B ρ' fr σ' s->dR B ρ fr s ρ' s->ρ'.x=ρ.x->P ρ'->σ'.cap=σ.cap->σ'.x=σ.x->(∀ i o,σ'.get i=Zj o->o ≠ .dead->σ.get i=Zj o)->TP B ρ fr s σ σ' P
theorem nA(S:SR B ρ fr σ s){v:V}{u:SX}{q:SQ×VS}(r:VR B ρ s.heap (aj ρ fr) v u)(h:jp σ v=Zj q):TP B ρ fr s σ q.2 λρ'=>PR B s.heap (aj ρ' fr) q.1 u:=by
 cases v with
 | d x=>
  obtain rfl:(x,σ)=q:=Tf h
  unfold VR at r
  exact⟨ρ,S,dR.refl ..,rfl,r,rfl,rfl,λ_ _ e _=>e⟩
 | ref i=>
  obtain⟨xs,hg,h⟩:=aD (show ag (fS σ i) Zk (λxs=>Zj (.list xs,σ.put i .dead))=Zj q from h)
  obtain rfl:=Tf h
  obtain⟨p,vs,k,hp,e2,ho,hr,hs,ci⟩:=la S (bU hg) r;obtain⟨S',T,hown⟩:=S.die hp
  refine⟨_,S',T,rfl,?_,rfl,rfl,λi o e hd=>(o6 e hd).2⟩
  unfold PR
  exact⟨p.1,vs,k,rfl,hown _ (.inl rfl),ho,PRs.mono T.still _ _ hr,by exact XQ ci⟩
 | _=>exact nn h
theorem uh{vs:List V}:∀ {us:List SX} {q:List SQ×VS} {σ:VS} {ρ:e_},SR B ρ fr σ s->k_ B ρ s.heap (aj ρ fr) vs us->kL vs σ=Zj q->TP B ρ fr s σ q.2 λρ'=>PRs B s.heap (aj ρ' fr) q.1 us:=by
 induction vs with
 | nil=>
  intro us q σ ρ S r h
  obtain rfl:([],σ)=q:=Tf h
  unfold k_ at r;subst r
  exact⟨ρ,S,dR.refl ..,rfl,by unfold PRs;rfl,rfl,rfl,λ_ _ e _=>e⟩
 | cons v vs IH=>
  intro us q σ ρ S r h;unfold k_ at r;obtain⟨u,us',rfl,r1,r2⟩:=r;obtain⟨p1,h1,h⟩:=aD (show ag (jp σ v) Zk (λp=>ag (kL vs p.2) Zk λq=>Zj (p.1::q.1,q.2))=Zj q from h)
  obtain⟨p2,h2,h⟩:=aD h
  obtain rfl:=Tf h
  obtain⟨R0,S1,T1,x1,q1,c1,y1,g1⟩:=nA S r1 h1;obtain⟨PS,S2,T2,x2,q2,c2,y2,g2⟩:=IH S1 (k_.mono T1.goes T1.still _ _ r2) h2
  refine⟨PS,S2,T1.trans T2,x2.trans x1,?_,c2.trans c1,y2.trans y1,λi o e hd=>g1 i o (g2 i o e hd) hd⟩
  unfold PRs
  exact⟨u,us',rfl,PR.mono T2.still _ _ q1,q2⟩
theorem rz{α β:Type}{t:Xk β}{rel:α->e_->S9->β->Prop}{ρ':e_}{r:R α}(T:dR B ρ fr s ρ' s)(hx:ρ'.x=ρ.x)(W:Wp B A ρ' fr s r t rel):Wp B A ρ fr s r t rel:=by
 cases r with
 | no=>trivial
 | ok a σ'=>exact TJ W (λv s' ⟨PS,h1,h2,h3,h4⟩=>⟨PS,h1,T.trans h2,h3.trans hx,h4⟩) λ_ _ h=>h
 | exc σ'=>exact TJ W (λ_ _ h=>h) λe s' ⟨PS,q,h1,h2,h3,h4⟩=>⟨PS,q,h1,T.trans h2,h3,h4⟩
theorem gw(S:SR B ρ fr σ s){i:Nat}{p:Tc×List Tc}{vs:Array SX}{k:Nat}{u:SX}{O':O}(hp:ρ.m[i]? = Zj (Zj p))(ho:s.heap.get? p.1=Zj (bD "list" vs k))(hz:vs.size<=2 ^ 20)(hc:dL σ.cap O')
  (hO:∀ h' ow,Still s.heap (aj ρ fr) h' ow->∀ k' ws,ws.toList=vs.toList++[u]->h'.get? p.1=Zj (bD "list" ws k')->OR B ρ h' ow O' p) :
  Wp B A ρ fr s (.ok (.d .none) (σ.put i O')) (call (.builtin "list.append") [.ref p.1,u]) (aM B fr):=by
 refine Xa F.slot_list_append ⟨_,ho,rfl⟩ F.entry_list_append (F.args_list_append_2 _ _) (AutoListH.list_append_list_val_0 p.1 vs k u (by show _<=2 ^ 24;lia)) ⟨ho,?_⟩
 have key:=gj (O':=O') (f:=λxs=>xs.push u) (tk:=s.toks) S hp ho hc λh' St k' hk=>hO h' _ St k' _ (by simp) hk
 exact⟨ρ,key.1,key.2,rfl,M'.mpr rfl⟩
theorem rV{h:Tr}{ow:Tc->Prop}{xs:List SQ}{us:List SX}{x:SQ}{u:SX}(a:PRs B h ow xs us)(b:PR B h ow x u):PRs B h ow (xs++[x]) (us++[u]):=cT a (PH.mpr ⟨u,rfl,b⟩)
theorem H5{xs:List SQ}(h:Nm xs=Zm):xs=[]:=by
 cases xs with
 | nil=>rfl
 | cons=>exact Ti h
theorem kg{xs:List SQ}:O.a_ xs ≠ .dead:=λh=>by cases h
theorem tY(S:SR B ρ fr σ s){o v:V}{u w:SX}(ra:VR B ρ s.heap (aj ρ fr) o u)(rb:VR B ρ s.heap (aj ρ fr) v w):Wp B A ρ fr s (uN o v σ) (call (.builtin "list.append") [u,w]) (aM B fr):=by
 cases o with
 | ref i=>
  show Wp B A ρ fr s (σ.pay λs=>ag (jp s v) (JM i v s) λp=>Jx i p.1 p.2) _ _
  refine Il S λm hm S0 => ?_
  cases h1:jp ⟨σ.o,σ.x,m⟩ v with
  | some q=>
   obtain⟨R0,S1,T1,x1,p1,c1,y1,g1⟩:=nA S0 rb h1;refine au λxs hg => ?_
   have ci:xs.length+σ.cap<=2 ^ 20:=fM S (show σ.get i=Zj (.a_ xs)from g1 _ _ (bU hg) kg)
   obtain⟨p,vs,k,hp,e2,ho,hr,hs,_⟩:=la S1 (bU hg) (ra.mono T1.goes T1.still);refine rz T1 x1 (gw S1 hp ho (by rw[hs];exact XQ ci) ?_ λh' ow St k' ws ew hk=>⟨e2,ws,k',hk,by rw[ew];exact rV (PRs.mono St _ _ hr) (PR.mono St _ _ p1)⟩)
   show(xs++[q.1]).length+q.2.cap<=_
   rw[c1,Ut]
   show xs.length+1+m<=_
   lia
  | none=>
   refine au λxs hg=>aF λhx => ?_
   obtain rfl:=H5 hx
   obtain⟨p,vs,k,hp,e2,ho,hr,hs,_⟩:=la S0 (bU hg) ra;have hcs:m<=2 ^ 19:=S0.Os
   refine gw S0 hp ho (by rw[hs];exact U4 _) (show 1+m<=_ by lia) λh' ow St k' ws ew hk=>⟨e2,ws,k',hk,?_⟩
   rw[ew,(by rw[<- Xv,Tt];exact hs:vs.toList=[])]
   show k_ B ρ h' ow [v] [w]
   unfold k_ k_
   exact⟨w,[],rfl,VR.mono (.refl _) St _ _ rb,rfl⟩
 | _=>trivial
theorem jS(S:SR B ρ fr σ s){i:Nat}{p:Tc×List Tc}{vs ws:Array SX}{k k':Nat}{a:Tc}{O':O}(hp:ρ.m[i]? = Zj (Zj p))(ho:s.heap.get? p.1=Zj (bD "list" vs k))(ho':s.heap.get? a=Zj (bD "list" ws k'))(hz:vs.size+ws.size<=2 ^ 20)(hc:dL σ.cap O')
  (hO:∀ h' ow,Still s.heap (aj ρ fr) h' ow->∀ k' us,us.toList=vs.toList++ws.toList->h'.get? p.1=Zj (bD "list" us k')->OR B ρ h' ow O' p) :
  Wp B A ρ fr s (.ok (.d .none) (σ.put i O')) (call (.builtin "list.extend") [.ref p.1,.ref a]) (aM B fr):=by
 have e24:(sizeLine:Nat)=2 ^ 24:=rfl
 refine Xa F.slot_list_extend ⟨_,ho,rfl⟩ F.entry_list_extend (F.args_list_extend_2 _ _) (AutoSeq1.list_extend_list_list_0 p.1 vs k a ws k' ?_ (by lia) (by lia)) ⟨ho,ho',?_⟩
 ·unfold YT
  (refine b_ (decide_eq_false (by lia) ..) ?_;refine b_ (Bool.and_false ..) ?_);simp
 ·have key:=gj (O':=O') (f:=λxs=>xs++ws) (tk:=s.toks) S hp ho hc λh' St k' hk=>hO h' _ St k' _ (by simp) hk
  exact⟨ρ,key.1,key.2,rfl,M'.mpr rfl⟩
theorem Ev{α β:Type}{ρ:e_}{fr:List Tc}{s:S9}{c:Bool}{r:R α}{t:Xk β}{rel:α->e_->S9->β->Prop}(h:Wp B A ρ fr s r t rel):Wp B A ρ fr s (ac c .no r) t rel:=by
 cases c with
 | false=>exact h
 | true=>trivial
theorem Eg(S:SR B ρ fr σ s){i j:Nat}{x:O}{u w:SX}(hj:σ.get j=Zj x)(ra:VR B ρ s.heap (aj ρ fr) (.ref i) u)(rb:VR B ρ s.heap (aj ρ fr) (.ref j) w):Wp B A ρ fr s (Kw i j x σ) (call (.builtin "list.extend") [u,w]) (aM B fr):=by
 cases x with
 | a_ l=>
  refine Ev (pD S λhle S0=>au λxs hg => ?_)
  obtain⟨p,vs,k,hp,e2,ho,hr,hs,_⟩:=la S0 (bU hg) ra;obtain⟨q,ws,k',hq,f2,ho',hr',hs',_⟩:=la S hj rb;have ci:xs.length+σ.cap<=2 ^ 20:=fM S (show σ.get i=Zj (.a_ xs)from bU hg)
  rw[aJ]at hle;exact jS S0 hp ho ho' (by lia) (show(xs++l).length+(σ.cap - len l)<=_ by(refine b_ (Ut ..) ?_;refine b_ (aJ ..) ?_);lia) λh' ow St k' us eu hk=>⟨e2,us,k',hk,by(refine b_ (eu ..) ?_);exact cT (PRs.mono St _ _ hr) (PRs.mono St _ _ hr')⟩
 | p_ R9=>
  refine pD S λhle S0=>au λq1 h1=>au λxs hg=>au λ_ _ => ?_
  obtain⟨q,ws,k',hq,f2,ho',hr',hs2,_⟩:=ET S hj rb;obtain⟨R0,S1,T1,x1,p1,c1,y1,g1⟩:=uh S0 hr' h1;have ci:xs.length+σ.cap<=2 ^ 20:=fM S (show σ.get i=Zj (.a_ xs)from g1 _ _ (bU hg) kg)
  obtain⟨p,vs,k,hp,e2,ho,hr,hs,_⟩:=la S1 (bU hg) (ra.mono T1.goes T1.still);have hs':ws.size=q1.1.length:=(Tt (xs:=ws)).symm.trans (bq p1)
  rw[aJ]at hle;refine rz T1 x1 (jS S1 hp ho ho' (by lia) ?_ λh' ow St k' us eu hk=>⟨e2,us,k',hk,by(refine b_ eu ?_);exact cT (PRs.mono St _ _ hr) (PRs.mono St _ _ p1)⟩)
  show(xs++q1.1).length+q1.2.cap<=_
  refine b_ c1 ?_;refine b_ Ut ?_
  show xs.length+q1.1.length+(σ.cap - len R9)<=_
  (refine b_ (aJ ..) ?_);lia
 | _=>trivial
theorem tK(S:SR B ρ fr σ s){o v:V}{u w:SX}(ra:VR B ρ s.heap (aj ρ fr) o u)(rb:VR B ρ s.heap (aj ρ fr) v w):Wp B A ρ fr s (vN o v σ) (call (.builtin "list.extend") [u,w]) (aM B fr):=by
 cases o with
 | ref i=>
  cases v with
  | ref j=>exact au λx hj=>Eg S hj ra rb
  | _=>trivial
 | _=>trivial
end
end
section
open PySem PySem.W PyProof.Rows PyProof
section
variable{B:Base}{A:TV}{ρ:e_}{fr:List Tc}{σ:VS}{s:S9}{n:Nat}
theorem mX{h:Tr}{ow:Tc->Prop}{x:SQ}{xs:List SQ}{us:List SX}(r:PRs B h ow (x::xs) us)(a:hM (x::xs)=Zm):X3 λi t us'=>A4 (x = .int i) (us = .int i t::us') (PRs B h ow xs us') (hM xs=Zm):=by
 obtain⟨hx,a⟩:=av (show ac (kj x) (hM xs) Zn=Zm from a)
 obtain⟨i,rfl⟩:=qG hx;unfold PRs at r;obtain⟨u,us',rfl,h1,h2⟩:=r;unfold PR at h1;obtain⟨t,rfl⟩:=h1
 exact⟨i,t,us',rfl,rfl,h2,a⟩
def PI(j:Int)(us:List SX)(k:Nat):Prop:=(∃ t,us[k]? = Zj (SX.int j t))/\∀ q u,q < k->us[q]? = Zj u->X2 λi t=>u=SX.int i t/\i≠j
theorem PI.succ{j i:Int}{t:Tok}{us:List SX}{k:Nat}(h:PI j us k)(hn:i≠j):PI j (.int i t::us) (k+1):=by
 refine⟨h.1,λq u hq hu => ?_⟩
 cases q with
 | zero=>cases hu;exact⟨i,t,rfl,hn⟩
 | succ q=>exact h.2 q u (Vz hq) hu
theorem tE{h:Tr}{ow:Tc->Prop}{j:Int}{xs:List SQ}:∀ {us:List SX} {k m:Nat},PRs B h ow xs us->hM xs=Zm->findIdx j xs k=Zj m->∃ q,m=k+q/\PI j us q:=by
 induction xs with
 | nil=>exact λ_ _ h=>nn h
 | cons x xs ih=>
  intro us k m r a h;obtain⟨i,t,us',rfl,rfl,r',a'⟩:=mX r a;have h:ac (bR i j) (Zj k) (findIdx j xs (k+1))=Zj m:=h
  cases e:bR i j with
  | true=>
   rw[e]at h;cases h
   obtain rfl:i=j:=Vq ((bA ..).symm.trans e)
   exact⟨0,rfl,⟨t,rfl⟩,λq u hq=>absurd hq (W9 q)⟩
  | false=>
   rw[e]at h;obtain⟨q,rfl,H⟩:=ih r' a' h
   exact⟨q+1,TY k 1 q,H.succ λz=>by rw[z,ef]at e;cases e⟩
theorem B6{h:Tr}{ow:Tc->Prop}{xs:List SQ}:∀ {us:List SX},PRs B h ow xs us->hM xs=Zm->∀ u∈us,X2 λi t=>u = .int i t:=by
 induction xs with
 | nil=>intro us r _ u hu;unfold PRs at r;subst r;cases hu
 | cons x xs ih=>
  intro us r a u hu;obtain⟨i,t,us',rfl,rfl,r',a'⟩:=mX r a;cases hu with
  | head=>exact⟨i,t,rfl⟩
  | tail _ hu=>exact ih r' a' u hu
noncomputable def Mu(j:Int)(v:SX):Bool:=@SX.casesOn (λ_=>Bool) v Zn Zn Zn (λ_=>Zn) (λi _=>i==j) (λ_ _=>Zn) (λ_ _=>Zn) (λ_ _=>Zn) (λ_=>Zn) (λ_=>Zn) λ_=>Zn
theorem kH{o:V}{x:Tq}(h:BI o=Zj x):o = .d (.str x):=by
 cases o with
 | d y=>obtain rfl:=fg h;rfl
 | _=>exact nn h
theorem qd{xs:List SQ}{a:Tc}{vs:Array SX}{k m:Nat}{j:Int}{t:Tok}{R:SX->S9->Prop}{E:SX->S9->Prop}{ow:Tc->Prop}(ho:s.heap.get? a=Zj (bD "list" vs k))(hr:PRs B s.heap ow xs vs.toList)(hl:xs.length<=2 ^ 20)(ha:hM xs=Zm)(hm:findIdx j xs 0=Zj m)
  (q:R (.int m s.toks) { s with toks:=s.toks+1 }):wpAny B.M A (call (.builtin "list.index") [.ref a,.int j t]) R E s:=by
 obtain⟨q0,e0,⟨t',h4⟩,h6⟩:=tE hr ha hm
 obtain rfl:m=q0:=by rw[e0,XR]
 have hs:vs.size=xs.length:=(Tt (xs:=vs)).symm.trans (bq hr)
 have hm':m < vs.size:=by
  have:=(TF.mp h4).1
  rw[Tt]at this;exact this
 have hg:vs[m] = .int j t':=by
  rw[Ui,VJ hm']at h4;exact Tf h4
 refine Xa F.slot_list_index ⟨_,ho,rfl⟩ F.entry_list_index (F.args_list_index_2 _ _) (MeetsSeq.list_index a vs k (.int j t) (Mu j) (λy hy => ?_) m hm' (by lia) (by(refine b_ hg ?_);simp [Mu]) (λq hq R_ => ?_)) ⟨ho,?_⟩
 ·obtain⟨i,ti,rfl⟩:=B6 hr ha y (Array.mem_toList_iff.mpr hy);exact MeetsSeq.EqGives.int i j ti t
 ·obtain⟨i,ti,e,hne⟩:=h6 q vs[q] R_ (by(refine b_ Ui ?_;exact b_ (VJ hq) rfl))
  (refine b_ e ?_);simpa [Mu]using hne
 ·exact q
theorem yh(S:SR B ρ fr σ s){o v:V}{u w:SX}(ra:VR B ρ s.heap (aj ρ fr) o u)(rb:VR B ρ s.heap (aj ρ fr) v w):Wp B A ρ fr s (yT o v σ) (call (.builtin "list.index") [u,w]) (aM B fr):=
 au λx hx=>au λxs h1=>au λj hj=>aF λha=>au λm hm=>by
  obtain rfl:=ca hx
  obtain rfl:=iE h1
  obtain rfl:=db hj
  unfold VR PR at ra;obtain⟨a,vs,k,rfl,_,ho,hr,hl⟩:=ra;obtain⟨t,rfl⟩:=l_.mp rb;exact qd ho hr hl ha hm ⟨ρ,S.tok _,dR.toks B ρ fr s _,rfl,l_.mpr ⟨_,rfl⟩⟩
theorem mo{x:Option SQ}{y:Option SX}(f:O6 (PR B s.heap (aj ρ fr)) x y):VR B ρ s.heap (aj ρ fr) (.d (x.getD .none)) (y.getD .none):=by
 cases x with
 | none=>cases y with
  | none=>exact M'.mpr rfl
  | some=>exact f.elim
 | some x=>cases y with
  | none=>exact f.elim
  | some=>unfold VR;exact f
theorem DS(S:SR B ρ fr σ s){o v:V}{u w:SX}(ra:VR B ρ s.heap (aj ρ fr) o u)(rb:VR B ρ s.heap (aj ρ fr) v w):Wp B A ρ fr s (K2 o v σ) (call (.builtin "dict.get") [u,w]) (aM B fr):=
 au λx hx=>au λkvs h1=>au λy hy=>aF λhf=>by
  obtain rfl:=ca hx
  obtain rfl:=qh h1
  obtain rfl:=ca hy
  unfold VR PR at ra;obtain⟨d,rfl,hd,⟨hm,od,hod,hcd,_⟩,h1,h2,_⟩:=ra;have hT:s.TypeIs (.ref d) "dict":=⟨od,hod,hcd⟩
  rcases gz hf with ⟨y,rfl,hk⟩|⟨y,rfl,hk⟩
  ·obtain⟨l,hl,hr⟩:=h1 hk;obtain⟨t,rfl⟩:=D'.mp rb;exact call_meetsIn F.slot_dict_get hT F.entry_dict_get (F.args_dict_get_2 _ _) (meets_dict_get (strKind B.prog B.w) d (eW y t) (cW hm)) ⟨_,hl.mapOf,ρ,S.tok _,dR.toks B ρ fr s _,rfl,mo (i6 y hr)⟩
  ·obtain⟨l,hl,hr⟩:=h2 hk;obtain⟨t,rfl⟩:=l_.mp rb;exact call_meetsIn F.slot_dict_get hT F.entry_dict_get (F.args_dict_get_2 _ _) (meets_dict_get (intKind B.prog B.w) d (gx y t) (cW hm)) ⟨_,hl.mapOf,ρ,S.tok _,dR.toks B ρ fr s _,rfl,mo (iz y hr)⟩
theorem nq{h:Tr}{ow:Tc->Prop}:∀ {xs:List SQ} {us:List SX} {l:List Nat},PRs B h ow xs us->gH xs=Zj l->∃ ps:List (Tq×Tok),us=strValues ps/\(ps.map λp=>p.1.cps.toList).flatten=l
 | [],us,l,r,e=>by
  cases e;unfold PRs at r;subst r
  exact⟨[],rfl,rfl⟩
 | x::xs,us,l,r,e=>by
  unfold PRs at r;obtain⟨u,us',rfl,h1,h2⟩:=r;obtain⟨p,hp,q⟩:=aD (show ag (gY x) Zk (λp=>ag (gH xs) Zk λl=>Zj (p.cps.toList++l))=Zj l from e)
  clear e;obtain⟨l',hj,e⟩:=aD (show ag (gH xs) Zk (λl=>Zj (p.cps.toList++l))=Zj l from q)
  obtain rfl:=fg hp
  obtain rfl:=Tf e
  obtain⟨ps,rfl,e2⟩:=nq h2 hj;unfold PR at h1;obtain⟨t,rfl⟩:=h1
  exact⟨(p,t)::ps,rfl,by(refine b_ UJ ?_;refine b_ List.flatten_cons ?_;exact b_ e2 rfl)⟩
theorem kO:∀ l:List Tq,(Tq.join ⟨#[]⟩ l).cps.toList=(l.map λx=>x.cps.toList).flatten
 | []=>rfl
 | [x]=>by simp [Tq.join]
 | x::y::r=>by
  show((x++(⟨#[]⟩:Tq))++Tq.join ⟨#[]⟩ (y::r)).cps.toList=_
  refine b_ (Tq.cps_append ..) ?_;refine b_ (Tq.cps_append ..) ?_
  refine b_ (W6 ..) ?_;refine b_ (W6 ..) ?_;refine b_ ((kO (y::r) :) ..) ?_
  simp
theorem kN(sep:Nat):∀ (l:List Tq) (k:Nat),l.foldl (λa x=>a+x.length+sep) k=k+(l.map λx=>x.cps.toList).flatten.length+sep*l.length
 | [],k=>by simp
 | x::r,k=>by
  refine b_ (List.foldl_cons ..) ?_;refine b_ (kN sep r ..) ?_;refine b_ (UJ ..) ?_;refine b_ (List.flatten_cons ..) ?_;refine b_ (Ut ..) ?_;refine b_ (Ug ..) ?_
  have:x.length=x.cps.toList.length:=by(refine b_ (Tt ..) ?_);rfl
  (refine b_ (this ..) ?_;refine b_ (Nat.mul_succ ..) ?_);lia
theorem Ak{x:Tq}(h:F8 x.cps.toList=Zm):x=⟨#[]⟩:=by
 obtain⟨⟨l⟩⟩:=x;cases l with
 | nil=>rfl
 | cons=>exact Ti h
theorem v6{x:Tq}{l:List Nat}(e:x.cps.toList=l):x=⟨⟨l⟩⟩:=by subst e;rfl
set_option tactic.hygienic true in
theorem un{t:Tok}{a:Tc}{vs:Array SX}{k:Nat}{xs:List SQ}{l:List Nat}{ow:Tc->Prop}(ho:s.heap.get? a=Zj (bD "list" vs k))(hr:PRs B s.heap ow xs vs.toList)(hj:gH xs=Zj l)(hb:l.length < 1000){E:SX->S9->Prop}{R:SX->S9->Prop}
  (q:∀ t tk,R (.str ⟨⟨l⟩⟩ t) { s with toks:=tk }):wpAny B.M A (call (.builtin "str.join") [.str ⟨#[]⟩ t,.ref a]) R E s:=by
 obtain⟨ps,e1,e2⟩:=nq hr hj
 obtain rfl:vs=(strValues ps).toArray:=by rw[<- e1]
 have hlen:(ps.map (·.1)).toArray.foldl (·+·.length+(⟨#[]⟩:Tq).length) 0=l.length:=by
  rw[List.foldl_toArray']
  ·rw[kN];rw[List.map_map,<- e2]
   show 0+_+0*_=_
   rw[Nat.zero_mul];simp [Function.comp_def]
  ·simp
 refine Xa F.slot_str_join (typeIs_str s _ t) F.entry_str_join (F.args_str_join_2 _ _) (meets_str_join_list ⟨#[]⟩ t a ps (by
  rw[hlen];unfold Xy sizeLine;rw[decide_eq_false];lia)) ⟨⟨_,ho,rfl,_,rfl⟩,?_⟩
 unfold joinMade
 split
 ·rename_i p
  rw[v6 (x:=p.1) (l:=l) (by rw[<- e2];simp)]
  exact q _ _
 ·have eg:Vp.Str.glued ⟨#[]⟩ (ps.map (·.1))=⟨⟨l⟩⟩:=by
   rw[StrLaws.glued_eq_join];exact v6 (by rw[kO,List.map_map,<- e2];rfl)
  rw[eg]
  refine⟨?_,q _ _⟩
  show l.length<=2 ^ 24
  lia
theorem Aw(S:SR B ρ fr σ s){o v:V}{u w:SX}(ra:VR B ρ s.heap (aj ρ fr) o u)(rb:VR B ρ s.heap (aj ρ fr) v w):Wp B A ρ fr s (FE o v σ) (call (.builtin "str.join") [u,w]) (aM B fr):=
 au λx hx=>aF λhe=>au λxs hl=>au λl hj=>aF λhb=>by
  obtain rfl:=kH hx
  obtain rfl:=Ak he
  obtain⟨t,rfl⟩:=D'.mp ra;have hb:=cq hb
  rw[aJ]at hb;obtain⟨a,vs,k,ho,hr,_⟩:=fy S rb hl;exact un ho hr hj hb λt tk=>⟨ρ,S.tok tk,dR.toks B ρ fr s tk,rfl,D'.mpr ⟨t,rfl⟩⟩
end
end
section
open PySem PySem.W PyProof.Rows PyProof
section
variable{B:Base}{A:TV}{ρ:e_}{fr:List Tc}{σ:VS}{s:S9}{n:Nat}
def dp(B:Base)(A:TV)(ρ:e_)(fr:List Tc)(s:S9)(r:R V)(u v:SX):Prop:=
 r ≠ .no->(X2 λT id=>typeLookup (.type T) "__getitem__"=pure (Zj (.builtin id))/\s.TypeIs u T)/\Wp B A ρ fr s r (PySem.getItem u v) (aM B fr)
inductive Q5 (k:Int) (m j:Nat):Prop
 | mk : -(2 ^ 63)<=k->k < 2 ^ 63->seqIndex? k m=Zj j->((0<=k/\k.toNat=j)\/(k < 0 /\ -(m:Int)<=k/\(k+m).toNat=j))->Q5 k m j
theorem jb{j m:Nat}(hj:j < m):seqIndex? (j:Int) m=Zj j:=by
 unfold seqIndex?
 simp [(by exact Int.not_ofNat_neg j:¬ ((j:Int) < 0)),hj]
theorem BK{k:Int}{m j:Nat}(h:idx k m=Zj j)(hj:j < m):Q5 k m j:=by
 cases k with
 | ofNat a=>
  obtain⟨hb,h⟩:=cQ (show ac (U9 a 1000000) (Zj a) Zk=Zj j from h)
  obtain rfl:=Tf h
  have hb:=cH hb
  exact⟨by show -(2 ^ 63)<=(a:Int);exact Int.neg_ofNat_le_natCast (2 ^ 63) a,by show(a:Int) < 2 ^ 63;lia,jb hj,.inl ⟨Xl a,rfl⟩⟩
 | negSucc a=>
  obtain⟨hlt,h⟩:=cQ (show ac (Vx a m) (ac (U9 a 1000000) (Zj (m - (a+1))) Zk) Zk=Zj j from h)
  obtain⟨hb,h⟩:=cQ h
  obtain rfl:=Tf h
  have hlt:=cq hlt
  have hb:=cH hb
  have e:(Int.negSucc a:Int) = -((a:Int)+1):=by exact Int.negSucc_eq a
  refine⟨by lia,by lia,?_,.inr ⟨by exact Int.negSucc_lt_zero a,by lia,by lia⟩⟩
  refine b_ (PySem.MeetsSeq.seqIndex_neg (by exact Int.negSucc_lt_zero a) (by lia)) ?_
  congr 1;lia
theorem ve{i:Int}{n:Nat}(h:Iz i=Zj n):i=(n:Int):=by
 cases i with
 | ofNat m=>exact congrArg Tn (Tf h)
 | negSucc m=>exact nn h
theorem vr{x:SQ}{n:Nat}(h:Gl x=Zj n):x = .int (n:Int):=by
 obtain⟨i,hi,h⟩:=aD h;refine b_ (dq hi) ?_;exact b_ (ve h) rfl
theorem fv{α:Type}{o:Option α}{f:α->R V}{u v:SX}(h:∀ a,o=Zj a->dp B A ρ fr s (f a) u v):dp B A ρ fr s (ag o .no f) u v:=by
 cases o with
 | none=>exact λhn=>absurd rfl hn
 | some a=>exact h a rfl
theorem Ic{α:Type}{l:List α}{j:Nat}{x:α}(h:f9 l j=Zj x):j < l.length:=by rw[bI]at h;exact(TF.mp h).1
theorem vV{h:Tr}{ow:Tc->Prop}:∀ {xs:List SQ} {us:List SX} {j:Nat} {x:SQ},PRs B h ow xs us->f9 xs j=Zj x->∃ u,us[j]? = Zj u/\PR B h ow x u
 | [],us,j,x,r,e=>by cases e
 | y::xs,us,j,x,r,e=>by
  unfold PRs at r;obtain⟨u,us',rfl,h1,h2⟩:=r;cases j with
  | zero=>cases e;exact⟨u,rfl,h1⟩
  | succ j=>
   obtain⟨w,hw,hr⟩:=vV h2 (e:f9 xs j=Zj x)
   exact⟨w,by rw[List.getElem?_cons_succ];exact hw,hr⟩
theorem u4{h:Tr}{ow:Tc->Prop}:∀ {xs:List V} {us:List SX} {j:Nat} {x:V},k_ B ρ h ow xs us->f9 xs j=Zj x->∃ u,us[j]? = Zj u/\VR B ρ h ow x u
 | [],us,j,x,r,e=>by cases e
 | y::xs,us,j,x,r,e=>by
  unfold k_ at r;obtain⟨u,us',rfl,h1,h2⟩:=r;cases j with
  | zero=>cases e;exact⟨u,rfl,h1⟩
  | succ j=>
   obtain⟨w,hw,hr⟩:=u4 h2 (e:f9 xs j=Zj x)
   exact⟨w,by(refine b_ List.getElem?_cons_succ ?_);exact hw,hr⟩
theorem qs{a:Tc}{vs:Array SX}{c:Nat}{k:Int}{t:Tok}{m j:Nat}{w:SX}{E:SX->S9->Prop}{Q:SX->S9->Prop}(ho:s.heap.get? a=Zj (bD "list" vs c))(hi:idx k m=Zj j)(hm:vs.size=m)(hw:vs.toList[j]? = Zj w)(q:Q w s) :
  wpAny B.M A (PySem.getItem (.ref a) (.int k t)) Q E s:=by
 have hj:j < m:=by(refine A' hm ?_;refine A' Tt ?_);exact(TF.mp hw).1
 rw[Ui]at hw;obtain⟨h1,h2,_,⟨h3,h4⟩|⟨h3,h4,h5⟩⟩:=BK hi hj
 ·exact wpAny_getItem_list ⟨_,ho,rfl,_,rfl⟩ h3 h2 (by(refine b_ h4 ?_);exact hw) q
 ·exact wpAny_getItem_list_neg ⟨_,ho,rfl,_,rfl⟩ h3 (by(refine b_ hm ?_);exact h4) h1 (by(refine b_ hm ?_;refine b_ h5 ?_);exact hw) q
theorem vw{a:Tc}{vs:Array SX}{c:Nat}{k:Int}{t:Tok}{m j:Nat}{w:SX}{E:SX->S9->Prop}{Q:SX->S9->Prop}(ho:s.heap.get? a=Zj (bD "tuple" vs c))(hi:idx k m=Zj j)(hm:vs.size=m)(hw:vs.toList[j]? = Zj w)(q:Q w s) :
  wpAny B.M A (PySem.getItem (.ref a) (.int k t)) Q E s:=by
 have hj:j < m:=by(refine A' hm ?_;refine A' Tt ?_);exact(TF.mp hw).1
 rw[Ui]at hw;obtain⟨h1,h2,h3,_⟩:=BK hi hj;exact Rows.getItem_tuple ⟨_,ho,rfl,_,rfl⟩ h1 h2 (by(refine b_ hm ?_);exact h3) hw q
theorem wC:∃ id,typeLookup (.type "list") "__getitem__"=pure (Zj (.builtin id)):=⟨_,slot_list_getitem.lookup⟩
theorem FO:∃ id,typeLookup (.type "tuple") "__getitem__"=pure (Zj (.builtin id)):=⟨_,F.slot_tuple_getitem.lookup⟩
theorem Fy:∃ id,typeLookup (.type "dict") "__getitem__"=pure (Zj (.builtin id)):=⟨_,slot_dict_getitem.lookup⟩
theorem ES:∃ id,typeLookup (.type "str") "__getitem__"=pure (Zj (.builtin id)):=⟨_,F.slot_str_getitem.lookup⟩
theorem lx(S:SR B ρ fr σ s){xs:List SQ}{k:Int}{t:Tok}{a:Tc}{vs:Array SX}{c:Nat}{T:String}(hT:T="list"\/T="tuple")(ho:s.heap.get? a=Zj (bD T vs c))(hr:PRs B s.heap (aj ρ fr) xs vs.toList) :
  dp B A ρ fr s (qm xs k σ) (.ref a) (.int k t):=by
 intro _;have hs:vs.size=xs.length:=(Tt (xs:=vs)).symm.trans (bq hr)
 refine⟨?_,?_⟩
 ·rcases hT with rfl|rfl
  ·obtain⟨id,h⟩:=wC;exact⟨_,id,h,_,ho,rfl⟩
  ·obtain⟨id,h⟩:=FO;exact⟨_,id,h,_,ho,rfl⟩
 ·unfold qm;cases hi:idx k (len xs) with
  | none=>trivial
  | some j=>
   refine b_ (gA ..) ?_
   cases hn:f9 xs j with
   | none=>trivial
   | some x=>
    refine b_ (gA ..) ?_
    obtain⟨w,hw,hp⟩:=vV hr hn;rw[aJ]at hi;refine Wp.O5 S ?_
    rcases hT with rfl|rfl
    ·exact qs ho hi hs hw ⟨s.toks,rfl,by show VR B _ _ _ _ _;unfold VR;exact hp⟩
    ·exact vw ho hi hs hw ⟨s.toks,rfl,by show VR B _ _ _ _ _;unfold VR;exact hp⟩
theorem rG(S:SR B ρ fr σ s){xs:List V}{k:Int}{t:Tok}{a:Tc}{vs:Array SX}{c:Nat}{T:String}(hT:T="list"\/T="tuple")(ho:s.heap.get? a=Zj (bD T vs c))(hr:k_ B ρ s.heap (aj ρ fr) xs vs.toList) :
  dp B A ρ fr s (u8 xs k σ) (.ref a) (.int k t):=by
 intro _;have hs:vs.size=xs.length:=(Tt (xs:=vs)).symm.trans (cn hr)
 refine⟨?_,?_⟩
 ·rcases hT with rfl|rfl
  ·obtain⟨id,h⟩:=wC;exact⟨_,id,h,_,ho,rfl⟩
  ·obtain⟨id,h⟩:=FO;exact⟨_,id,h,_,ho,rfl⟩
 ·unfold u8;cases hi:idx k (len xs) with
  | none=>trivial
  | some j=>
   refine b_ (gA ..) ?_
   cases hn:f9 xs j with
   | none=>trivial
   | some x=>
    refine b_ (gA ..) ?_
    obtain⟨w,hw,hp⟩:=u4 hr hn;rw[aJ]at hi;refine Wp.O5 S ?_
    rcases hT with rfl|rfl
    ·exact qs ho hi hs hw ⟨s.toks,rfl,hp⟩
    ·exact vw ho hi hs hw ⟨s.toks,rfl,hp⟩
set_option tactic.hygienic true in
theorem Bx(S:SR B ρ fr σ s){x:Tq}{k:Int}{t t':Tok}:dp B A ρ fr s (Ff x k σ) (.str x t) (.int k t'):=by
 intro _
 refine⟨by obtain⟨id,h⟩:=ES;exact⟨"str",id,h,typeIs_str s x t⟩,?_⟩
 refine au λm hm=>aF λhb=>au λc hn => ?_
 have hb:=cH hb
 have hl:=Ic hn
 rw[Tt]at hl;rw[bI,Ui]at hn;refine b_ (ve hm) ?_
 refine Wp.O5 S (Rows.getItem_str (c:=c) (by(refine b_ (decide_eq_false (by exact of_decide_eq_false rfl)) ?_;refine b_ (decide_eq_false (by lia)) ?_);rfl) ?_ ⟨_,rfl,D'.mpr ⟨_,rfl⟩⟩)
 (refine b_ (show seqIndex? (m:Int) x.length=Zj m from jb hl) ?_);exact hn
theorem yR(S:SR B ρ fr σ s){kvs:List (SQ×SQ)}{k:SQ}{u v:SX}(ra:PR B s.heap (aj ρ fr) (.dict kvs) u)(rk:PR B s.heap (aj ρ fr) k v):dp B A ρ fr s (Fk kvs k σ) u v:=by
 intro _;unfold PR at ra;obtain⟨d,rfl,hd,⟨hm,o,ho,hc,_⟩,h1,h2,_⟩:=ra
 refine⟨by obtain⟨id,h⟩:=Fy;exact⟨"dict",id,h,_,ho,hc⟩,?_⟩
 refine aF λhf=>au λx hg => ?_
 rcases gz hf with ⟨y,rfl,hk⟩|⟨y,rfl,hk⟩
 ·obtain⟨l,hl,hr⟩:=h1 hk;unfold PR at rk;obtain⟨t,rfl⟩:=rk;have f:=i6 y hr
  rw[hg]at f;cases hv:valueAt l y with
  | none=>rw[hv]at f;exact f.elim
  | some w=>rw[hv]at f;exact Wp.O5 S (Ye (eW y t) hl.mapOf hv ⟨_,rfl,by show VR B _ _ _ _ _;unfold VR;exact f⟩)
 ·obtain⟨l,hl,hr⟩:=h2 hk;unfold PR at rk;obtain⟨t,rfl⟩:=rk;have f:=iz y hr
  rw[hg]at f;cases hv:valueAt l y with
  | none=>rw[hv]at f;exact f.elim
  | some w=>rw[hv]at f;exact Wp.O5 S (Ye (gx y t) hl.mapOf hv ⟨_,rfl,by show VR B _ _ _ _ _;unfold VR;exact f⟩)
theorem y9(S:SR B ρ fr σ s)(hu:A.units+2 < cLine){kvs:List (SQ×V)}{k:SQ}{p:Tc×List Tc}{v:SX}(ra:OR B ρ s.heap (aj ρ fr) (.dict kvs) p)(rk:PR B s.heap (aj ρ fr) k v):dp B A ρ fr s (E4 kvs k σ) (.ref p.1) v:=by
 intro _;obtain⟨_,hm,⟨o,ho,hc,_⟩,h1,h2,h3,_⟩:=ra
 refine⟨by obtain⟨id,h⟩:=Fy;exact⟨"dict",id,h,_,ho,hc⟩,?_⟩
 refine aF λhf=>au λx hg => ?_
 rcases ia hf with ⟨y,rfl,hk⟩|⟨y,rfl,hk⟩|⟨y,z,rfl,hk⟩
 ·obtain⟨l,hl,hr⟩:=h1 hk;unfold PR at rk;obtain⟨t,rfl⟩:=rk;have f:=oH y hr
  rw[hg]at f;cases hv:valueAt l y with
  | none=>rw[hv]at f;exact f.elim
  | some w=>rw[hv]at f;exact Wp.O5 S (Ye (eW y t) hl.mapOf hv ⟨_,rfl,f⟩)
 ·obtain⟨l,hl,hr⟩:=h2 hk;unfold PR at rk;obtain⟨t,rfl⟩:=rk;have f:=pX y hr
  rw[hg]at f;cases hv:valueAt l y with
  | none=>rw[hv]at f;exact f.elim
  | some w=>rw[hv]at f;exact Wp.O5 S (Ye (gx y t) hl.mapOf hv ⟨_,rfl,f⟩)
 ·obtain⟨l,hl,hr⟩:=h3 hk;obtain⟨q,rfl,_,hq⟩:=pF rk;have f:=oe y z hr
  rw[hg]at f;have room:(tupleKind (strKind B.prog B.w)).room A.in1:=by show A.units+1 < cLine;exact Nat.lt_of_succ_lt hu
  cases hv:atKey l [y,z] with
  | none=>rw[hv]at f;exact f.elim
  | some w=>rw[hv]at f;exact Wp.O5 S (wpAny_getItem_heap room hq hl hv ⟨_,rfl,f⟩)
theorem gN{u v:SX}{k:SQ}{f:Int->R V}(rk:PR B s.heap (aj ρ fr) k v)(h:∀ i t,dp B A ρ fr s (f i) u (.int i t)):dp B A ρ fr s (ag (cS k) .no f) u v:=fv λi hi=>by
 rw[dq hi]at rk;obtain⟨t,e⟩:∃ t,v = .int i t:=rk
 exact e▸h i t
theorem zg(S:SR B ρ fr σ s)(hu:A.units+2 < cLine){j:Nat}{x:O}{k:SQ}{u v:SX}(hg:σ.get j=Zj x)(ra:VR B ρ s.heap (aj ρ fr) (.ref j) u)(rk:PR B s.heap (aj ρ fr) k v):dp B A ρ fr s (FT x k σ) u v:=by
 cases x with
 | dict kvs=>
  obtain⟨p,hp,ro⟩:=S.at hg (λh=>by cases h)
  refine b_ (aH hp ra) ?_
  exact y9 S hu ro rk
 | a_ xs=>
  obtain⟨p,hp,e2,vs,c,ho,hr⟩:=S.at hg (λh=>by cases h)
  refine b_ (aH hp ra) ?_
  exact gN rk λi t=>lx S (.inl rfl) ho hr
 | p_ xs=>
  obtain⟨p,hp,e2,vs,c,ho,hr⟩:=S.at hg (λh=>by cases h)
  refine b_ (aH hp ra) ?_
  exact gN rk λi t=>rG S (.inl rfl) ho hr
 | _=>exact λhn=>absurd rfl hn
theorem zz(S:SR B ρ fr σ s){x k:SQ}{u v:SX}(ra:PR B s.heap (aj ρ fr) x u)(rk:PR B s.heap (aj ρ fr) k v):dp B A ρ fr s (Fv x k σ) u v:=by
 cases x with
 | dict kvs=>exact yR S ra rk
 | list xs=>
  unfold PR at ra;obtain⟨a,vs,c,rfl,_,ho,hr,_⟩:=ra;exact gN rk λi t=>lx S (.inl rfl) ho hr
 | tuple xs=>
  unfold PR at ra;obtain⟨a,vs,c,rfl,_,ho,hr⟩:=ra;exact gN rk λi t=>lx S (.inr rfl) ho hr
 | str x=>
  unfold PR at ra;obtain⟨t',rfl⟩:=ra;exact gN rk λi t=>Bx S
 | _=>exact λhn=>absurd rfl hn
theorem uL(S:SR B ρ fr σ s)(hu:A.units+2 < cLine){o i:V}{u v:SX}(ra:VR B ρ s.heap (aj ρ fr) o u)(rb:VR B ρ s.heap (aj ρ fr) i v):dp B A ρ fr s (Mine.getItem o i σ) u v:=fv λk hk=>by
 rw[ca hk]at rb;unfold VR at rb;cases o with
 | ref j=>exact fv λx hx=>zg S hu hx ra rb
 | d x=>unfold VR at ra;exact zz S ra rb
 | tup vs=>
  unfold VR at ra;obtain⟨a,vs,c,rfl,_,ho,hr⟩:=ra;exact gN rb λi t=>rG S (.inr rfl) ho hr
 | _=>exact λhn=>absurd rfl hn
end
end
section
open PySem
theorem zq{prog:VF}{w:V1}{A:TV}{s:S9}{l:Tc}{items:Array SX}{c:Nat}{k:Int}{t:Tok}{v:SX}{E:SX->S9->Prop}{Q:Unit->S9->Prop}(ho:s.heap.get? l=Zj { cls := .type "list",dict:=Zk,data := .seq items c,slots:=#[] })
  (hf:YC k=Zm) (h0:0<=k) (hj:k < items.size)
  (q:Q () { s with heap:=s.heap.update l (YL λxs=>xs.setIfInBounds k.toNat v) }):wpAny (model prog w) A (PySem.setItem (.ref l) (.int k t) v) Q E s:=by
 have hl:s.heap.IsList l items:=⟨_,ho,rfl,_,rfl⟩
 unfold PySem.setItem;refine Ua ?_
 refine S8 (wpAny_sequenceKey hl.typeIs (by decide) ?_)
 refine S8 (WL (name:=V5 "__setitem__") hl.typeIs slot_list_setitem
  (Yg slot_list_setitem hl.typeIs entry_list_setitem ?_ (args_list_setitem _ _ _)))
 show wpAny _ _ (Vp.List.listSubscript? (.int k t) >>= _) _ _ s
 refine S8 (wpAny_listSubscript_int hf ?_)
 clear hf;obtain⟨j,rfl⟩:=Int.eq_ofNat_of_zero_le h0;have hj:j < items.size:=by exact Int.ofNat_lt.mp hj
 have hx':items[j]? = Zj items[j]:=VJ hj
 show wpAny _ _ ((seqItemAt l j >>= λr=>pure (r.map (j,·))) >>= _) _ _ s
 refine S8 (S8 (wpAny_seqItemAt ho rfl (Tg ?_)))
 refine b_ hx' ?_
 show wpAny _ _ (setSeqItemAt l j v >>= _) _ _ s
 refine S8 (wpAny_setSeqItemAt ho rfl ?_)
 first
  | exact S8 (Tg (Tg ⟨.none,rfl,Tg q⟩))
  | exact Tg ⟨.none,rfl,Tg q⟩
open PySem PySem.W PyProof.Rows PyProof
section
variable{B:Base}{ρ:e_}{h:Tr}{ow:Tc->Prop}
theorem jL{K:Type}[DecidableEq K]{y k:K}{u v:SX}{r:List (K×SX)}(hn:(((y,u)::r).map (·.1)).Nodup):stored ((y,u)::r) k v=if y=k then (y,v)::r else (y,u)::stored r k v:=by
 rw[UJ,Vk]at hn;unfold stored
 by_cases e:y=k
 ·subst e;have hr:r.map (λkv=>if kv.1=y then (kv.1,v) else kv)=r:=by
   refine(List.map_congr_left λq hq => ?_).trans (List.map_id r)
   have:q.1≠y:=λe=>hn.1 (Xd.mpr ⟨q,hq,e⟩)
   (refine b_ (if_neg this) ?_);rfl
  simp [hr]
 ·simp only[List.any_cons,e,decide_false,Bool.false_or,if_false,UJ]
  split<;>simp
theorem lV{K:Type}[DecidableEq K]{k:K}{v:SX}:stored ([]:List (K×SX)) k v=[(k,v)]:=by unfold stored;simp
theorem u9(k:Tq){v:V}{u:SX}(hv:VR B ρ h ow v u):∀ {kvs:List (SQ×V)} {l:List (Tq×SX)},(l.map (·.1)).Nodup->C_ B ρ h ow kvs l->C_ B ρ h ow (cm kvs (.str k) v) (stored l k u)
 | [],l,hn,r=>by
  unfold C_ at r;subst r;refine b_ (lV ..) ?_
  show C_ B ρ h ow [(.str k,v)] _
  unfold C_ C_
  exact⟨k,u,[],rfl,rfl,hv,rfl⟩
 | (q,w)::r,l,hn,x=>by
  unfold C_ at x;obtain⟨y,u',l',rfl,rfl,h1,h2⟩:=x;refine b_ (cU ..) ?_;refine b_ (jL hn ..) ?_;refine b_ (kD ..) ?_
  by_cases e:y=k
  ·subst e;refine b_ (aQ ..) ?_;refine b_ (if_pos rfl ..) ?_
   show C_ B ρ h ow ((.str y,v)::r) _
   unfold C_
   exact⟨y,u,l',rfl,rfl,hv,h2⟩
  ·(refine b_ (aV e ..) ?_;refine b_ (if_neg e ..) ?_)
   show C_ B ρ h ow ((.str y,w)::cm r (.str k) v) _
   unfold C_;rw[UJ,Vk]at hn
   exact⟨y,u',_,rfl,rfl,h1,u9 k hv hn.2 h2⟩
theorem wF(k:Int){v:V}{u:SX}(hv:VR B ρ h ow v u):∀ {kvs:List (SQ×V)} {l:List (Int×SX)},(l.map (·.1)).Nodup->G' B ρ h ow kvs l->G' B ρ h ow (cm kvs (.int k) v) (stored l k u)
 | [],l,hn,r=>by
  unfold G' at r;subst r;refine b_ (lV ..) ?_
  show G' B ρ h ow [(.int k,v)] _
  unfold G' G'
  exact⟨k,u,[],rfl,rfl,hv,rfl⟩
 | (q,w)::r,l,hn,x=>by
  unfold G' at x;obtain⟨y,u',l',rfl,rfl,h1,h2⟩:=x;refine b_ (cU ..) ?_;refine b_ (jL hn ..) ?_;refine b_ (oB ..) ?_
  by_cases e:y=k
  ·subst e;refine b_ (ef ..) ?_;refine b_ (if_pos rfl ..) ?_
   show G' B ρ h ow ((.int y,v)::r) _
   unfold G'
   exact⟨y,u,l',rfl,rfl,hv,h2⟩
  ·(refine b_ (lr e ..) ?_;refine b_ (if_neg e ..) ?_)
   show G' B ρ h ow ((.int y,w)::cm r (.int k) v) _
   unfold G';rw[UJ,Vk]at hn
   exact⟨y,u',_,rfl,rfl,h1,wF k hv hn.2 h2⟩
theorem oQ{K:Type}[DecidableEq K]{y k:K}{p:Tc×SX}{a:Tc}{v:SX}{r:List (K×Tc×SX)}(hn:(((y,p)::r).map (·.1)).Nodup):storedH ((y,p)::r) k a v=if y=k then (y,p.1,v)::r else (y,p)::storedH r k a v:=by
 rw[UJ,Vk]at hn;unfold storedH;refine b_ (lP ..) ?_
 by_cases e:y=k
 ·subst e;rw[if_pos rfl,if_pos rfl,Option.isSome_some,if_pos rfl,UJ,map_putAt_of_not_mem _ _ _ hn.1]
  simp [putAt]
 ·(refine b_ (if_neg e ..) ?_;refine b_ (if_neg e ..) ?_)
  split
  ·(refine b_ (UJ ..) ?_);simp [putAt,e]
  ·rfl
theorem vR(x y:Tq){v:V}{u:SX}{a:Tc}(ha:¬ ow a)(hv:VR B ρ h ow v u):∀ {kvs:List (SQ×V)} {l:List (List Tq×Tc×SX)},(l.map (·.1)).Nodup->N_ B ρ h ow kvs l->N_ B ρ h ow (cm kvs (.tuple [.str x,.str y]) v) (storedH l [x,y] a u)
 | [],l,hn,r=>by
  unfold N_ at r;subst r
  show N_ B ρ h ow [(.tuple [.str x,.str y],v)] [([x,y],a,u)]
  unfold N_ N_
  exact⟨x,y,a,u,[],rfl,rfl,ha,hv,rfl⟩
 | (q,w)::r,l,hn,z=>by
  unfold N_ at z;obtain⟨b,c,a',u',l',rfl,rfl,ha',h1,h2⟩:=z;refine b_ (cU ..) ?_;refine b_ (oQ hn ..) ?_;refine b_ (vm ..) ?_
  by_cases e:[b,c]=[x,y]
  ·(refine b_ (decide_eq_true e ..) ?_;refine b_ (if_pos e ..) ?_)
   show N_ B ρ h ow ((.tuple [.str b,.str c],v)::r) _
   unfold N_
   exact⟨b,c,a',u,l',rfl,rfl,ha',hv,h2⟩
  ·(refine b_ (decide_eq_false e ..) ?_;refine b_ (if_neg e ..) ?_)
   show N_ B ρ h ow ((.tuple [.str b,.str c],w)::cm r (.tuple [.str x,.str y]) v) _
   unfold N_;rw[UJ,Vk]at hn
   exact⟨b,c,a',u',_,rfl,rfl,ha',h1,vR x y ha hv hn.2 h2⟩
theorem ix{f:SQ->Bool}{k:SQ}(hk:f k=Zm)(v:V):∀ {kvs:List (SQ×V)},be f kvs=Zm->be f (cm kvs k v)=Zm
 | [],_=>by show be f [(k,v)]=Zm;(refine b_ (dX ..) ?_;refine b_ (hk ..) ?_);rfl
 | (q,w)::r,a=>by
  obtain⟨a1,a2⟩:=cA a;refine b_ (cU ..) ?_
  cases pZ q k with
  | true=>show be f ((q,v)::r)=Zm;(refine b_ (dX ..) ?_;refine b_ (a1 ..) ?_);exact a2
  | false=>show be f ((q,w)::cm r k v)=Zm;(refine b_ (dX ..) ?_;refine b_ (a1 ..) ?_);exact ix hk v a2
theorem nj{k:SQ}{v:V}:∀ kvs:List (SQ×V),(cm kvs k v).length<=kvs.length+1
 | []=>UG _
 | (q,w)::r=>by
  refine b_ (cU ..) ?_
  cases pZ q k with
  | true=>show(_::r).length<=_;simp
  | false=>have:=nj (k:=k) (v:=v) r;show(_::cm r k v).length<=_;simp;exact W7.mp this
theorem qx{kvs:List (SQ×V)}{l:List (List Tq×Tc×SX)}{a:Tc}(hm:a≠sysModules)(hk:be yj kvs=Zm)(hne:kvs≠[])(hd:h.DictOfH (tupleKind (strKind B.prog B.w)) a l)(hr:N_ B ρ h ow kvs l)(hz:kvs.length<=1000) :
  OR B ρ h ow (.dict kvs) (a,[]):=by
 refine⟨rfl,hm,?_,λh2=>absurd (lM h2 hk) hne,λh2=>absurd (ml h2 hk) hne,λ_=>⟨l,hd,hr⟩,hz⟩
 obtain⟨o,es,ep,ho,hx,_⟩:=hd
 exact⟨o,ho,hx.1,hx.2.1⟩
theorem BJ{k:SQ}{v:V}:∀ kvs:List (SQ×V),cm kvs k v≠[]
 | [],h=>by cases h
 | (q,w)::r,h=>by
  rw[cU]at h;cases e:pZ q k<;>(rw[e]at h;cases h)
end
section
variable{B:Base}{A:TV}{ρ:e_}{fr:List Tc}{σ:VS}{s:S9}{n:Nat}
def rj{α β:Type}(_:α)(_:e_)(_:S9)(_:β):Prop:=True
theorem iy(S:SR B ρ fr σ s){i:Nat}{p:Tc×List Tc}{oa:V3}{O':O}{h':Tr}{tk:Nat}(hp:ρ.m[i]? = Zj (Zj p))(hoa:s.heap.get? p.1=Zj oa)(hcl:Plain oa)
  (hs:Tr.SameBut p.1 s.heap h') (hth:∃ o',h'.get? p.1=Zj o') (hc:dL σ.cap O') (hO:Still s.heap (aj ρ fr) h' (aj ρ fr)->OR B ρ h' (aj ρ fr) O' p) :
  SR B ρ fr (σ.put i O') { s with heap:=h',toks:=tk }/\dR B ρ fr s ρ { s with heap:=h',toks:=tk }:=
 S.upd (s':={ s with heap:=h',toks:=tk }) (a:=p.1) hp (.inl rfl) hoa hcl (λb o hb e=>(hs.2 b hb).trans e) hth rfl rfl (λSt _=>hO St) hc
theorem fX{K:Type}[DecidableEq K]{h:Tr}{knd:PySem.KeyKind B.prog B.w K}{a:Tc}{l:List (K×SX)}(x:h.DictOf knd a l):(∃ o,h.get? a=Zj o/\Plain o)/\(l.map (·.1)).Nodup:=
 by obtain⟨o,_,_,ho,he,hd,_,_,hn⟩:=x;exact⟨⟨o,ho,Plain.Pm hd⟩,hn⟩
theorem qC{h:Tr}{knd:HeapKind B.prog B.w (List Tq)}{a:Tc}{l:List (List Tq×Tc×SX)}(x:h.DictOfH knd a l):(∃ o,h.get? a=Zj o/\Plain o)/\(l.map (·.1)).Nodup:=
 by obtain⟨o,_,_,ho,he,hd,_,_,hn⟩:=x;exact⟨⟨o,ho,Plain.Pm hd⟩,hn⟩
theorem vH{h:Tr}{ow:Tc->Prop}:∀ {kvs:List (SQ×V)} {l:List (Int×SX)},G' B ρ h ow kvs l->l.length=kvs.length
 | [],l,r=>by unfold G' at r;subst r;rfl
 | (k,x)::q,l,r=>by
  unfold G' at r;obtain⟨y,v,l',rfl,e2,h1,h2⟩:=r
  simp [vH h2]
theorem v7{h:Tr}{ow:Tc->Prop}:∀ {kvs:List (SQ×V)} {l:List (List Tq×Tc×SX)},N_ B ρ h ow kvs l->l.length=kvs.length
 | [],l,r=>by unfold N_ at r;subst r;rfl
 | (k,x)::q,l,r=>by
  unfold N_ at r;obtain⟨y,z,a,v,l',rfl,e2,_,h1,h2⟩:=r
  simp [v7 h2]
theorem vL{h:Tr}{ow:Tc->Prop}{x:SQ}{u:SX}(hx:PR B h ow x u):∀ {xs:List SQ} {us:List SX} (j:Nat),PRs B h ow xs us->PRs B h ow (bb xs j x) (us.set j u)
 | [],us,j,r=>by unfold PRs at r;subst r;show PRs B h ow [] _;unfold PRs;simp
 | y::xs,us,j,r=>by
  unfold PRs at r;obtain⟨w,us',rfl,h1,h2⟩:=r;cases j with
  | zero=>show PRs B h ow (x::xs) (u::us');unfold PRs;exact⟨u,us',rfl,hx,h2⟩
  | succ j=>show PRs B h ow (y::bb xs j x) (w::us'.set j u);unfold PRs;exact⟨w,_,rfl,h1,vL hx j h2⟩
theorem vp{o:V}{j:Nat}(h:GW o=Zj j):o = .ref j:=by
 cases o<;>first|exact nn h|(cases h;rfl)
theorem CS(S:SR B ρ fr σ s)(hu:A.units+2 < cLine){j:Nat}{kvs:List (SQ×V)}{k:SQ}{v:V}{u w x:SX}(hg:σ.get j=Zj (.dict kvs))(ra:VR B ρ s.heap (aj ρ fr) (.ref j) u)(rb:PR B s.heap (aj ρ fr) k w)(rc:VR B ρ s.heap (aj ρ fr) v x) :
  Wp B A ρ fr s (KE j kvs k v σ) (PySem.setItem u w x) rj:=aF λhf=>aF λhb=>by
 have hb:=cq hb
 rw[aJ]at hb;obtain⟨p,hp,ep,hm,_,h1,h2,h3,hz⟩:=S.at hg (λh=>by cases h)
 refine b_ (aH hp ra) ?_
 have hz':(cm kvs k v).length<=1000:=by have:=nj (k:=k) (v:=v) kvs;exact Te this hb
 have Rz:p=(p.1,[]):=by(exact A' ep rfl)
 have fin:∀ {tk:Nat} {h':Tr},(SR B ρ fr (σ.put j (.dict (cm kvs k v))) { s with heap:=h',toks:=tk }/\dR B ρ fr s ρ { s with heap:=h',toks:=tk })->PO B ρ fr s rj () (σ.put j (.dict (cm kvs k v))) () { s with heap:=h',toks:=tk }:=λq=>⟨ρ,q.1,q.2,rfl,trivial⟩
 rcases ia hf with ⟨y,rfl,hk⟩|⟨y,rfl,hk⟩|⟨y,z,rfl,hk⟩
 ·obtain⟨l,hl,hr⟩:=h1 hk;unfold PR at rb;obtain⟨t,rfl⟩:=rb;obtain⟨⟨od,hod,hcl⟩,hn⟩:=fX hl;have hlen:=kC hr
  refine wpAny_setItem_pairs (eW y t) hl (λh' hl' hs=>fin ?_) (by show _<=2 ^ 24;lia)
  refine iy (O' := .dict (cm kvs (.str y) v)) S hp hod hcl hs (by obtain⟨o,h,_⟩:=dH hl';exact⟨o,h⟩) trivial λSt => ?_
  refine b_ Rz ?_
  exact gy hm (ix rfl v hk) hl' (u9 y (rc.mono (.refl _) St) hn (C_.mono (.refl _) St _ _ hr)) hz'
 ·obtain⟨l,hl,hr⟩:=h2 hk;unfold PR at rb;obtain⟨t,rfl⟩:=rb;obtain⟨⟨od,hod,hcl⟩,hn⟩:=fX hl;have hlen:=vH hr
  refine wpAny_setItem_pairs (gx y t) hl (λh' hl' hs=>fin ?_) (by show _<=2 ^ 24;lia)
  refine iy (O' := .dict (cm kvs (.int y) v)) S hp hod hcl hs (by obtain⟨o,h,_⟩:=dH hl';exact⟨o,h⟩) trivial λSt => ?_
  refine b_ Rz ?_
  exact qA hm (ix rfl v hk) hl' (wF y (rc.mono (.refl _) St) hn (G'.mono (.refl _) St _ _ hr)) hz'
 ·obtain⟨l,hl,hr⟩:=h3 hk;obtain⟨a,rfl,ha,hka⟩:=pF rb;obtain⟨⟨od,hod,hcl⟩,hn⟩:=qC hl;have hlen:=v7 hr
  have room:(tupleKind (strKind B.prog B.w)).room A.in1:=by show A.units+1 < cLine;exact Nat.lt_of_succ_lt hu
  refine wpAny_setItem_heap room hka hl (λh' hl' hs=>fin ?_) (by show _<=2 ^ 24;lia)
  refine iy (O' := .dict (cm kvs (.tuple [.str y,.str z]) v)) S hp hod hcl hs (by obtain⟨o,_,_,h,_⟩:=hl';exact⟨o,h⟩) trivial λSt => ?_
  refine b_ Rz ?_
  exact qx hm (ix rfl v hk) (BJ _) hl' (vR y z ha (rc.mono (.refl _) St) hn (N_.mono (.refl _) St _ _ (de hl).2 hr)) hz'
theorem Es(S:SR B ρ fr σ s){j:Nat}{xs:List SQ}{k:SQ}{v:V}{u w x:SX}(hg:σ.get j=Zj (.a_ xs))(ra:VR B ρ s.heap (aj ρ fr) (.ref j) u)(rb:PR B s.heap (aj ρ fr) k w)(rc:VR B ρ s.heap (aj ρ fr) v x) :
  Wp B A ρ fr s (KH j xs k v σ) (PySem.setItem u w x) rj:=au λm hm=>au λy hy=>aF λhb=>by
 have hb:=cq hb
 rw[aJ]at hb;obtain⟨p,hp,ep,vs,c,ho,hr⟩:=S.at hg (λh=>by cases h)
 refine b_ (aH hp ra) ?_
 rw[vr hm]at rb;unfold PR at rb;obtain⟨t,rfl⟩:=rb;have hs:vs.size=xs.length:=(Tt (xs:=vs)).symm.trans (bq hr)
 have ci:xs.length+σ.cap<=2 ^ 20:=fM S hg
 rw[ca hy]at rc;unfold VR at rc;refine zq ho (fitsIndex_of (by exact Xl m) (by lia)) (by exact Xl m) (by lia) ?_
 have key:=gj (O' := .a_ (bb xs m y)) (f:=λus=>us.setIfInBounds m x) (tk:=s.toks) S hp ho (by show(bb xs m y).length+_<=_;(refine b_ (aS ..) ?_;refine b_ (Wq ..) ?_);exact ci) λh' St k' hk=>⟨ep,_,k',hk,by
  refine b_ Array.toList_setIfInBounds ?_
  exact vL (PR.mono St _ _ rc) m (PRs.mono St _ _ hr)⟩
 exact⟨ρ,key.1,key.2,rfl,trivial⟩
theorem up(S:SR B ρ fr σ s)(hu:A.units+2 < cLine){o i v:V}{u w x:SX}(ra:VR B ρ s.heap (aj ρ fr) o u)(rb:VR B ρ s.heap (aj ρ fr) i w)(rc:VR B ρ s.heap (aj ρ fr) v x) :
  Wp B A ρ fr s (Mine.setItem o i v σ) (PySem.setItem u w x) rj:=au λj hj=>au λk hk=>au λy hy=>by
 rw[vp hj]at ra;rw[ca hk]at rb;unfold VR at rb;cases y with
 | dict kvs=>exact CS S hu hy ra rb rc
 | a_ xs=>exact Es S hy ra rb rc
 | _=>trivial
end
end
section
open PySem PySem.W PyProof.Rows PyProof
section
variable{B:Base}{A:TV}{ρ:e_}{fr:List Tc}{σ:VS}{s:S9}{n:Nat}{E:SX->S9->Prop}
theorem iq(S:SR B ρ fr σ s){v:V}{u:SX}{o:Option Nat}(r:VR B ρ s.heap (aj ρ fr) v u)(h:tP v=Zj o) :
  (o=Zk/\u = .none)\/X2 λm t=>A3 (o=Zj m) (m<=1000000) (u = .int (m:Int) t):=by
 obtain⟨x,hx,h⟩:=aD h;rw[ca hx]at r;unfold EZ at h;cases hn:i5 x with
 | true=>
  rw[hn]at h;rw[iJ hn]at r;exact .inl ⟨(Tf h).symm,M'.mp r⟩
 | false=>
  rw[hn]at h;obtain⟨m,hm,h⟩:=aD h;obtain⟨hb,h⟩:=cQ h;rw[vr hm]at r;obtain⟨t,e⟩:=l_.mp r;exact .inr ⟨m,t,(Tf h).symm,cH hb,e⟩
theorem eQ{o:Option Nat}{u:SX}(h:(o=Zk/\u = .none)\/X2 λm t=>A3 (o=Zj m) (m<=1000000) (u = .int (m:Int) t)):IsPart u (o.map λm:Nat=>(m:Int)):=by
 rcases h with ⟨rfl,rfl⟩|⟨m,t,rfl,_,rfl⟩
 ·exact .none
 ·exact .int _ _
theorem ng{α:Type}(lo hi:Option Nat)(xs:List α):(eE lo hi xs).length<=xs.length/\∀ m,hi=Zj m->(eE lo hi xs).length<=m:=by
 unfold eE;cases hi with
 | none=>exact⟨by dsimp only;(refine b_ Zg ?_);exact YJ xs.length (lo.getD 0),λm e=>by cases e⟩
 | some k=>
  have e:((xs.take k).drop (lo.getD 0)).length=min k xs.length - lo.getD 0:=by rw[Zg,Wd]
  exact⟨e▸Te (YJ ..) (Nat.min_le_right ..),λm q=>by cases q;exact e▸Te (YJ ..) (Yb ..)⟩
theorem si{h:Tr}{ow:Tc->Prop}:∀ {xs:List SQ} {us:List SX} (m:Nat),PRs B h ow xs us->PRs B h ow (xs.take m) (us.take m)
 | [],us,m,r=>by unfold PRs at r;subst r;simp;unfold PRs;rfl
 | x::xs,us,m,r=>by
  unfold PRs at r;obtain⟨u,us',rfl,h1,h2⟩:=r;cases m with
  | zero=>simp;unfold PRs;rfl
  | succ m=>simp only[List.take_succ_cons];unfold PRs;exact⟨u,_,rfl,h1,si m h2⟩
theorem mh{h:Tr}{ow:Tc->Prop}:∀ {xs:List SQ} {us:List SX} (m:Nat),PRs B h ow xs us->PRs B h ow (xs.drop m) (us.drop m)
 | [],us,m,r=>by unfold PRs at r;subst r;simp;unfold PRs;rfl
 | x::xs,us,m,r=>by
  cases m with
  | zero=>exact r
  | succ m=>
   unfold PRs at r;obtain⟨u,us',rfl,h1,h2⟩:=r
   simp only[List.drop_succ_cons];exact mh m h2
theorem xJ{h:Tr}{ow:Tc->Prop}{xs:List SQ}{vs:Array SX}(r:PRs B h ow xs vs.toList)(lo hi:Option Nat) :
  PRs B h ow (eE lo hi xs) (slicePick vs (lo.map λm:Nat=>(m:Int)) (hi.map λm:Nat=>(m:Int)) Zk).toList:=by
 have hs:vs.size=xs.length:=(Tt (xs:=vs)).symm.trans (bq r :)
 have e:(slicePick vs (lo.map λm:Nat=>(m:Int)) (hi.map λm:Nat=>(m:Int)) Zk).toList=eE lo hi vs.toList:=by
  rw[slicePick_plain,List.toList_toArray];unfold eE;have hv:vs.toList.length=vs.size:=Tt
  cases hi with
  | none=>
   dsimp only[Option.map_none,Yc];rw[Wx (by rw[Zg,hv];lia)]
   cases lo with
   | none=>rfl
   | some a=>
    dsimp only[Xz,Yc,Option.getD_some];rw[clipAt_nat];rcases Nat.le_total a vs.size with h|h
    ·rw[Yd h]
    ·rw[Nat.min_eq_right h,Wz (by exact UG vs.toList.length),Wz (by exact W7.mp h)]
  | some b=>
   dsimp only[Xz,Yc];rw[clipAt_nat];have tk:vs.toList.take (min b vs.size)=vs.toList.take b:=by
    rcases Nat.le_total b vs.size with h|h
    ·rw[Yd h]
    ·rw[Nat.min_eq_right h,Wx (by exact UG vs.toList.length),Wx (by exact W7.mp h)]
   cases lo with
   | none=>
    dsimp only[Option.map_none,Yc,Option.getD_none];rw[Nat.sub_zero,Yk,Yk,tk]
   | some a=>
    dsimp only[Xz,Yc,Option.getD_some];rw[clipAt_nat,<- List.drop_take,tk];rcases Nat.le_total a vs.size with h|h
    ·rw[Yd h]
    ·rw[Nat.min_eq_right h,Wz (by rw[Wd];exact Nat.min_le_right b vs.toList.length),Wz (by rw[Wd];lia)]
 rw[e];unfold eE;cases hi with
 | none=>exact mh _ r
 | some b=>exact mh _ (si b r)
theorem oW{m k:Nat}(h:m<=k):(WQ Zk (Zj (k:Int)) 1 m).length=m:=by
 unfold WQ;have h1:¬ ((k:Int) < 0):=by exact Int.not_ofNat_neg k
 have h2:max (0:Int) (min (k:Int) (m:Int))=(m:Int):=by rw[Int.min_eq_right (Int.ofNat_le.mpr h),Int.max_eq_right (Xl m)]
 simp only[show(1:Int) > 0 by decide,if_true,h1,if_false,h2]
 have:=sliceRange_one 0 m
 rw[show((0:Nat):Int)=0 from rfl]at this
 (refine b_ this ?_);simp
theorem m9(S:SR B ρ fr σ s){xs:List SQ}{a sl:Tc}{vs:Array SX}{c:Nat}{u1 u2:SX}{lo hi:Option Nat}(hc:dL σ.cap (.a_ (eE lo hi xs)))(hz:vs.size<=2 ^ 20)(ho:s.heap.get? a=Zj (bD "list" vs c))(hr:PRs B s.heap (aj ρ fr) xs vs.toList)
  (hs:s.heap.IsSliceOf sl u1 u2 .none) (p1:IsPart u1 (lo.map λm:Nat=>(m:Int))) (p2:IsPart u2 (hi.map λm:Nat=>(m:Int))) :
  Wp B A ρ fr s (σ.new (.a_ (eE lo hi xs))) (PySem.getItem (.ref a) (.ref sl)) (aM B fr):=by
 unfold VS.new;refine wpAny_getItem_list_slice ⟨_,ho,rfl,_,rfl⟩ hs p1 p2 .none (by simp) ?_ (by show _<=2 ^ 24;lia)
 obtain⟨ρ',k1,k2,k3,k4⟩:=gk (O' := .a_ (eE lo hi xs)) (us:=slicePick vs (lo.map λm:Nat=>(m:Int)) (hi.map λm:Nat=>(m:Int)) Zk) (tk:=s.toks) S hc λρ' h' y_ p G St EU hp'=>⟨by(exact b_ EU rfl),_,0,hp',xJ (PRs.mono St _ _ hr) lo hi⟩
 exact⟨ρ',k1,k2,k3,k4⟩
theorem EL(S:SR B ρ fr σ s){x:Tq}{t:Tok}{u1 u2:SX}{sl:Tc}{lo hi:Option Nat}(hs:s.heap.IsSliceOf sl u1 u2 .none)(q1:(lo=Zk/\u1 = .none)\/X2 λm t=>A3 (lo=Zj m) (m<=1000000) (u1 = .int (m:Int) t))(q2:(hi=Zk/\u2 = .none)\/X2 λm t=>A3 (hi=Zj m) (m<=1000000) (u2 = .int (m:Int) t)) :
  dp B A ρ fr s (ac lo.isNone (ag hi .no λn=>ac (U9 (len x.cps.toList) n) (.ok (.d (.str x)) σ) .no) .no) (.str x t) (.ref sl):=by
 intro _
 refine⟨by obtain⟨id,h⟩:=ES;exact⟨"str",id,h,typeIs_str s x t⟩,aF λhl=>au λm hm=>aF λhb => ?_⟩
 have hb:=cH hb
 rw[aJ,Tt]at hb;rcases q1 with ⟨_,rfl⟩|⟨_,_,e,_⟩
 ·rcases q2 with ⟨e,_⟩|⟨m',t',e,_,rfl⟩
  ·rw[hm]at e;cases e
  ·cases hm.symm.trans e;obtain⟨os,hos,hcs,hds⟩:=hs;refine Wp.O5 S (wpAny_getItem_str_slice (l:=Zk) (u:=Zj ((m:Int),t')) (st:=Zk) ⟨os,hos,hcs,hds⟩ rfl ?_)
   unfold sliceMade;rw[if_pos (by
    unfold slicePicked
    show(Zm&&(WQ Zk (Zj (m:Int)) 1 x.length).length==x.length)=Zm
    (refine b_ (oW (show x.length<=m from hb)) ?_);simp)]
   exact⟨s.toks,rfl,D'.mpr ⟨t,rfl⟩⟩
 ·rw[e]at hl;cases hl
theorem AV(S:SR B ρ fr σ s){xs:List SQ}{u u1 u2:SX}{sl:Tc}{lo hi:Option Nat}(ra:PR B s.heap (aj ρ fr) (.list xs) u)(hs:s.heap.IsSliceOf sl u1 u2 .none)(p1:IsPart u1 (lo.map λm:Nat=>(m:Int)))(p2:IsPart u2 (hi.map λm:Nat=>(m:Int))) :
  dp B A ρ fr s (ac (U9 (ag hi 1001 λn=>n) 1000) (σ.new (.a_ (eE lo hi xs))) .no) u (.ref sl):=by
 intro _;unfold PR at ra;obtain⟨a,vs,c,rfl,_,ho,hr,hle⟩:=ra;have hsz:vs.size=xs.length:=(Tt (xs:=vs)).symm.trans (bq hr)
 refine⟨by obtain⟨id,h⟩:=wC;exact⟨"list",id,h,_,ho,rfl⟩,aF λhb => ?_⟩
 have hb:=cH hb
 cases hi with
 | none=>exact absurd hb (by decide)
 | some m=>
  rw[gA]at hb;have hlen:=(ng lo (Zj m) xs).2 m rfl
  have:=S.Os
  exact m9 S (by show _+_<=_;lia) (by lia) ho hr hs p1 p2
theorem CJ(S:SR B ρ fr σ s){i:Nat}{xs:List SQ}{u u1 u2:SX}{sl:Tc}{lo hi:Option Nat}(hg:fS σ i=Zj xs)(ra:VR B ρ s.heap (aj ρ fr) (.ref i) u)(hs:s.heap.IsSliceOf sl u1 u2 .none)(p1:IsPart u1 (lo.map λm:Nat=>(m:Int)))(p2:IsPart u2 (hi.map λm:Nat=>(m:Int))) :
  dp B A ρ fr s (σ.new (.a_ (eE lo hi xs))) u (.ref sl):=by
 intro _;have hg:=bU hg
 obtain⟨p,hp,e2,vs,c,ho,hr⟩:=S.at hg (λh=>by cases h)
 refine b_ (aH hp ra) ?_
 have hsz:vs.size=xs.length:=(Tt (xs:=vs)).symm.trans (bq hr)
 have ci:xs.length+σ.cap<=2 ^ 20:=fM S hg
 have hlen:=(ng lo hi xs).1
 exact⟨by obtain⟨id,h⟩:=wC;exact⟨"list",id,h,_,ho,rfl⟩,m9 S (by show _+_<=_;lia) (by lia) ho hr hs p1 p2⟩
theorem rp(S:SR B ρ fr σ s){o l h:V}{u u1 u2:SX}{sl:Tc}(ra:VR B ρ s.heap (aj ρ fr) o u)(r1:VR B ρ s.heap (aj ρ fr) l u1)(r2:VR B ρ s.heap (aj ρ fr) h u2)(hs:s.heap.IsSliceOf sl u1 u2 .none):dp B A ρ fr s (iS o l h σ) u (.ref sl):=fv λlo hl=>fv λhi hh=>by
 have q1:=iq S r1 hl
 have q2:=iq S r2 hh
 cases o with
 | ref i=>exact fv λxs hx=>CJ S hx ra hs (eQ q1) (eQ q2)
 | d x=>
  unfold VR at ra
  show dp B A ρ fr s (ag (iW x) _ _) u (.ref sl)
  cases hx:iW x with
  | some xs=>rw[iE hx]at ra;exact AV S ra hs (eQ q1) (eQ q2)
  | none=>
   refine fv λy hy => ?_
   rw[fg hy]at ra;unfold PR at ra;obtain⟨t,rfl⟩:=ra;exact EL S hs q1 q2
 | _=>exact λhn=>absurd rfl hn
def lt(B:Base):Prop:=∀ {A:TV} {ρ:e_} {fr:List Tc} {σ:VS} {s:S9} {c:Tc} {i:Int} {q:Tc×Tc} {ex:Bool} {E:SX->S9->Prop} {Q:SX->S9->Prop},SR B ρ fr σ s->σ.x=Zj (c,i)->ρ.x=Zj q->i≠0->
 (∀ t tk,Q (.int i t) { s with toks:=tk })->wpAny B.M A (PySem.getAttr (.ref q.1) "code" ex) Q E s
theorem mV{T:Tab}{c:Tc}{m:Tq}(h:ms T c m=Zm):∃ k,T.cl c=Zj k/\kt m k.attrs=Zm:=by
 unfold ms at h;cases hk:T.cl c with
 | none=>rw[hk]at h;cases h
 | some k=>rw[hk]at h;exact⟨k,rfl,h⟩
theorem Bi{prog:VF}{w:V1}{x c N:Tc}{mN mA:Tq->Option SX}{m:Tq}{v:SX}{ex:Bool}{Q:SX->S9->Prop}(X:ClsAt s.heap c N mN)(g1:mN "__getattribute__"=Zk)(a1:mN m=Zk)(a2:typeLookup (.type "object") m=pure Zk)(I:s.heap.Inst x c mA)(h1:mA m=Zj v)
  (hh:handedOut v=pure v) (q:Q v { s with toks:=s.toks+1 }):wpAny (model prog w) A (PySem.getAttr (.ref x) m ex) Q E s:=by
 obtain⟨nm,q',bs,sn,sub,col,dd,k0,k1,k2,k3,k5,hC⟩:=X.obj;obtain⟨h,g,d,tk,os⟩:=s;exact load_attr hC X.ns g1 a1 a2 I h1 hh q
theorem nv{i:Nat}{p:Tc×LE}(h:tL σ i=Zj p):σ.get i=Zj (.inst p.1 p.2):=by
 obtain⟨o,ho,h⟩:=aD h;cases o with
 | inst c fs=>cases h;exact ho
 | _=>exact nn h
theorem wU(Fa:Facts B)(S:SR B ρ fr σ s){i:Nat}{c:Tc}{fs:LE}{v:V}{u:SX}{m:Tq}{ex:Bool}(hg:σ.get i=Zj (.inst c fs))(ra:VR B ρ s.heap (aj ρ fr) (.ref i) u)(ha:ms B.T c m=Zm)(hv:ak fs m=Zj v) :
  Wp B A ρ fr s (.ok v σ) (PySem.getAttr u m ex) (aM B fr):=by
 obtain⟨p,hp,ro⟩:=S.at hg (λh=>by cases h)
 refine b_ (aH hp ra) ?_
 obtain⟨kc,hkc,he⟩:=oG ro;obtain⟨k',hk',hmem⟩:=mV ha;cases hkc.symm.trans hk';obtain⟨N,mN,X,hN,g1,g2,g3,g4,g5,g6⟩:=(Fa.cls c kc hkc he).ex;obtain⟨a1,a2⟩:=g4 m hmem;obtain⟨dx,mA,_,I,hfs⟩:=vI ro;have hsh:=hfs m
 rw[hv]at hsh;obtain⟨rv,h1,h2,h3⟩:=hsh;exact Wp.O5 S (Bi (gL S X hN) g1 a1 a2 I h1 (handedOut_of h3) ⟨s.toks+1,rfl,h2⟩)
theorem kP(Fa:Facts B)(Co:lt B)(S:SR B ρ fr σ s){o:V}{u:SX}{m:Tq}{ex:Bool}(ra:VR B ρ s.heap (aj ρ fr) o u):Wp B A ρ fr s (Mine.getAttr B.T o m σ) (PySem.getAttr u m ex) (aM B fr):=by
 cases o with
 | ref i=>
  refine au λp hg=>aF λha => ?_
  cases hv:ak p.2 m with
  | none=>trivial
  | some v=>exact wU Fa S (nv hg) ra ha hv
 | exc=>
  refine aF λhm=>au λp hx => ?_
  refine b_ (g_.mp hm) ?_
  cases hi:bR p.2 0 with
  | true=>trivial
  | false=>
   unfold VR at ra;obtain⟨q,hq,rfl⟩:=ra;have hne:p.2≠0:=λe=>by rw[e,ef]at hi;cases hi
   exact Wp.O5 S (Co S hx hq hne λt tk=>⟨tk,rfl,l_.mpr ⟨t,rfl⟩⟩)
 | _=>trivial
theorem SR.RA{s':S9}{i:Nat}{p:Tc×List Tc}{O':O}(S:SR B ρ fr σ s)(hi:ρ.m[i]? = Zj (Zj p))
  (hf:∀ b o,mz p b->s.heap.get? b=Zj o->Plain o) (hk:∀ b o,¬ mz p b->s.heap.get? b=Zj o->s'.heap.get? b=Zj o) (hth:∀ b,mz p b->∃ o',s'.heap.get? b=Zj o')
  (hg:s'.gens=s.gens) (hos:s'.os=s.os)
  (hO:Still s.heap (aj ρ fr) s'.heap (aj ρ fr)->Cells s.heap s'.heap->OR B ρ s'.heap (aj ρ fr) O' p) (hc:dL σ.cap O') :
  SR B ρ fr (σ.put i O') s'/\dR B ρ fr s ρ s':=by
 have hilt:i < σ.o.length:=by(refine A' (S.len ..) ?_;try (with_reducible rfl));exact(TF.mp hi).1
 refine S.turn (σ':=σ.put i O') (λb=>mz p b) (λb o hb e=>hk b o hb e) (λb hb=>⟨i,p,hi,hb⟩) (λb o hb e=>hf b o hb e) hth hg hos
  (by show(bb _ _ _).length=_;(refine b_ (aS ..) ?_;refine b_ (Wq ..) ?_;try (with_reducible rfl))) rfl (λst ce j q hq => ?_) (λj hj => ?_) (λj o hj => ?_) S.Os
 ·by_cases e:j=i
  ·subst e;rw[hi]at hq;cases hq;refine .inl ⟨O',?_,hO st ce⟩
   show(bb _ _ _)[j]? = _
   (refine b_ (aS ..) ?_;refine b_ (U7 hilt ..) ?_;try (with_reducible rfl))
  ·refine .inr ⟨?_,λb hb h => ?_⟩
   ·show(bb _ _ _)[j]? = _
    (refine b_ (aS ..) ?_;refine b_ (Us (Vd e) ..) ?_;try (with_reducible rfl))
   ·exact S.sep j i q p hq hi e b hb h
 ·show(bb _ _ _)[j]? = _
  have e:j≠i:=λe=>by subst e;rw[hi]at hj;cases hj
  (refine b_ (aS ..) ?_;refine b_ (Us (Vd e) ..) ?_;try (with_reducible rfl));exact S.gone j hj
 ·have hj':(bb σ.o i O')[j]? = Zj o:=hj
  rw[aS]at hj'
  by_cases e:j=i
  ·subst e;rw[U7 hilt]at hj';cases hj';exact hc
  ·rw[Us (Vd e)]at hj';exact S.cap j o hj'
theorem nr:∀ {fs:LE} {y:Tq} {v:V},ak fs y=Zj v->y∈fs.map (·.1)
 | [],y,v,h=>by cases h
 | (z,u)::r,y,v,h=>by
  rw[aG]at h;cases e:aw z y with
  | true=>(refine b_ (g_.mp e) ?_);simp
  | false=>rw[e]at h;(refine b_ UJ ?_);exact T8 _ (nr h)
theorem nz{x:Tq}{v:V}:∀ fs:LE,(aR fs x v).length<=fs.length+1
 | []=>UG _
 | (z,u)::r=>by
  refine b_ (hH ..) ?_
  cases aw z x with
  | true=>show(_::r).length<=_;simp
  | false=>have:=nz (x:=x) (v:=v) r;show(_::aR r x v).length<=_;simp;omega
theorem Au(S:SR B ρ fr σ s){i:Nat}{p:Tc×List Tc}{c:Tc}{fs:LE}{v:V}{w:SX}{m:Tq}(hp:ρ.m[i]? = Zj (Zj p))(ro:OR B ρ s.heap (aj ρ fr) (.inst c fs) p)(rb:VR B ρ s.heap (aj ρ fr) v w)(hb:fs.length < 1000){mA:Tq->Option SX}
  (hm:∀ dx,p.2=[dx]->s.heap.Ns1 dx mA) {h':Tr} {tk':Nat} (I':h'.Inst p.1 c (λy=>if y=m then Zj w else mA y)) (hk:∀ b o,b≠p.1->(∀ o₀ d',s.heap.get? p.1=Zj o₀->o₀.dict=Zj d'->b≠d')->s.heap.get? b=Zj o->h'.get? b=Zj o)
  (hsame:∀ o₀,s.heap.get? p.1=Zj o₀->∃ o₁,h'.get? p.1=Zj o₁/\o₁.cls=o₀.cls/\o₁.data=o₀.data/\o₁.slots=o₀.slots/\∀ d',o₀.dict=Zj d'->o₁.dict=Zj d') :
  SR B ρ fr (σ.put i (.inst c (aR fs m v))) { s with heap:=h',toks:=tk' }/\dR B ρ fr s ρ { s with heap:=h',toks:=tk' }:=by
 obtain⟨dx,mA',ox,ep,hox,hcx,hncx,hdx,hne,hns,hfs,hz⟩:=ro;have em:∀ y,mA' y=mA y:=λy=>by
  obtain⟨o1,es,n,a1,a2,_,_,a3⟩:=hns;obtain⟨o2,es',n',b1,b2,_,_,b3⟩:=hm dx ep;rw[a1]at b1;cases b1;rw[a2]at b2;cases b2;refine A' (a3 ..) ?_;exact b_ (b3 ..) rfl
 obtain⟨o₁,e₁,c₁,dt₁,_,dk₁⟩:=hsame ox hox;have hns':h'.Ns1 dx (λy=>if y=m then Zj w else mA y):=by
  obtain⟨o',e',_,_,hd'⟩:=I';cases e₁.symm.trans e';rcases hd' with ⟨hn0,_⟩|⟨d',hd',_,hns'⟩
  ·rw[dk₁ dx hdx]at hn0;cases hn0
  ·cases (dk₁ dx hdx).symm.trans hd';exact hns'
 have hat:∀ b,mz p b->b=p.1\/b=dx:=λb h=>by unfold mz at h;rw[ep]at h;simpa using h
 refine S.RA (s':={ s with heap:=h',toks:=tk' }) (O' := .inst c (aR fs m v)) hp (λb o hb e => ?_)
  (λb o hb e=>hk b o (λq=>hb (.inl q)) (λo₀ d' h1 h2 q=>by
   rw[hox]at h1;cases h1;rw[hdx]at h2;cases h2;exact hb (.inr (by(refine b_ (ep ..) ?_;refine b_ (q ..) ?_;try (with_reducible rfl));exact .head _))) e)
  (λb hb => ?_) rfl rfl (λSt Ce=>⟨dx,_,o₁,ep,e₁,c₁.trans hcx,λc=>dt₁▸hncx c,dk₁ _ hdx,hne,hns',λy => ?_,Te (nz fs) hb,hz.2⟩) trivial
 ·rcases hat b hb with rfl|rfl
  ·rw[hox]at e;cases e;exact Plain.PX (by(refine b_ (hcx ..) ?_;try (with_reducible rfl));simp) (by(refine b_ (hcx ..) ?_;try (with_reducible rfl));simp) (by(refine b_ (hcx ..) ?_;try (with_reducible rfl));rfl)
  ·obtain⟨od,es,n,h1,h2,_⟩:=hns;rw[h1]at e;cases e;exact Plain.Pm h2
 ·rcases hat b hb with rfl|rfl
  ·exact⟨_,e₁⟩
  ·obtain⟨od,_,_,h1,_⟩:=hns';exact⟨od,h1⟩
 ·(refine b_ (dU ..) ?_;try (with_reducible rfl))
  by_cases e:y=m
  ·(refine b_ (if_pos e ..) ?_;try (with_reducible rfl))
   exact⟨w,if_pos e,rb.mono (.refl _) St,yi rb⟩
  ·(refine b_ (if_neg e ..) ?_;try (with_reducible rfl))
   have:=hfs y
   rw[em]at this
   revert this
   cases ak fs y with
   | none=>exact(if_neg e).trans
   | some v'=>rintro⟨rv,h1,h2,h3⟩;exact⟨rv,(if_neg e).trans h1,h2.mono (.refl _) St,h3⟩
theorem yB{prog:VF}{w:V1}{x c N:Tc}{mN mA:Tq->Option SX}{m:Tq}{u:SX}{Q:Unit->S9->Prop}{ns:List Tq}(X:ClsAt s.heap c N mN)(g3:mN "__setattr__"=Zk)(a1:mN m=Zk)(a2:typeLookup (.type "object") m=pure Zk)(hxC:x≠c)(I:s.heap.Inst x c mA)
  (k:∀ h' tk',h'.Inst x c (λy=>if y=m then Zj u else mA y)->(∀ b o,b≠x->(∀ o₀ d',s.heap.get? x=Zj o₀->o₀.dict=Zj d'->b≠d')->s.heap.get? b=Zj o->h'.get? b=Zj o)->
   (∀ o₀,s.heap.get? x=Zj o₀->∃ o₁,h'.get? x=Zj o₁/\o₁.cls=o₀.cls/\o₁.data=o₀.data/\o₁.slots=o₀.slots/\∀ d',o₀.dict=Zj d'->o₁.dict=Zj d')->Q () { s with heap:=h',toks:=tk' })
  (hw:PySem.Within mA ns) (hz:ns.length<=sizeLine):wpAny (model prog w) A (PySem.setAttr (.ref x) m u) Q E s:=by
 obtain⟨nm,q',bs,sn,sub,col,dd,k0,k1,k2,k3,k5,hC⟩:=X.obj;obtain⟨h,g,d,tk,os⟩:=s;exact store_attr PySem.F.store_object hC X.ns g3 a1 a2 hxC I k hw hz
theorem ED{h:Tr}{c N:Tc}{mN:Tq->Option SX}(X:ClsAt h c N mN):h.get? c≠Zk:=λz=>by
 obtain⟨nm,q',bs,sn,sub,col,dd,k0,k1,k2,k3,k5,hC⟩:=X.obj;rw[z]at hC;cases hC
theorem qH{h:Tr}{fs:LE}{mA:Tq->Option SX}{P:V->SX->Prop}(hfs:∀ y,match ak fs y with|some v=>∃ rv,A3 (mA y=Zj rv) (P v rv) (handedIn rv=Zm)|none=>mA y=Zk):PySem.Within mA (fs.map (·.1)):=λy hy=>by
 have:=hfs y
 cases hl:ak fs y with
 | none=>rw[hl]at this;exact absurd this hy
 | some v'=>exact nr hl
theorem lL(Fa:Facts B)(S:SR B ρ fr σ s){o v:V}{u w:SX}{m:Tq}(ra:VR B ρ s.heap (aj ρ fr) o u)(rb:VR B ρ s.heap (aj ρ fr) v w):Wp B A ρ fr s (Mine.setAttr B.T o m v σ) (PySem.setAttr u m w) rj:=au λi hi=>au λ⟨c,fs⟩ hg=>aF λha=>aF λhb=>by
 have hb:=cq hb
 rw[aJ]at hb;rw[vp hi]at ra;obtain⟨p,hp,ro⟩:=S.at (nv hg) (λh=>by cases h)
 refine b_ (aH hp ra) ?_
 obtain⟨kc,hkc,he⟩:=oG ro;obtain⟨k',hk',hmem⟩:=mV ha;cases hkc.symm.trans hk';obtain⟨N,mN,X,hN,g1,g2,g3,g4,g5,g6⟩:=(Fa.cls c kc hkc he).ex;obtain⟨a1,a2⟩:=g4 m hmem;have Sa:=ro
 obtain⟨dx,mA,ox,ep,hox,hcx,hncx,hdx,hne,hns,hfs,hz⟩:=Sa;refine yB (gL S X hN) g3 a1 a2 (λq=>ED X (by(refine A' q ?_);exact(S.L_ i p hp p.1 (.inl rfl)).2.2)) ⟨ox,hox,hcx,hncx,.inr ⟨dx,hdx,hne,hns⟩⟩ (λh' tk' I' hk hsame => ?_) (qH (h:=s.heap) hfs) (by
  show(fs.map (·.1)).length<=2 ^ 24
  (refine b_ (Vl ..) ?_);exact Te (Wi hb) (by decide))
 obtain⟨k1,k2⟩:=Au S hp ro rb hb (λd e=>by cases ep.symm.trans e;exact hns) I' hk hsame
 exact⟨ρ,k1,k2,rfl,trivial⟩
end
end
section
open PySem PySem.W PyProof.Rows
structure En (A:TV) (env:WD) (sc:Tz) (ρ:e_) (fr:List Tc):Prop where
 ok:bF sc.names=Zm
 apart:∀ b∈fr,b∉ρ.fs
 head:X3 λe l L=>A4 (A.frames=Zj (e::l)) (e.frame=env.frame) (env.frame=Zj L) (L∈fr)
theorem En.step{A:TV}{env:WD}{sc:Tz}{ρ ρ':e_}{fr:List Tc}(x:En A env sc ρ fr)(h:ρ'.fs=ρ.fs):En A env sc ρ' fr:=⟨x.ok,by(refine b_ h ?_);exact x.apart,x.head⟩
section
variable{α β γ:Type}{B:Base}{A:TV}{ρ c_:e_}{fr:List Tc}{s s₀:S9}{r:R α}{t:Xk β}{rel Rw:α->e_->S9->β->Prop}
theorem Wp.step{res:R γ}{f:α->VS->R γ}{Q:β->S9->Prop}(W:Wp B A ρ fr s r t rel)(st:dR B c_ fr s₀ ρ s)(hr:res=r.bind f)(hn:res ≠ .no)
  (k:∀ a σ' ρ' v s',SR B ρ' fr σ' s'->dR B c_ fr s₀ ρ' s'->dR B ρ fr s ρ' s'->ρ'.x=ρ.x->rel a ρ' s' v->res=f a σ'->Q v s'):wpAny B.M A t Q (EP B c_ fr s₀ res) s:=
 W.use st hn (λσ' e=>by(refine b_ hr ?_;refine b_ e ?_);rfl) (λe=>by(refine b_ hr ?_;refine b_ e ?_);rfl) λa σ' ρ' v s' e h1 h2 h3 h4=>k a σ' ρ' v s' h1 (st.trans h2) h2 h3 h4 (by(refine b_ hr ?_;refine b_ e ?_);rfl)
theorem Wp.last{res:R α}(W:Wp B A ρ fr s r t rel)(st:dR B c_ fr s₀ ρ s)(hx:ρ.x=c_.x)(hr:res=r)(hn:res ≠ .no):wpAny B.M A t (QP B c_ fr s₀ res rel) (EP B c_ fr s₀ res) s:=
 W.use st hn (λσ' e=>by(refine b_ hr ?_;exact b_ e rfl)) (λe=>by(refine b_ hr ?_;exact b_ e rfl)) λa σ' ρ' v s' e h1 h2 h3 h4=>⟨a,σ',ρ',by(refine b_ hr ?_;exact b_ e rfl),h1,st.trans h2,h3.trans hx,h4⟩
theorem aU{o:Option α}{f:α->R γ}{res:R γ}(h:res=ag o .no f)(hn:res ≠ .no):QX o f res:=by
 cases o with
 | none=>exact absurd h hn
 | some a=>exact⟨a,rfl,h⟩
theorem o9{o:Option α}{σ:VS}{res:R α}(h:res=o7 o σ)(hn:res ≠ .no):∃ a,o=Zj a/\res = .ok a σ:=by
 cases o with
 | none=>exact absurd h hn
 | some a=>exact⟨a,rfl,h⟩
theorem bv{b:Bool}{x res:R γ}(h:res=ac b x .no)(hn:res ≠ .no):Rt b x res:=by
 cases b with
 | false=>exact absurd h hn
 | true=>exact⟨rfl,h⟩
end
theorem pQ(x:Tq)(k:Tp)(l:List (Tq×Tp)):bF ((x,k)::l)=ac (dT x) (ag (ah l x) (bF l) λ_=>Zn) Zn:=rfl
theorem lF{y:Tq}{j:Tp}{l:List (Tq×Tp)}(h:bF ((y,j)::l)=Zm):A3 (dT y=Zm) (ah l y=Zk) (bF l=Zm):=by
 obtain⟨h1,h2⟩:=av (pQ y j l▸h);cases hk:ah l y with
 | some _=>rw[hk]at h2;exact Ti h2
 | none=>rw[hk]at h2;exact⟨h1,rfl,h2⟩
theorem iF{l:List (Tq×Tp)}{x:Tq}{k:Tp}:bF l=Zm->ah l x=Zj k->dT x=Zm:=by
 induction l with
 | nil=>exact λ_ e=>nn e
 | cons p l ih=>
  obtain⟨y,j⟩:=p;intro h e;obtain⟨h1,_,h3⟩:=lF h;rw[dl]at e;cases hs:aw y x with
  | true=>rw[<- g_.mp hs];exact h1
  | false=>rw[hs]at e;exact ih h3 e
theorem fG{l:List (Tq×Tp)}{x:Tq}{k:Tp}:bF l=Zm->(x,k)∈l->ah l x=Zj k:=by
 induction l with
 | nil=>exact λ_ h=>absurd h Vn
 | cons p l ih=>
  obtain⟨y,j⟩:=p;intro h hm;obtain⟨_,hk,h3⟩:=lF h;rw[dl];rcases Ub.mp hm with e|hm
  ·cases e;rw[aQ]
  ·have q:=ih h3 hm
   cases hs:aw y x with
   | true=>rw[g_.mp hs,q]at hk;cases hk
   | false=>exact q
theorem rX{x:Tq}(h:dT x=Zm):(x==("__debug__":Tq))=Zn:=by
 cases e:x==("__debug__":Tq) with
 | false=>rfl
 | true=>rw[Vq e]at h;exact absurd h (by decide)
theorem yH{x:Tq}(h:dT x=Zm):(x==("__classdict__":Tq))=Zn:=by
 cases e:x==("__classdict__":Tq) with
 | false=>rfl
 | true=>rw[Vq e]at h;exact absurd h (by decide)
structure Glob (B:Base):Prop where
 g:B.h₀.Ns mainGlobals B.mg/\∃ o,B.h₀.get? mainGlobals=Zj o/\o.cls ≠ .none
 b:B.h₀.Ns builtinsNs B.mb/\∃ o,B.h₀.get? builtinsNs=Zj o/\o.cls ≠ .none
 at':∀ x v,B.T.glob x=Zj v->∃ u,(B.mg x=Zj u\/(B.mg x=Zk/\B.mb x=Zj u))/\((∃ d,v = .d d/\PR B B.h₀ (λ_=>False) d u)\/(v = .val u/\handedIn u=Zm))
section
variable{B:Base}{A:TV}{ρ:e_}{fr:List Tc}{σ:VS}{s:S9}{n:Nat}{E:SX->S9->Prop}{env:WD}{sc:Tz}{le:LE}
theorem SR.PB(S:SR B ρ fr σ s):Still B.h₀ (λ_=>False) s.heap (aj ρ fr):=
 ⟨λb o e _ hk=>S.O2 e (Ox.none hk),λb hb => .inr (S.Qe hb),λb o e => .inr (S.base.there b o e)⟩
theorem lw(S:SR B ρ fr σ s){a:Tc}{m:Tq->Option SX}(h:B.h₀.Ns a m)(ho:∃ o,B.h₀.get? a=Zj o/\o.cls ≠ .none):s.heap.Ns a m:=by
 obtain⟨o,ho,hc⟩:=ho;refine h.at λo' ho' => ?_
 rw[ho]at ho';cases ho';exact S.O2 ho hc
theorem Ez(G:Glob B)(S:SR B ρ fr σ s)(F:Fm B env sc le ρ fr s.heap){x:Tq}{v:V}(h:B.T.glob x=Zj v){Q:SX->S9->Prop}
  (q:∀ u,VR B ρ s.heap (aj ρ fr) v u->Q u s):wpAny B.M A (loadGlobal env x) Q E s:=by
 obtain⟨u,hu,hv⟩:=G.at' x v h;have r:VR B ρ s.heap (aj ρ fr) v u:=by
  rcases hv with ⟨d,rfl,hd⟩|⟨rfl,hd⟩
  ·unfold VR;exact PR.mono S.PB d u hd
  ·unfold VR;exact⟨rfl,hd⟩
 have hg:s.heap.Ns env.globals B.mg:=by(refine b_ F.globals ?_);exact lw S G.g.1 G.g.2
 rcases hu with hu|⟨h1,h2⟩
 ·exact Calls.loadGlobal_global hg hu (q u r)
 ·exact Calls.loadGlobal_builtin hg h1 (by(refine b_ F.builtins ?_);exact lw S G.b.1 G.b.2:s.heap.Ns env.builtins B.mb) h2 (q u r)
theorem l7{x:Tq}{v:V}(F:Fm B env sc le ρ fr s.heap)(hx:ak le x=Zj v)(hk:ah sc.names x=Zj .cell\/ah sc.names x=Zj .free){Q:SX->S9->Prop}
  (q:∀ u,VR B ρ s.heap (aj ρ fr) v u->Q u s) (hp:env.kindOf x=Zj .cell\/env.kindOf x=Zj .free/\(x==("__classdict__":Tq))=Zn):wpAny B.M A (loadName env x) Q E s:=by
 obtain⟨c,o,u,hc,ho,hcl,hd,hv⟩:=F.cells x v hx hk;rcases hp with hp|⟨hp,hcd⟩
 ·exact wpAny_loadName_cell F.kind hp hc ⟨o,ho,hd⟩ (q u hv)
 ·exact wpAny_loadName_free F.kind hp hc ⟨o,ho,hd⟩ (q u hv) hcd
theorem kB(F:Fm B env sc le ρ fr s.heap){x:Tq}{k:Tp}(hk:ah sc.names x=Zj k)(hne:k ≠ .free):env.kindOf x=Zj k:=by
 rcases F.kinds x k hk with h|⟨h,_⟩
 ·exact h
 ·exact absurd h hne
theorem j8(G:Glob B)(S:SR B ρ fr σ s)(F:Fm B env sc le ρ fr s.heap)(hp:bF sc.names=Zm){x:Tq}{v:V}(h:ea B.T x sc le=Zj v){Q:SX->S9->Prop}
  (q:∀ u,VR B ρ s.heap (aj ρ fr) v u->Q u s):wpAny B.M A (loadName env x) Q E s:=by
 obtain⟨k,hk,h⟩:=aD h;cases k with
 | globalImplicit=>
  refine b_ (loadName_read F.kind (kB F hk (by decide))) ?_
  exact Ez G S F h q
 | «local»=>
  obtain⟨m,hn,hm⟩:=F.ns;obtain⟨u,hu,hv⟩:=hm x v h hk;exact wpAny_loadName_local F.kind (kB F hk (by decide)) hn hu (q u hv)
 | cell=>exact l7 F h (.inl hk) q (.inl (kB F hk (by decide)))
 | free=>
  rcases F.kinds x _ hk with hkd|⟨_,hkd⟩
  ·exact l7 F h (.inr hk) q (.inr ⟨hkd,yH (iF hp hk)⟩)
  ·exact l7 F h (.inr hk) q (.inl hkd)
 | globalExplicit=>exact nn h
theorem i8(G:Glob B)(S:SR B ρ fr σ s)(F:Fm B env sc le ρ fr s.heap)(hp:bF sc.names=Zm){x:Tq}{v:V}(h:ea B.T x sc le=Zj v)(pos:Vw){Q:SX->S9->Prop}
  (q:∀ u,VR B ρ s.heap (aj ρ fr) v u->Q u s):wpAny B.M A (eval (.Name x pos) env) Q E s:=by
 obtain⟨k,hk,_⟩:=aD h;exact wpAny_Name (j8 G S F hp h q) (rX (iF hp hk))
theorem DD(G:Glob B)(S:SR B ρ fr σ s)(F:Fm B env sc le ρ fr s.heap)(hp:bF sc.names=Zm)(x:Tq)(pos:Vw) :
  Wp B A ρ fr s (name B.T x sc le σ) (eval (.Name x pos) env) (aM B fr):=by
 unfold name;cases h:ea B.T x sc le with
 | none=>trivial
 | some v=>exact i8 G S F hp h pos λu r=>⟨ρ,S,dR.refl ..,rfl,r⟩
theorem AI(S:SR B ρ fr σ s)(c:Const)(k:Nat)(pos:Vw):Wp B A ρ fr s (o7 (tD c) σ) (eval (.Constant c k pos) env) (aM B fr):=by
 refine b_ (eval_Constant ..) ?_
 cases c with
 | none=>exact Tg ⟨ρ,S,dR.refl ..,rfl,M'.mpr rfl⟩
 | bool b=>exact Tg ⟨ρ,S,dR.refl ..,rfl,OM.mpr rfl⟩
 | int i=>exact wpAny_mkInt ⟨ρ,S.tok _,dR.toks ..,rfl,l_.mpr ⟨_,rfl⟩⟩
 | str x=>exact wpAny_mkText ⟨ρ,S.tok _,dR.toks ..,rfl,D'.mpr ⟨_,rfl⟩⟩
 | _=>trivial
end
end
section
open PySem PySem.W PyProof.Rows
def QR(B:Base)(fr:List Tc)(f:Fl)(ρ:e_)(s:S9)(fl:Flow):Prop:=match f with
 | .next=>fl = .next
 | .brk=>fl = .brk
 | .cont=>fl = .cont
 | .ret v=>∃ u,fl = .ret u/\VR B ρ s.heap (aj ρ fr) v u
section
variable{β:Type}(B:Base)(A:TV)(env:WD)(sc:Tz)(le:LE)(qk:Bool)(ρ:e_)(fr:List Tc)(s:S9)
inductive Ou {α:Type} (r:R α) (e:SX) (s':S9):Prop
 | mk (σ':VS) (ρ':e_) (q:Tc×Tc):r = .exc σ'->SR B ρ' fr σ' s'->Step B ρ fr s ρ' s'->ρ'.x=Zj q->e = .ref q.1->∀ l,Fm B env sc l ρ' fr s'.heap->(qk=Zm->l=le)->Ou r e s'
inductive Pw (r:R (Fl×LE)) (fl:Flow) (s':S9):Prop
 | mk (p:Fl×LE) (σ':VS) (ρ':e_):r = .ok p σ'->SR B ρ' fr σ' s'->Step B ρ fr s ρ' s'->ρ'.x=ρ.x->Fm B env sc p.2 ρ' fr s'.heap->QR B fr p.1 ρ' s' fl->Pw r fl s'
def Px(r:R (Fl×LE))(t:Xk Flow):Prop:=r ≠ .no->wpAny B.M A t (Pw B env sc ρ fr s r) (Ou B env sc le qk ρ fr s r) s
end
def ka{α:Type}(a:α)(_:e_)(_:S9)(b:α):Prop:=b=a
def FS(B:Base)(fr:List Tc)(vs:List V)(ρ:e_)(s:S9)(us:List SX):Prop:=k_ B ρ s.heap (aj ρ fr) vs us
structure Sound (B:Base) (I:It) (n:Nat):Prop where
 ev:∀ {A ρ fr σ s env sc le} (e:Expr),AC A ρ fr n->En A env sc ρ fr->SR B ρ fr σ s->Fm B env sc le ρ fr s.heap->Wp B A ρ fr s (I.ev e sc le σ) (eval e env) (aM B fr)
 te:∀ {A ρ fr σ s env sc le} (e:Expr),AC A ρ fr n->En A env sc ρ fr->SR B ρ fr σ s->Fm B env sc le ρ fr s.heap->Wp B A ρ fr s (I.te e sc le σ) (isTrue e env (eval e env)) ka
 es:∀ {A ρ fr σ s env sc le} (es:List Expr) (pos:Vw),AC A ρ fr n->En A env sc ρ fr->SR B ρ fr σ s->Fm B env sc le ρ fr s.heap->Wp B A ρ fr s (I.es es sc le σ) (spliced (backTo pos (starEach es env))) (FS B fr)
 ts:∀ {A ρ fr σ s env sc le} (op:W8) (es:List Expr),AC A ρ fr n->En A env sc ρ fr->SR B ρ fr σ s->Fm B env sc le ρ fr s.heap->Wp B A ρ fr s (I.ts op es sc le σ) (allTrue op es env) ka
 ex:∀ {A ρ fr σ s env sc le} (l:List T9),AC A ρ fr n->En A env sc ρ fr->SR B ρ fr σ s->Fm B env sc le ρ fr s.heap->Px B A env sc le (bP l) ρ fr s (I.ex l sc le σ) (execs l env)
 cl:∀ {A ρ fr σ s} {v:V} {as:List V} {u:SX} {us:List SX},AC A ρ fr n->(∀ b∈fr,b∉ρ.fs)->SR B ρ fr σ s->VR B ρ s.heap (aj ρ fr) v u->k_ B ρ s.heap (aj ρ fr) as us->Wp B A ρ fr s (I.cl v as σ) (call u us) (aM B fr)
 kp:∀ {A ρ fr σ s} {v:V} {as:List V} {u:SX} {E:SX->S9->Prop} {Q:Keeper->S9->Prop},I.cl v as σ ≠ .no->SR B ρ fr σ s->VR B ρ s.heap (aj ρ fr) v u->(∀ k,Q k s)->wpAny B.M A (keeperOf u) Q E s
 set:∀ a b c sc le σ,I.ev (.Set a b c) sc le σ = .no
 star:∀ a b sc le σ,I.ev (.Starred a b) sc le σ = .no
 nil:∀ sc le σ σ',I.ex [] sc le σ ≠ .exc σ'
section
variable{B:Base}{I:It}{A:TV}{ρ:e_}{fr:List Tc}{σ:VS}{s:S9}{n:Nat}{E:SX->S9->Prop}{env:WD}{sc:Tz}{le:LE}
theorem AC.to{s s':S9}{ρ':e_}(C:AC A ρ fr n)(T:dR B ρ fr s ρ' s')(hx:ρ'.x=ρ.x):AC A ρ' fr n:=C.step T.fs hx
theorem En.to{s s':S9}{ρ':e_}(N:En A env sc ρ fr)(T:dR B ρ fr s ρ' s'):En A env sc ρ' fr:=N.step T.fs
theorem AC.cLine{A:TV}{ρ:e_}{fr:List Tc}{n:Nat}(C:AC A ρ fr n):A.units+204 < PySem.cLine:=by
 have:=C.units
 have h:PySem.cLine > 9000:=by decide
 lia
theorem AC.PY{A:TV}{ρ:e_}{fr:List Tc}{n:Nat}(C:AC A ρ fr n):A.units+2 < PySem.cLine:=by
 have:=C.cLine
 lia
theorem zp(H:Sound B I n)(C:AC A ρ fr n)(N:En A env sc ρ fr)(S:SR B ρ fr σ s)(F:Fm B env sc le ρ fr s.heap)(l:Expr)(op:Xf)(r:Expr)(pos:Vw) :
  Wp B A ρ fr s (Fq I l op r sc le σ) (eval (.BinOp l op r pos) env) (aM B fr):=
 Wp.of λhn=>wpAny_BinOp ((H.ev l C N S F).step (.refl ..) rfl hn λa σ₁ dk u s₁ S₁ T₁ r_ x₁ r₁ e₁=>
  (H.ev r (C.to T₁ x₁) (N.to T₁) S₁ (F.step T₁)).step T₁ e₁ hn λb σ₂ w_ v s₂ S₂ T₂ o_ x₂ r₂ e₂=>
   (yO S₂ (VR.mono o_.goes o_.still _ _ r₁) r₂).last T₂ (x₂.trans x₁) e₂ hn)
theorem aO{b:Bool}{l:List Bool}(h:hU (b::l)=Zm):Qc b (hU l):=jM h
theorem pK{α:Type}{o:Option α}(h:o.isNone=Zm):o=Zk:=by
 cases o with
 | none=>rfl
 | some=>cases h
theorem Wp.done{α β:Type}{res:R α}{c_:e_}{s₀:S9}{rel:α->e_->S9->β->Prop}{a:α}{v:β}(S:SR B ρ fr σ s)(T:dR B c_ fr s₀ ρ s)(hx:ρ.x=c_.x)(e:res = .ok a σ)(r:rel a ρ s v):QP B c_ fr s₀ res rel v s:=
 ⟨a,σ,ρ,e,S,T,hx,r⟩
theorem Wp.PZ{α β:Type}{res:R α}{c_:e_}{s₀:S9}{rel:α->e_->S9->β->Prop}{a:α}{v:β}(tk:Nat)(S:SR B ρ fr σ s)(T:dR B c_ fr s₀ ρ s)(hx:ρ.x=c_.x)(e:res = .ok a σ)(r:rel a ρ { s with toks:=tk } v):QP B c_ fr s₀ res rel v { s with toks:=tk }:=
 ⟨a,σ,ρ,e,S.tok tk,T.tok tk,hx,r⟩
theorem Bk{x:SQ}{b:Bool}(h:FM x=Zj b):x = .bool b:=by
 cases x<;>first|exact nn h|(cases h;rfl)
theorem lG{v:V}{u:SX}{b:Bool}(h:we v=Zj b){h':Tr}{ow:Tc->Prop}(r:VR B ρ h' ow v u):u = .bool b:=by
 obtain⟨x,hx,h⟩:=aD h;rw[ca hx,Bk h]at r;exact OM.mp r
theorem DB(H:Sound B I n)(C:AC A ρ fr n)(N:En A env sc ρ fr)(S:SR B ρ fr σ s)(F:Fm B env sc le ρ fr s.heap)(op:UnaryOp)(x:Expr)(pos:Vw) :
  Wp B A ρ fr s ((I.ev x sc le σ).bind λv s=>Kd op v s) (eval (.UnaryOp op x pos) env) (aM B fr):=
 Wp.of λhn=>wpAny_UnaryOp ((H.ev x C N S F).step (.refl ..) rfl hn λa σ₁ dk u s₁ S₁ T₁ r_ x₁ r₁ e₁=>by
  cases op with
  | USub=>
   obtain⟨i,hi,e₁⟩:=aU e₁ hn;rw[db hi]at r₁;obtain⟨t,rfl⟩:=l_.mp r₁;exact neg_int (Wp.PZ _ S₁ T₁ x₁ e₁ (l_.mpr ⟨_,rfl⟩))
  | Not=>
   obtain⟨b,hb,e₁⟩:=aU e₁ hn;refine b_ (lG hb r₁) ?_
   refine Ua ?_
   exact S8 (XH (Tg (Wp.done S₁ T₁ x₁ e₁ (OM.mpr rfl))))
  | _=>exact absurd e₁ hn)
theorem Dt(H:Sound B I n)(C:AC A ρ fr n)(N:En A env sc ρ fr)(S:SR B ρ fr σ s)(F:Fm B env sc le ρ fr s.heap)(t b o:Expr)(pos:Vw) :
  Wp B A ρ fr s (JK I t b o sc le σ) (eval (.IfExp t b o pos) env) (aM B fr):=
 Wp.of λhn=>wpAny_IfExp ((H.te t C N S F).step (.refl ..) rfl hn λa σ₁ dk u s₁ S₁ T₁ r_ x₁ r₁ e₁=>by
  have:u=a:=r₁
  subst this;cases u with
  | true=>exact(H.ev b (C.to T₁ x₁) (N.to T₁) S₁ (F.step T₁)).last T₁ x₁ e₁ hn
  | false=>exact(H.ev o (C.to T₁ x₁) (N.to T₁) S₁ (F.step T₁)).last T₁ x₁ e₁ hn)
theorem As(H:Sound B I n){r:Expr}{op:CmpOp}{sc:Tz}{le:LE}{σ:VS}(h:I.ev r sc le σ ≠ .no):behindInMarks op r=Zn:=by
 cases r with
 | Set a b c=>exact absurd (H.set ..) h
 | _=>rfl
theorem ze{l r:Expr}{op:CmpOp}{pos:Vw}{Q:SX->S9->Prop}
  (h:wpAny B.M A (eval l env) (λa s₁=>behindInMarks op r=Zn/\wpAny B.M A (eval r env) (λb s₂=>wpAny B.M A (compareOp op a b) Q E s₂) E s₁) E s):wpAny B.M A (eval (.Compare l [op] [r] pos) env) Q E s:=by
 cases hm:behindInMarks op r with
 | false=>exact wpAny_Compare1 (TJ h (λ_ _ x=>x.2) λ_ _ x=>x) hm
 | true=>
  refine b_ (eval_Compare1 ..) ?_
  exact S8 (TJ h (λ_ _ x=>by rw[hm]at x;cases x.1) λ_ _ x=>x)
theorem pd{l r:Expr}{op:CmpOp}{pos:Vw}{w:Xk SX}{Q:Bool->S9->Prop}
  (h:wpAny B.M A (eval l env) (λa s₁=>behindInMarks op r=Zn/\wpAny B.M A (eval r env) (λb s₂=>wpAny B.M A (compareOp op a b) (λc s₃=>wpAny B.M A (truthy c) Q E s₃) E s₂) E s₁) E s):wpAny B.M A (isTrue (.Compare l [op] [r] pos) env w) Q E s:=by
 cases hm:behindInMarks op r with
 | false=>exact wpAny_isTrue_Compare1 (TJ h (λ_ _ x=>x.2) λ_ _ x=>x) hm
 | true=>
  refine b_ (isTrue_Compare1 ..) ?_
  exact S8 (TJ h (λ_ _ x=>by rw[hm]at x;cases x.1) λ_ _ x=>x)
theorem zk(H:Sound B I n)(C:AC A ρ fr n)(N:En A env sc ρ fr)(S:SR B ρ fr σ s)(F:Fm B env sc le ρ fr s.heap)(l:Expr)(ops:List CmpOp)(rs:List Expr)(pos:Vw) :
  Wp B A ρ fr s (Fu I l ops rs sc le σ) (eval (.Compare l ops rs pos) env) (aM B fr):=au λop ho=>au λr hr => .of λhn=>by
 refine b_ (dC ho) ?_;refine b_ (dC hr) ?_
 refine ze ((H.ev l C N S F).step (.refl ..) rfl hn λa σ₁ dk u s₁ S₁ T₁ r_ x₁ r₁ e₁=>⟨As H (sc:=sc) (le:=le) (σ:=σ₁) λq => ?_,?_⟩)
 ·rw[q]at e₁;exact hn e₁
 ·refine(H.ev r (C.to T₁ x₁) (N.to T₁) S₁ (F.step T₁)).step T₁ e₁ hn λb σ₂ w_ v s₂ S₂ T₂ o_ x₂ r₂ e₂ => ?_
  obtain⟨c,hc,e₃⟩:=aU e₂ hn;exact zE S₂ (VR.mono o_.goes o_.still _ _ r₁) r₂ hc C.cLine λtk=>Wp.PZ tk S₂ T₂ (x₂.trans x₁) e₃ (OM.mpr rfl)
theorem zD(H:Sound B I n)(C:AC A ρ fr n)(N:En A env sc ρ fr)(S:SR B ρ fr σ s)(F:Fm B env sc le ρ fr s.heap)(l:Expr)(ops:List CmpOp)(rs:List Expr)(pos:Vw)(w:Xk SX) :
  Wp B A ρ fr s (Ge I l ops rs sc le σ) (isTrue (.Compare l ops rs pos) env w) ka:=au λop ho=>au λr hr => .of λhn=>by
 refine b_ (dC ho) ?_;refine b_ (dC hr) ?_
 refine pd ((H.ev l C N S F).step (.refl ..) rfl hn λa σ₁ dk u s₁ S₁ T₁ r_ x₁ r₁ e₁=>⟨As H (sc:=sc) (le:=le) (σ:=σ₁) λq => ?_,?_⟩)
 ·rw[q]at e₁;exact hn e₁
 ·refine(H.ev r (C.to T₁ x₁) (N.to T₁) S₁ (F.step T₁)).step T₁ e₁ hn λb σ₂ w_ v s₂ S₂ T₂ o_ x₂ r₂ e₂ => ?_
  obtain⟨c,hc,e₃⟩:=o9 e₂ hn;exact zE S₂ (VR.mono o_.goes o_.still _ _ r₁) r₂ hc C.cLine λtk=>XH (Wp.PZ tk S₂ T₂ (x₂.trans x₁) e₃ rfl)
theorem zU(H:Sound B I n)(C:AC A ρ fr n)(N:En A env sc ρ fr)(S:SR B ρ fr σ s)(F:Fm B env sc le ρ fr s.heap){e:Expr}{t:Xk Bool}(ht:t=(do let v <- eval e env;standAt e.pos;holding [v] (truthy v))) :
  Wp B A ρ fr s (bK I e sc le σ) t ka := .of λhn=>by
 refine b_ ht ?_
 refine S8 ((H.ev e C N S F).step (.refl ..) rfl hn λa σ₁ dk u s₁ S₁ T₁ r_ x₁ r₁ e₁ => ?_)
 obtain⟨b,hb,e₂⟩:=o9 e₁ hn;refine b_ (lG hb r₁) ?_
 exact S8 (Um (Ua (XH (Wp.done S₁ T₁ x₁ e₂ rfl))))
theorem zG(H:Sound B I n)(C:AC A ρ fr n)(N:En A env sc ρ fr)(S:SR B ρ fr σ s)(F:Fm B env sc le ρ fr s.heap)(op:UnaryOp)(x:Expr)(p:Vw)(w:Xk SX):Wp B A ρ fr s (Fr I op x sc le σ) (isTrue (.UnaryOp op x p) env w) ka := .of λhn=>by
 cases op with
 | Not=>
  refine b_ (arm_isTrue_UnaryOp ..) ?_
  refine S8 ((H.te x C N S F).step (.refl ..) rfl hn λa σ₁ dk u s₁ S₁ T₁ r_ x₁ r₁ e₁ => ?_)
  refine b_ (show u=a from r₁) ?_
  exact Tg (Wp.done S₁ T₁ x₁ e₁ rfl)
 | _=>exact absurd rfl hn
theorem yP(H:Sound B I n)(C:AC A ρ fr n)(N:En A env sc ρ fr)(S:SR B ρ fr σ s)(F:Fm B env sc le ρ fr s.heap)(e:Expr):Wp B A ρ fr s (FZ I e sc le σ) (isTrue e env (eval e env)) ka:=by
 have g:∀ {e:Expr},isTrue e env (eval e env)=(do let v <- eval e env;standAt e.pos;holding [v] (truthy v))->Wp B A ρ fr s (bK I e sc le σ) (isTrue e env (eval e env)) ka:=λh=>zU H C N S F h
 cases e with
 | UnaryOp op x p=>exact zG H C N S F op x p _
 | BoolOp op vs p=>(refine b_ (arm_isTrue_BoolOp ..) ?_);exact H.ts op vs C N S F
 | Compare l ops rs p=>exact zD H C N S F l ops rs p _
 | IfExp=>trivial
 | _=>exact g rfl
theorem oY(op:W8)(e:Expr)(r:List Expr){Q:Bool->S9->Prop}(h:wpAny B.M A (isTrue e env (eval e env)) (λb s'=>match op,b with
  | .And,Zn=>Q Zn s'
  | .Or,Zm=>Q Zm s'
  | _,_=>wpAny B.M A (allTrue op r env) Q E s') E s):wpAny B.M A (allTrue op (e::r) env) Q E s:=by
 refine b_ (arm_allTrue_cons ..) ?_
 refine S8 (TJ h (λb s' q => ?_) λ_ _ x=>x)
 cases op<;>cases b<;>first|exact Tg q|exact q
theorem x8(H:Sound B I n)(C:AC A ρ fr n)(N:En A env sc ρ fr)(S:SR B ρ fr σ s)(F:Fm B env sc le ρ fr s.heap)(op:W8)(es:List Expr):Wp B A ρ fr s (Br I op es sc le σ) (allTrue op es env) ka:=by
 refine Wp.of λhn => ?_
 cases es with
 | nil=>
  refine b_ (arm_allTrue_nil ..) ?_
  cases op with
  | And=>exact Tg (Wp.done S (.refl ..) rfl rfl rfl)
  | Or=>exact Tg (Wp.done S (.refl ..) rfl rfl rfl)
 | cons e r=>
  refine oY op e r ((H.te e C N S F).step (.refl ..) rfl hn λa σ₁ dk u s₁ S₁ T₁ r_ x₁ r₁ e₁ => ?_)
  have:u=a:=r₁
  subst this;cases op<;>cases u
  ·exact Wp.done S₁ T₁ x₁ e₁ rfl
  ·exact(H.ts _ r (C.to T₁ x₁) (N.to T₁) S₁ (F.step T₁)).last T₁ x₁ e₁ hn
  ·exact(H.ts _ r (C.to T₁ x₁) (N.to T₁) S₁ (F.step T₁)).last T₁ x₁ e₁ hn
  ·exact Wp.done S₁ T₁ x₁ e₁ rfl
theorem gX{e:Expr}{r:List Expr}(h:∀ a b,e ≠ .Starred a b):starEach (e::r) env=(Zn,eval e env)::starEach r env:=by
 cases e with
 | Starred a b=>exact absurd rfl (h a b)
 | _=>rfl
theorem jW{pos:Vw}{t:Xk SX}{l:List (Bool×Xk SX)}:backTo pos ((Zn,t)::l)=(Zn,t)::backTo pos l:=rfl
theorem Eh(H:Sound B I n)(C:AC A ρ fr n)(N:En A env sc ρ fr)(S:SR B ρ fr σ s)(F:Fm B env sc le ρ fr s.heap)(es:List Expr)(pos:Vw) :
  Wp B A ρ fr s (Ia I es sc le σ) (spliced (backTo pos (starEach es env))) (FS B fr):=by
 refine Wp.of λhn => ?_
 cases es with
 | nil=>(refine b_ (arm_starEach_nil ..) ?_);exact Calls.spliced_nil (Wp.done S (.refl ..) rfl rfl (by show k_ B ρ s.heap (aj ρ fr) [] [];unfold k_;rfl))
 | cons e r=>
  have hs:∀ a b,e ≠ .Starred a b:=by
   rintro a b rfl
   refine hn ?_
   unfold Ia;dsimp only
   (refine b_ (H.star ..) ?_);rfl
  refine b_ (gX hs) ?_;refine b_ jW ?_
  refine Calls.spliced_cons ((H.ev e C N S F).step (.refl ..) rfl hn λa σ₁ dk u s₁ S₁ T₁ r_ x₁ r₁ e₁ => ?_)
  refine(H.es r pos (C.to T₁ x₁) (N.to T₁) S₁ (F.step T₁)).step T₁ e₁ hn λb σ₂ w_ v s₂ S₂ T₂ o_ x₂ r₂ e₂ => ?_
  refine Wp.done S₂ T₂ (x₂.trans x₁) e₂ ?_
  show k_ B w_ s₂.heap (aj w_ fr) (a::b) (u::v)
  unfold k_
  exact⟨u,v,rfl,VR.mono o_.goes o_.still _ _ r₁,r₂⟩
theorem ye(H:Sound B I n)(C:AC A ρ fr n)(N:En A env sc ρ fr)(S:SR B ρ fr σ s)(F:Fm B env sc le ρ fr s.heap)(es:List Expr)(pos:Vw) :
  Wp B A ρ fr s ((I.es es sc le σ).bind λvs s=>s.newL vs) (eval (.List es pos) env) (aM B fr):=by
 refine Wp.of λhn=>wpAny_List ((H.es es pos C N S F).step (.refl ..) rfl hn λvs σ₁ dk us s₁ S₁ T₁ r_ x₁ r₁ e₁ => ?_)
 unfold VS.newL at e₁;cases hb:U9 (len vs) 1000 with
 | false=>rw[hb]at e₁;exact absurd e₁ hn
 | true=>
  rw[hb]at e₁;have hle:vs.length<=1000:=by(refine A' (aJ ..) ?_);exact Tw hb
  have hl:us.length=vs.length:=cn r₁
  refine⟨by(refine b_ YM ?_);lia,?_⟩
  have hcs:=S₁.Os
  obtain⟨ρ',S',T',x',r'⟩:=gk (us:=us.toArray) (tk:=s₁.toks) (O':=ij vs) S₁ (kR (by show vs.length+σ₁.cap<=2 ^ 20;lia)) λρ' h' y_ p G st hp hg=>by
   refine n8 ⟨by(exact b_ hp rfl),us.toArray,0,hg,?_⟩
   show k_ B ρ' h' y_ vs us
   exact k_.mono G st _ _ r₁
  exact Wp.done S' (T₁.trans T') (x'.trans x₁) e₁ r'
theorem AX(H:Sound B I n)(C:AC A ρ fr n)(N:En A env sc ρ fr)(S:SR B ρ fr σ s)(F:Fm B env sc le ρ fr s.heap)(es:List Expr)(k:Nat)(pos:Vw) :
  Wp B A ρ fr s ((I.es es sc le σ).bind λvs s=>ac (U9 (len vs) 1000) (.ok (gS vs) s) .no) (eval (.Tuple es k pos) env) (aM B fr):=by
 refine Wp.of λhn=>wpAny_Tuple ((H.es es pos C N S F).step (.refl ..) rfl hn λvs σ₁ dk us s₁ S₁ T₁ r_ x₁ r₁ e₁ => ?_)
 obtain⟨hb,e₂⟩:=bv e₁ hn;have hle:vs.length<=1000:=by(refine A' (aJ ..) ?_);exact Tw hb
 have hl:us.length=vs.length:=cn r₁
 refine⟨by(refine b_ YM ?_);lia,?_⟩
 obtain⟨S',T'⟩:=S₁.grow (s':={ s₁ with heap:=s₁.heap.push { cls := .type "tuple",data := .seq us.toArray } }) (λb o e=>Tj _ e) rfl rfl
 refine Wp.done S' (T₁.trans T') x₁ e₂ (qI ?_)
 unfold VR
 exact⟨_,us.toArray,0,rfl,λh=>by obtain⟨o,ho⟩:=S₁.there h;exact absurd (Vr ho) (YD _),Uw _ rfl,k_.mono T'.goes T'.still _ _ r₁⟩
end
end
section
open PySem PySem.W PyProof.Rows PyProof
mutual
noncomputable def IR(B:Base)(ρ:e_)(h:Tr)(ow:Tc->Prop):List (SQ×V)->List (SX×SX)->Prop
 | [],l=>l=[]
 | (k,v)::r,l=>X3 λku vu l'=>A4 (l=(ku,vu)::l') (PR B h ow k ku) (VR B ρ h ow v vu) (IR B ρ h ow r l')
end
noncomputable def HA:List (SQ×V)->Prop
 | []=>True
 | (k,_)::r=>fY r k=Zk/\HA r
def LS(B:Base)(fr:List Tc)(kvs:List (SQ×V))(ρ:e_)(s:S9)(l:List (SX×SX)):Prop:=IR B ρ s.heap (aj ρ fr) kvs l/\HA kvs
section
variable{B:Base}{I:It}{A:TV}{ρ ρ':e_}{fr:List Tc}{σ:VS}{s:S9}{n:Nat}{E:SX->S9->Prop}{env:WD}{sc:Tz}{le:LE}{h h':Tr}{ow y_:Tc->Prop}
theorem CH{op:W8}{a b:Expr}{pos:Vw}{c:Bool}{Q:SX->S9->Prop}(h:wpAny B.M A (eval a env) (λu s₁=>∃ c,u = .bool c/\(z8 op c=Zm->Q u s₁)/\(z8 op c=Zn->wpAny B.M A (eval b env) Q E s₁)) E s) :
  wpAny B.M A (boolOp pos op (evalEach [a,b] env)) Q E s:=by
 refine S8 (TJ h (λu s₁ x => ?_) λ_ _ x=>x)
 obtain⟨c,rfl,h1,h2⟩:=x;refine S8 (Um (S8 (Ua (XH ?_))))
 cases op<;>cases c
 ·exact Tg (h1 rfl)
 ·exact h2 rfl
 ·exact h2 rfl
 ·exact Tg (h1 rfl)
theorem qT(H:Sound B I n)(C:AC A ρ fr n)(N:En A env sc ρ fr)(S:SR B ρ fr σ s)(F:Fm B env sc le ρ fr s.heap)(op:W8)(es:List Expr)(pos:Vw) :
  Wp B A ρ fr s (qW I op es sc le σ) (eval (.BoolOp op es pos) env) (aM B fr):=au λp he => .of λhn=>by
 refine b_ (ui he ..) ?_;refine b_ (arm_eval_BoolOp ..) ?_
 refine CH (c:=Zm) ((H.ev p.1 C N S F).step (.refl ..) rfl hn λv σ₁ dk u s₁ S₁ T₁ r_ x₁ r₁ e₁ => ?_)
 obtain⟨c,hc,e₁⟩:=aU e₁ hn
 refine⟨c,lG hc r₁,λh => ?_,λh => ?_⟩
 ·rw[h]at e₁;exact Wp.done S₁ T₁ x₁ e₁ r₁
 ·rw[h]at e₁;exact(H.ev p.2 (C.to T₁ x₁) (N.to T₁) S₁ (F.step T₁)).last T₁ x₁ e₁ hn
theorem cV{o:Expr}(h:cX o=Zn)(m:Tq)(t:Xk SX):attributeBase o m env t=t:=by
 cases o with
 | Call=>cases h
 | _=>rfl
theorem hF{γ:Type}{b:Bool}{x res:R γ}(h:res=ac b .no x)(hn:res ≠ .no):b=Zn/\res=x:=by
 cases b with
 | true=>exact absurd h hn
 | false=>exact⟨rfl,h⟩
theorem xC(H:Sound B I n)(Fa:Facts B)(Co:lt B)(C:AC A ρ fr n)(N:En A env sc ρ fr)(S:SR B ρ fr σ s)(F:Fm B env sc le ρ fr s.heap)(o:Expr)(m:Tq)(pos:Vw) :
  Wp B A ρ fr s (ac (cX o) .no ((I.ev o sc le σ).bind λo s=>Mine.getAttr B.T o m s)) (eval (.Attribute o m pos) env) (aM B fr):=by
 refine Wp.of λhn => ?_
 obtain⟨h1,e⟩:=hF rfl hn;refine b_ (arm_eval_Attribute ..) ?_;refine b_ (cV h1 ..) ?_
 refine S8 ((H.ev o C N S F).step (.refl ..) e hn λv σ₁ dk u s₁ S₁ T₁ r_ x₁ r₁ e₁=>S8 (Um (S8 (Ua ?_))))
 exact TJ ((kP Fa Co S₁ r₁).last T₁ x₁ e₁ hn) (λv s' q=>S8 (wpAny_letTemporaryGo (Tg q))) λ_ _ x=>x
theorem zf(o i:Expr){n:Nat}{c_:e_}{s₀:S9}(S:SR B ρ fr σ s)(T:dR B c_ fr s₀ ρ s)(hn:c_.m.length=n){v:V}{u:SX}(r:VR B ρ s.heap (aj ρ fr) v u) :
  X3 λv' σ' ρ'=>A5 (fZ o i n v σ = .ok v' σ') (SR B ρ' fr σ' s) (dR B c_ fr s₀ ρ' s) (ρ'.x=ρ.x) (VR B ρ' s.heap (aj ρ' fr) v' u):=by
 have g:X3 λv' σ' ρ'=>A5 (R.ok v σ = .ok v' σ') (SR B ρ' fr σ' s) (dR B c_ fr s₀ ρ' s) (ρ'.x=ρ.x) (VR B ρ' s.heap (aj ρ' fr) v' u):=⟨v,σ,ρ,rfl,S,T,rfl,r⟩
 unfold fZ;cases zj o
 ·exact g
 ·cases cX i
  ·exact g
  ·exact mx S T hn r
theorem Ah{i:Expr}(h:dK i=Zk)(u v:SX):subscripted i Zn u v=operate [u,v] (PySem.getItem u v):=by
 cases i with
 | Slice=>cases h
 | _=>rfl
theorem BN(H:Sound B I n){ρ:e_}{σ:VS}{s:S9}(x:Option Expr)(C:AC A ρ fr n)(N:En A env sc ρ fr)(S:SR B ρ fr σ s)(F:Fm B env sc le ρ fr s.heap):Wp B A ρ fr s (ld I x sc le σ) (evalPart x env) (aM B fr):=by
 cases x with
 | none=>exact Tg ⟨ρ,S,.refl ..,rfl,M'.mpr rfl⟩
 | some x=>exact H.ev x C N S F
theorem BW(H:Sound B I n)(C:AC A ρ fr n)(N:En A env sc ρ fr)(S:SR B ρ fr σ s)(F:Fm B env sc le ρ fr s.heap)(o i:Expr)(pos:Vw) :
  Wp B A ρ fr s (lh I o i sc le σ) (eval (.Subscript o i pos) env) (aM B fr):=by
 refine Wp.of λhn => ?_
 cases hs:dK i with
 | none=>
  have e:lh I o i sc le σ=(I.ev o sc le σ).bind λv s₁=>(fZ o i (len σ.o) v s₁).bind λv s=>(I.ev i sc le s).bind λi s=>Mine.getItem v i s:=by unfold lh;(exact b_ hs rfl)
  refine Subscript_ ((H.ev o C N S F).step (.refl ..) e hn λv σ₁ dk u s₁ S₁ T₁ r_ x₁ r₁ e₁ => ?_)
  obtain⟨v',QC,ρ₁',g,Q6,PJ,Qr,r₁'⟩:=zf o i S₁ T₁ (show ρ.m.length=len σ.o by(refine b_ (aJ ..) ?_);exact S.len) r₁
  rw[g]at e₁
  refine(H.ev i (C.to PJ (Qr.trans x₁)) (N.to PJ) Q6 (F.step PJ)).step PJ (show _=(I.ev i sc le QC).bind _ from e₁) hn λw σ₂ w_ u₂ s₂ S₂ T₂ o_ x₂ r₂ e₂ => ?_
  have ho:=uL (A:=A) S₂ C.PY (VR.mono o_.goes o_.still _ _ r₁') r₂ λq=>hn (e₂.trans q)
  obtain⟨⟨T,id,hl,hT⟩,W⟩:=ho;exact tail_any hT hl (W.last T₂ (x₂.trans (Qr.trans x₁)) e₂ hn) (Ah hs _ _)
 | some p=>
  obtain⟨l,hh,t⟩:=p;cases t with
  | some _=>exact absurd (by unfold lh;(exact b_ hs rfl)) hn
  | none=>
   have e:lh I o i sc le σ=(I.ev o sc le σ).bind λo s=>(ld I l sc le s).bind λl s=>(ld I hh sc le s).bind λh s=>iS o l h s:=by unfold lh;(exact b_ hs rfl)
   obtain⟨p',rfl⟩:=(xH i).of hs
   ·clear hs;refine Subscript_ ((H.ev o C N S F).step (.refl ..) e hn λv σ₁ dk u s₁ S₁ T₁ r_ x₁ r₁ e₁ => ?_)
    refine wpAny_Slice ((BN H l (C.to T₁ x₁) (N.to T₁) S₁ (F.step T₁)).step T₁ e₁ hn λw σ₂ w_ u₂ s₂ S₂ T₂ o_ x₂ r₂ e₂ => ?_)
    refine(BN H hh (C.to T₂ (x₂.trans x₁)) (N.to T₂) S₂ ((F.step T₂) :)).step T₂ e₂ hn λy σ₃ Pe RB s₃ H_ z_ Oy x₃ r₃ e₃ => ?_
    refine b_ (evalPart_none ..) ?_
    refine Tg ?_
    obtain⟨S',T'⟩:=H_.grow (s':={ s₃ with heap:=s₃.heap.push { cls := .type "slice",data := .fields #[u₂,RB,.none] } }) (λb o e=>Tj _ e) rfl rfl
    obtain⟨⟨T,id,hl,hT⟩,W⟩:=(rp (A:=A) S' (VR.mono T'.goes T'.still _ _ (VR.mono Oy.goes Oy.still _ _ (VR.mono o_.goes o_.still _ _ r₁))) (VR.mono T'.goes T'.still _ _ (VR.mono Oy.goes Oy.still _ _ r₂)) (VR.mono T'.goes T'.still _ _ r₃) (Tr.IsSliceOf.new ..) λq=>hn (e₃.trans q) :)
    exact tail_any hT hl (W.last (z_.trans T') (x₃.trans (x₂.trans x₁)) e₃ hn) rfl
end
end
section
open PySem PySem.W PyProof.Rows PyProof
section
variable{B:Base}{I:It}{A:TV}{ρ ρ':e_}{fr:List Tc}{σ:VS}{s:S9}{n:Nat}{E:SX->S9->Prop}{env:WD}{sc:Tz}{le:LE}{h h':Tr}{ow y_:Tc->Prop}
theorem I8{α γ:Type}{o:Option α}{x res:R γ}(h:res=ag o x λ_ => .no)(hn:res ≠ .no):o=Zk/\res=x:=by
 cases o with
 | none=>exact⟨rfl,h⟩
 | some a=>exact absurd h hn
theorem qF(H:Sound B I n)(pos:Vw)(ks:List (Option Expr)):∀ (vs:List Expr) {ρ:e_} {σ:VS} {s:S9},AC A ρ fr n->En A env sc ρ fr->SR B ρ fr σ s->Fm B env sc le ρ fr s.heap->
  Wp B A ρ fr s (kU I ks vs sc le σ) (evalPairs (pairTrees ks vs env pos)) (LS B fr):=by
 induction ks with
 | nil=>exact λvs ρ σ s C N S F=>aF λh=>by(refine b_ (bu h) ?_);exact evalPairs_nil ⟨ρ,S,.refl ..,rfl,rfl,trivial⟩
 | cons k ks IH=>
  refine λvs ρ σ s C N S F=>au λk hk=>au λp hp => .of λhn => ?_
  refine b_ hk ?_;refine b_ (iX hp) ?_
  refine evalPairs_cons ((H.ev k C N S F).step (.refl ..) rfl hn λkv σ₁ dk ku s₁ S₁ T₁ r_ x₁ r₁ e₁ => ?_)
  obtain⟨kd,hkd,e₁⟩:=aU e₁ hn;refine S8 ((H.ev p.1 (C.to T₁ x₁) (N.to T₁) S₁ (F.step T₁)).step T₁ e₁ hn λvv σ₂ w_ vu s₂ S₂ T₂ o_ x₂ r₂ e₂=>S8 (Um (Tg ?_)))
  refine(IH p.2 (C.to T₂ (x₂.trans x₁)) (N.to T₂) S₂ (F.step T₂)).step T₂ e₂ hn λr σ₃ Pe us s₃ H_ z_ Oy x₃ r₃ e₃ => ?_
  obtain⟨_,e₃⟩:=bv e₃ hn;obtain⟨h2,e₃⟩:=I8 e₃ hn;rw[ca hkd]at r₁;have q1:VR B dk s₁.heap (aj dk fr) (.d kd) ku:=r₁
  unfold VR at q1;exact Wp.done H_ z_ (x₃.trans (x₂.trans x₁)) e₃ ⟨⟨ku,vu,us,rfl,PR.mono Oy.still _ _ (PR.mono o_.still _ _ q1),VR.mono Oy.goes Oy.still _ _ r₂,r₃.1⟩,h2,r₃.2⟩
theorem vP:∀ {kvs:List (SQ×V)} {l:List (SX×SX)},IR B ρ h ow kvs l->l.length=kvs.length
 | [],l,r=>by unfold IR at r;subst r;rfl
 | (k,v)::q,l,r=>by
  obtain⟨ku,vu,l',rfl,_,_,h3⟩:=r
  simp [vP h3]
theorem vW:∀ {kvs:List (SQ×V)} {l:List (SX×SX)},be gu kvs=Zm->HA kvs->IR B ρ h ow kvs l->∃ ks:List (Tq×SX),A4 (Carries (strKind B.prog B.w) l ks) (C_ B ρ h ow kvs ks) ((ks.map (·.1)).Nodup) (∀ x,fY kvs (.str x)=Zk->x∉ks.map (·.1))
 | [],l,a,u,r=>by
  unfold IR at r;subst r
  exact⟨[],trivial,by unfold C_;rfl,Xi,λx _ h=>by cases h⟩
 | (k,v)::q,l,a,u,r=>by
  obtain⟨ku,vu,l',rfl,h1,h2,h3⟩:=r;obtain⟨a1,a2⟩:=cA a;obtain⟨x,rfl⟩:=kQ a1;obtain⟨ks,c1,c2,c3,c4⟩:=vW a2 u.2 h3;obtain⟨t,rfl⟩:=h1
  refine⟨(x,vu)::ks,⟨by show Yt x (.str x t)=Zm;simp [Yt],rfl,c1⟩,?_,?_,λy hy => ?_⟩
  ·unfold C_;exact⟨x,vu,ks,rfl,rfl,h2,c2⟩
  ·rw[UJ,Vk];exact⟨c4 x u.1,c3⟩
  ·rw[fN,kD]at hy;cases hs:aw x y with
   | true=>rw[hs]at hy;cases hy
   | false=>
    rw[hs]at hy;rw[UJ,Ub]
    rintro(h|h)
    ·exact jK hs h.symm
    ·exact c4 y hy h
theorem mM(n:Nat):∀ {ks:List (Option Expr)} {vs:List Expr},b8 n ks vs=Zm->ks.all (·.isSome)=Zm/\ks.length=vs.length/\ks.length < n:=by
 induction n with
 | zero=>exact λh=>Ti h
 | succ n IH=>
  intro ks vs h;cases ks with
  | nil=>(refine b_ (bu (show ip vs=Zm from h)) ?_);exact⟨rfl,rfl,Y9 n⟩
  | cons k ks=>
   obtain⟨k',hk,h⟩:=aB (show ag k Zn (λ_=>ag (mK vs) Zn λq=>b8 n ks q.2)=Zm from h)
   obtain⟨q,hq,h⟩:=aB h;obtain⟨h1,h2,h3⟩:=IH h;refine b_ hk ?_;refine b_ (iX hq) ?_
   exact⟨h1,congrArg Ul h2,Nat.succ_lt_succ h3⟩
theorem rZ{a:Tc}(hm:a≠sysModules)(h1:h.DictOf (strKind B.prog B.w) a [])(h2:h.DictOf (intKind B.prog B.w) a [])(h3:h.DictOfH (tupleKind (strKind B.prog B.w)) a []):OR B ρ h ow (.dict []) (a,[]):=by
 refine⟨rfl,hm,?_,λ_=>⟨[],h1,by unfold C_;rfl⟩,λ_=>⟨[],h2,by unfold G';rfl⟩,λ_=>⟨[],h3,by unfold N_;rfl⟩,by simp⟩
 obtain⟨o,es,ep,ho,hx,_⟩:=h1
 exact⟨o,ho,hx.1,hx.2.1⟩
theorem ut(Fa:Facts B)(S:SR B ρ fr σ s):∃ ρ',A4 (SR B ρ' fr ⟨σ.o++[.dict []],σ.x,σ.cap⟩ { s with heap:=s.heap.push { cls := .type "dict",data := .dict #[] } }) (dR B ρ fr s ρ' { s with heap:=s.heap.push { cls := .type "dict",data := .dict #[] } }) (ρ'.x=ρ.x) (ρ'.m[len σ.o]? = Zj (Zj (s.heap.objs.size,[]))):=by
 have key:=S.add (s':={ s with heap:=s.heap.push { cls := .type "dict",data := .dict #[] } }) (p:=(s.heap.objs.size,[])) (O' := .dict [])
  (λb hb=>by
   rcases hb with rfl|hb
   ·exact bn _
   ·cases hb) (λb o e=>Tj _ e) rfl rfl (λG St C=>rZ (vE S Fa.sys (bn _)) (Tr.DictOf.new _) (Tr.DictOf.new _) (Tr.DictOfH.new _)) trivial
 exact⟨_,key.1,key.2,rfl,by(refine b_ (aJ ..) ?_;refine A' (S.len ..) ?_);exact gF ρ _⟩
theorem uy{i:Nat}(h:pO σ i=Zm):σ.get i=Zj (.dict []):=by
 obtain⟨l,hl,h⟩:=aB h;obtain⟨o,ho,hl⟩:=aD hl;refine b_ ho ?_;refine b_ (sr hl) ?_;exact b_ (bu h) rfl
theorem Wp.pairs{α:Type}{r:R α}{pairs:List (Xk SX×Xk SX)}{rel:α->e_->S9->List (SX×SX)->Prop}(W:Wp B A ρ fr s r (evalPairs pairs) rel) :
  Wp B A ρ fr s r (evalPairs pairs) (λa ρ s us=>us.length=pairs.length/\rel a ρ s us):=by
 cases r with
 | no=>trivial
 | exc σ'=>exact W
 | ok a σ'=>exact TJ (wpAny_evalPairs_len W) (λus s' ⟨h,ρ',h1,h2,h3,h4⟩=>⟨ρ',h1,h2,h3,h,h4⟩) λ_ _ h=>h
theorem xE(H:Sound B I n)(Fa:Facts B)(C:AC A ρ fr n)(N:En A env sc ρ fr)(S:SR B ρ fr σ s)(F:Fm B env sc le ρ fr s.heap)(ks:List (Option Expr))(vs:List Expr)(pos:Vw){res:R V}(hr:res=ac (b8 16 ks vs) ((σ.new (.dict [])).bind λd s₁=>(kU I ks vs sc le s₁).bind λkvs s₂=>ac (pO s₂ (len σ.o)) (ac (be gu kvs) (.ok d (s₂.put (len σ.o) (.dict kvs))) .no) .no) .no)(hn:res ≠ .no)
  {dk:e_} (S₁:SR B dk fr ⟨σ.o++[.dict []],σ.x,σ.cap⟩ { s with heap:=s.heap.push { cls := .type "dict",data := .dict #[] } }) (T₁:dR B ρ fr s dk { s with heap:=s.heap.push { cls := .type "dict",data := .dict #[] } }) (x₁:dk.x=ρ.x) (hi:dk.m[len σ.o]? = Zj (Zj (s.heap.objs.size,[]))) (hk0:ks≠[]) :
  wpAny B.M A (eval (.Dict ks vs pos) env) (QP B ρ fr s res (aM B fr)) (EP B ρ fr s res) s:=by
 obtain⟨h1,e⟩:=bv hr hn;obtain⟨a1,a2,a3⟩:=mM 16 h1;refine wpAny_Dict_any a1 a2 hk0 (by exact Vc a3) ?_
 refine(qF H pos ks vs (C.to T₁ x₁) (N.to T₁) S₁ (F.step T₁)).pairs.step T₁ e hn λkvs σ₂ w_ us s₂ S₂ T₂ o_ x₂ r₂ e₂ => ?_
 obtain⟨b1,e₃⟩:=bv e₂ hn;obtain⟨b2,e₄⟩:=bv e₃ hn;obtain⟨ls,c1,c2,c3,_⟩:=vW b2 r₂.2.2 r₂.2.1;obtain⟨p,hp,ro⟩:=S₂.at (uy b1) (λh=>by cases h)
 have ep:p=(s.heap.objs.size,[]):=by
  rcases o_.goes.m _ _ hi with z|z
  ·rw[z]at hp;cases hp;rfl
  ·rw[z]at hp;cases hp
 subst ep;obtain⟨_,hm,_,d1,_⟩:=ro;obtain⟨l0,hd,hr0⟩:=d1 rfl;subst hr0;have hlen:kvs.length<=15:=by
  have h3:=vP r₂.2.1
  have h4:=r₂.1
  rw[pairTrees_length _ _ _ _ a1 a2]at h4
  lia
 refine wpAny_storeAll us ls [] s₂ _ c1 hd (by(refine b_ YM ?_);have:=kC c2;simp;lia) λh' hm' hs' => ?_
 rw[merged_nil_of_nodup _ c3]at hm';obtain⟨⟨oa,hoa,hpl⟩,_⟩:=fX hd;obtain⟨⟨ob,hob,_⟩,_⟩:=fX hm';obtain⟨H_,z_⟩:=iy (tk:=s₂.toks+us.length) S₂ (O' := .dict kvs) hp hoa hpl hs' ⟨_,hob⟩ trivial λSt=>gy hm b2 hm' (C_.mono (.refl _) St _ _ c2) (by lia)
 exact Wp.done H_ (T₂.trans z_) (x₂.trans x₁) e₄ (.inl ⟨_,hp,rfl⟩)
theorem wZ(H:Sound B I n)(Fa:Facts B)(C:AC A ρ fr n)(N:En A env sc ρ fr)(S:SR B ρ fr σ s)(F:Fm B env sc le ρ fr s.heap)(ks:List (Option Expr))(vs:List Expr)(pos:Vw) :
  Wp B A ρ fr s (pq I ks vs sc le σ) (eval (.Dict ks vs pos) env) (aM B fr):=by
 refine Wp.of λhn => ?_
 obtain⟨dk,S₁,T₁,x₁,hi⟩:=ut Fa S;cases hk:ip ks with
 | true=>
  rw[show pq I ks vs sc le σ=ac (ip ks) _ _ from rfl,hk]at hn ⊢
  obtain⟨hv,e⟩:=bv (show _=ac (ip vs) (σ.new (.dict [])) .no from rfl) hn
  refine b_ (bu hk) ?_;refine b_ (bu hv) ?_
  exact wpAny_Dict_empty (Wp.done S₁ T₁ x₁ rfl (.inl ⟨_,hi,rfl⟩))
 | false=>
  rw[show pq I ks vs sc le σ=ac (ip ks) _ _ from rfl,hk]at hn ⊢
  exact xE H Fa C N S F ks vs pos rfl hn S₁ T₁ x₁ hi λz=>by rw[z]at hk;cases hk
end
end
section
open PySem PySem.W PyProof.Rows PyProof
theorem eN(env:WD)(pos:Vw):∀ {n:Nat} {es:List Expr},bH n es=Zm->(backTo pos (starEach es env)).any (·.1)=Zn/\(backTo pos (starEach es env)).all (!·.1)=Zm/\es.length < n
 | 0,_,h=>by unfold bH at h;cases h
 | n+1,[],_=>⟨rfl,rfl,by simp⟩
 | n+1,e::r,h=>by
  unfold bH at h;cases hs:hG e with
  | true=>rw[hs]at h;cases h
  | false=>
   rw[hs]at h;have hne:∀ a b,e ≠ .Starred a b:=by rintro a b rfl;cases hs
   obtain⟨h1,h2,h3⟩:=eN env pos h;refine b_ (gX hne) ?_;refine b_ jW ?_
   exact⟨by simpa using h1,by simpa using h2,by simp;omega⟩
section
variable{B:Base}{I:It}{A:TV}{ρ ρ':e_}{fr:List Tc}{σ:VS}{s:S9}{n:Nat}{E:SX->S9->Prop}{env:WD}{sc:Tz}{le:LE}
theorem pG{f:SX}{trees:List (Bool×Xk SX)}(ht:trees.any (·.1)=Zn){Q:Args->S9->Prop}(h:wpAny B.M A (spliced trees) (λvs s'=>Q ⟨vs,[]⟩ s') E s):wpAny B.M A (evalArgs f Zm trees []) Q E s:=by
 cases trees with
 | nil=>
  unfold evalArgs
  show wpAny B.M A (spliced [] >>= _) Q E s
  refine S8 (TJ h (λvs s' h' => ?_) λ_ _ x=>x)
  refine S8 (Tg (Ua ?_))
  exact S8 (Tg (S8 (Tg (Tg h'))))
 | cons p rest=>
  obtain⟨st,x⟩:=p;cases st with
  | true=>simp at ht
  | false=>exact Calls.evalArgs_plain h
theorem dP{pos:Vw}{f:SX}{first:List SX}{trees:List (Bool×Xk SX)}(ht:trees.any (·.1)=Zn){Q:SX->S9->Prop}
  (h:wpAny B.M A (spliced trees) (λvs s₁=>(∀ Q':Keeper->S9->Prop,(∀ k,Q' k s₁)->wpAny B.M A (keeperOf f) Q' E s₁)/\wpAny B.M A (call f (first++vs)) Q E s₁) E s):wpAny B.M A (callWith pos f first trees []) Q E s:=by
 unfold callWith;refine S8 (Ua (pG ht (TJ h (λvs s₁ h₁=>S8 (Um ?_)) λ_ _ x=>x)))
 have tail:∀ {t:Xk SX},wpAny B.M A t Q E s₁->wpAny B.M A (t >>= λr=>holding [r] point >>= λ_=>pure r) Q E s₁:=
  λht=>S8 (TJ ht (λr s₂ hr=>S8 (Ua (wpAny_point (Tg hr)))) λ_ _ x=>x)
 have hst:(trees.any (λx=>x.fst) || ([]:List (Option Tq×Xk SX)).any λx=>x.fst.isNone)=Zn:=by
  (refine b_ (List.any_nil ..) ?_;refine b_ (Bool.or_false ..) ?_);exact ht
 refine b_ hst ?_
 refine S8 (m:=keeperOf f) (h₁.1 _ λk => ?_)
 cases k with
 | frame=>
  dsimp only
  split
  ·exact tail h₁.2
  ·exact tail (by unfold callMarked;exact Calls.wpAny_keep h₁.2)
 | boundFrame=>
  dsimp only
  split
  ·exact tail h₁.2
  ·exact tail (by unfold callMarked;exact Calls.wpAny_keep h₁.2)
 | machine=>exact tail h₁.2
 | caller=>exact tail (wpAny_operateT h₁.2)
theorem kZ{id:String}{Q:Keeper->S9->Prop}(h:∀ k,Q k s):wpAny B.M A (keeperOf (.builtin id)) Q E s:=Tg (h _)
theorem tz(H:Sound B I n)(C:AC A ρ fr n)(hap:∀ b∈fr,b∉ρ.fs)(S:SR B ρ fr σ s){k:MK}{o:V}{u:SX}{as:List V}{us:List SX}(ra:VR B ρ s.heap (aj ρ fr) o u)(rs:k_ B ρ s.heap (aj ρ fr) as us) :
  Wp B A ρ fr s (iV I k o as σ) (call k.id (u::us)) (aM B fr):=by
 have one:∀ {f:V->R V} {g:List SX->Xk SX},(∀ v w,VR B ρ s.heap (aj ρ fr) v w->Wp B A ρ fr s (f v) (g [w]) (aM B fr))->
   Wp B A ρ fr s (match as with|[v]=>f v|_ => .no) (g us) (aM B fr):=by
  intro f g hf;cases as with
  | nil=>trivial
  | cons v as=>
   cases as with
   | nil=>obtain⟨w,rfl,r1⟩:=iw rs;exact hf v w r1
   | cons=>trivial
 cases k with
 | fn f=>
  refine H.cl C hap S (v := .val (.ref f)) ?_ ?_
  ·unfold VR;exact⟨rfl,rfl⟩
  ·unfold k_;exact⟨u,us,rfl,ra,rs⟩
 | pop=>exact CN S ra rs
 | app=>exact one (g:=λus=>call (.builtin "list.append") (u::us)) λv w r=>tY S ra r
 | ext=>exact one (g:=λus=>call (.builtin "list.extend") (u::us)) λv w r=>tK S ra r
 | idx=>exact one (g:=λus=>call (.builtin "list.index") (u::us)) λv w r=>yh S ra r
 | get=>exact one (g:=λus=>call (.builtin "dict.get") (u::us)) λv w r=>DS S ra r
 | join=>exact one (g:=λus=>call (.builtin "str.join") (u::us)) λv w r=>Aw S ra r
theorem rA(H:Sound B I n)(S:SR B ρ fr σ s){k:MK}{o:V}{as:List V}(hn:iV I k o as σ ≠ .no){Q:Keeper->S9->Prop}(h:∀ k,Q k s):wpAny B.M A (keeperOf k.id) Q E s:=by
 cases k with
 | fn f=>
  refine H.kp (v := .val (.ref f)) hn S ?_ h
  unfold VR;exact⟨rfl,rfl⟩
 | _=>exact kZ h
theorem rU{f:Expr}{as:List Expr}{pos:Vw}(h:fP f=Zk)(env:WD):eval (.Call f as [] pos) env=(do callWith pos (<- eval f env) [] (backTo pos (starEach as env)) (backToKw pos (keywordEach [] env))):=by
 cases f<;>first|rfl|cases h
theorem yq(H:Sound B I n)(Fa:Facts B)(C:AC A ρ fr n)(N:En A env sc ρ fr)(S:SR B ρ fr σ s)(F:Fm B env sc le ρ fr s.heap)(f:Expr)(as:List Expr)(ks:List Keyword)(pos:Vw) :
  Wp B A ρ fr s (mw B.T I f as ks pos sc le σ) (eval (.Call f as ks pos) env) (aM B fr):=by
 refine Wp.of λhn => ?_
 cases ks with
 | cons=>exact absurd (by unfold mw;rfl) hn
 | nil=>
  obtain⟨hf,e⟩:=bv (show mw B.T I f as [] pos sc le σ=_ by unfold mw;rfl) hn
  obtain⟨t1,t2,t3⟩:=eN env pos hf;cases ha:fP f with
  | some p=>
   obtain⟨o,m,ap⟩:=p;rw[ha]at e
   obtain rfl:=(rl f).of ha
   obtain⟨c1,e⟩:=hF e hn;obtain⟨c2,e⟩:=bv e hn;refine b_ (arm_eval_Call ..) ?_;refine b_ (cV c1 ..) ?_
   refine S8 ((H.ev o C N S F).step (.refl ..) e hn λv σ₁ dk u s₁ S₁ T₁ r_ x₁ r₁ e₁=>S8 (Um ?_))
   obtain⟨k,hk,e₂⟩:=aU e₁ hn;have hform:methodCallForm (as.length+([]:List Keyword).length) (backTo pos (starEach as env)) (backToKw pos (keywordEach [] env))=Zm:=by
    unfold methodCallForm;refine b_ t2 ?_
    show(Zm&&Zm&&decide (as.length+0+0 < 30))=Zm
    simp;lia
   unfold methodCall;refine b_ hform ?_
   refine S8 (Ua (rR Fa S₁ r₁ hk (S8 (YQ (by unfold methodCallPos;simp [(by(refine b_ (Uj c2) ?_);exact beq_self_eq_true _:(ap.endLine==pos.line)=Zm)]:methodCallPos Zm o env ap pos=pure pos) ?_))))
   refine dP t1 ?_
   refine(H.es as pos (C.to T₁ x₁) (N.to T₁) S₁ (F.step T₁)).step T₁ e₂ hn λvs σ₂ w_ us s₂ S₂ T₂ o_ x₂ r₂ e₃=>⟨λQ' q=>rA H S₂ (λz=>hn (e₃.trans z)) q,?_⟩
   exact(tz H (C.to T₂ (x₂.trans x₁)) (N.to T₂).apart S₂ (VR.mono o_.goes o_.still _ _ r₁) r₂).last T₂ (x₂.trans x₁) e₃ hn
  | none=>
   rw[ha]at e;refine b_ (rU ha env) ?_
   refine S8 ((H.ev f C N S F).step (.refl ..) e hn λv σ₁ dk u s₁ S₁ T₁ r_ x₁ r₁ e₁=>dP t1 ?_)
   refine(H.es as pos (C.to T₁ x₁) (N.to T₁) S₁ (F.step T₁)).step T₁ e₁ hn λvs σ₂ w_ us s₂ S₂ T₂ o_ x₂ r₂ e₂ => ?_
   have rv:=VR.mono o_.goes o_.still _ _ r₁
   exact⟨λQ' q=>H.kp (λz=>hn (e₂.trans z)) S₂ rv q,(H.cl (C.to T₂ (x₂.trans x₁)) (N.to T₂).apart S₂ rv r₂).last T₂ (x₂.trans x₁) e₂ hn⟩
end
end
section
open PySem PySem.W PyProof.Rows PyProof
def Tb(o:V3):Prop:=o.cls = .type "traceback"/\∃ ts,o.data = .fields ts
section
variable{B:Base}{I:It}{A:TV}{ρ ρ':e_}{fr:List Tc}{σ:VS}{s s':S9}{n:Nat}{E:SX->S9->Prop}{env:WD}{sc:Tz}{le:LE}{c:Tc}{k:Int}{q:Tc×Tc}
theorem zR{h:Tr}{ow:Tc->Prop}{o:O}{p:Tc×List Tc}(r:OR B ρ h ow o p){b:Tc}{x:V3}(hb:mz p b)(hx:h.get? b=Zj x):¬ Tb x:=by
 rintro⟨hc,ts,hd⟩
 cases o with
 | a_ xs=>
  obtain⟨e,vs,n,ho,_⟩:=r;rcases hb with rfl|hb
  ·rw[ho]at hx;cases hx;cases hd
  ·rw[e]at hb;cases hb
 | p_ xs=>
  obtain⟨e,vs,n,ho,_⟩:=r;rcases hb with rfl|hb
  ·rw[ho]at hx;cases hx;cases hd
  ·rw[e]at hb;cases hb
 | dict xs=>
  obtain⟨e,_,⟨o,ho,hc',_⟩,_⟩:=r;rcases hb with rfl|hb
  ·rw[ho]at hx;cases hx;rw[hc']at hc;exact absurd hc (by decide)
  ·rw[e]at hb;cases hb
 | inst c fs=>
  obtain⟨dx,mA,o,e,ho,hc',_,_,_,⟨od,_,_,hod,hdd,_⟩,_⟩:=r;rcases hb with rfl|hb
  ·rw[ho]at hx;cases hx;rw[hc']at hc;cases hc
  ·rw[e]at hb;rw[YB.mp hb,hod]at hx;cases hx;rw[hdd]at hd;cases hd
 | clo a b sc cap=>
  obtain⟨e,o,fd,ho,hc',_⟩:=r;rcases hb with rfl|hb
  ·rw[ho]at hx;cases hx;rw[hc']at hc;exact absurd hc (by decide)
  ·rw[e]at hb;cases hb
 | dead=>exact r.elim
theorem SR.Oz(S:SR B ρ fr σ s)(hq:ρ.x=Zj q):X2 λc k=>σ.x=Zj (c,k)/\Pk B s.heap c k q:=by
 have h:=S.exc
 rw[hq]at h;cases hx:σ.x with
 | none=>rw[hx]at h;exact h.elim
 | some p=>obtain⟨c,k⟩:=p;rw[hx]at h;exact⟨c,k,rfl,h⟩
theorem SR.O7(S:SR B ρ fr σ s)(hq:ρ.x=Zj q)(hx:σ.x=Zj (c,k))
  (hk:∀ b o,s.heap.get? b=Zj o->b≠q.1->¬ Tb o->b∉fr->b∉ρ.fs->s'.heap.get? b=Zj o)
  (hf:∀ b,b∈fr\/b∈ρ.fs->∀ o,s.heap.get? b=Zj o->∃ sl,s'.heap.get? b=Zj { o with slots:=sl })
  (ht:∀ b o,s.heap.get? b=Zj o->∃ o',s'.heap.get? b=Zj o')
  (h0:∀ b o₀ o,B.h₀.get? b=Zj o₀->s.heap.get? b=Zj o->s'.heap.get? b=Zj o)
  (hE:Pk B s'.heap c k q) (hg:s'.gens=s.gens) (hos:s'.os=s.os):SR B ρ fr σ s'/\dR B ρ fr s ρ s':=by
 have still:Still s.heap (aj ρ fr) s'.heap (aj ρ fr):=⟨λb o e nb Sc=>hk b o e (λz=>nb (z▸(.inr (.inl ⟨q,hq,.inl rfl⟩):aj ρ fr q.1))) (λz=>Ox.tb Sc z.1) (λz=>nb (.inr (.inr (.inl z)))) (λz=>nb (.inr (.inr (.inr z)))),λb h => .inl h,λb o e => .inr (ht b o e)⟩
 obtain⟨c',k',hx',o',vs',mA',ho',hc',hdd',hd',_⟩:=S.Oz hq;have cells:Cells s.heap s'.heap:=by
  refine⟨⟨λb o v e hcl hd => ?_⟩,λb o ts e hc hd => ?_⟩
  ·by_cases hb:b∈fr\/b∈ρ.fs
   ·obtain⟨sl,hs⟩:=hf b hb o e;exact⟨_,hs,rfl,rfl⟩
   ·refine⟨o,hk b o e (λz => ?_) (λz => ?_) (λz=>hb (.inl z)) (λz=>hb (.inr z)),rfl,rfl⟩
    ·subst z;rw[ho']at e;cases e;rw[hd']at hd;cases hd
    ·obtain⟨_,ts,hts⟩:=z;rw[hts]at hd;cases hd
  ·refine hk b o e (λz => ?_) (λz => ?_) (λz => ?_) (λz => ?_)
   ·subst z;rw[ho']at e;cases e;rw[hc']at hc;cases hc
   ·rw[z.1]at hc;exact absurd hc (by decide)
   ·obtain⟨_,o2,h2,hd2⟩:=S.frB b (.inl z);rw[e]at h2;cases h2;exact hd2 _ hd
   ·obtain⟨_,o2,h2,hd2⟩:=S.frB b (.inr z);rw[e]at h2;cases h2;exact hd2 _ hd
 refine⟨⟨S.len,λi p hp => ?_,S.gone,S.sep,S.L_,S.I_,λb hb => ?_,?_,cK S.base still h0,hg.trans S.gens,hos.trans S.os,S.cap,S.Os⟩,⟨⟨.refl _,still,cells,rfl,λb hb=>hf b (.inr hb)⟩,λb hb=>hf b (.inl hb)⟩⟩
 ·obtain⟨o,ho,r⟩:=S.obj i p hp
  refine⟨o,ho,r.mono (.refl _) still cells.toCell1 o p λb x hb e=>hk b x e (λz => ?_) (zR r hb e) (S.L_ i p hp b hb).1 (S.L_ i p hp b hb).2.1⟩
  exact((S.I_ q hq).2 q.1 (.inl rfl)).2.2.2 i p hp (z▸hb)
 ·obtain⟨h0',o,ho,hd⟩:=S.frB b hb;obtain⟨sl,hs⟩:=hf b hb o ho
  exact⟨h0',_,hs,hd⟩
 ·(refine b_ hq ?_;refine b_ hx ?_);exact hE
def OB(h:Tr)(a:Tc):Prop:=X3 λo vs T=>A3 (h.get? a=Zj o) (o.data = .fields vs) (vs[1]? = Zj (.ref T))
theorem AW(S:SR B ρ fr σ s)(hq:ρ.x=Zj q){T:Tc}{oT:V3}{ts:Array SX}(hT0:B.h₀.get? T=Zk)(hT:s.heap.get? T=Zj oT)(hc:oT.cls = .type "traceback")(hd:oT.data = .fields ts)(h3:3 < ts.size)(x:SX){Q:Unit->S9->Prop}
  (h:∀ s',SR B ρ fr σ s'->dR B ρ fr s ρ s'->(∀ b o,b≠T->s.heap.get? b=Zj o->s'.heap.get? b=Zj o)->(X2 λoT' ts'=>A4 (s'.heap.get? T=Zj oT') (oT'.cls = .type "traceback") (oT'.data = .fields ts') (3 < ts'.size))->Q () s') :
  wpAny B.M A (setField (.ref T) 3 x) Q E s:=by
 refine WX hT hd h3 ?_
 have hself:=Va (Vj (·.setIfInBounds 3 x)) hT (VH (VG hd _))
 have hoth:∀ b,b≠T->(s.heap.update T (Vj (·.setIfInBounds 3 x))).get? b=s.heap.get? b:=λb hb=>Vf _ _ (Vd hb)
 obtain⟨c,k,hx,o,vs,mA,ho,hoc,hdd,hdo,hz,hn,hk,ht⟩:=S.Oz hq;have hne:q.1≠T:=λz=>by rw[<- z,ho]at hT;cases hT;rw[hoc]at hc;cases hc
 have RC:q.2≠T:=λz=>by
  obtain⟨od,_,_,hod,hdd,_⟩:=hn;rw[<- z,hod]at hT;cases hT;rw[hdd]at hd;cases hd
 have hfr:∀ b,b∈fr\/b∈ρ.fs->b≠T:=λb hb z=>by
  obtain⟨_,o',ho',hd'⟩:=S.frB b hb;rw[z,hT]at ho';cases ho';exact hd' _ hd
 have hT':X2 λoT' ts'=>A4 ((s.heap.update T (Vj (·.setIfInBounds 3 x))).get? T=Zj oT') (oT'.cls = .type "traceback") (oT'.data = .fields ts') (3 < ts'.size):=
  ⟨_,_,hself,(Za ..).trans hc,VG hd _,by simpa using h3⟩
 obtain⟨S',T'⟩:=S.O7 (s':={ s with heap:=s.heap.update T (Vj (·.setIfInBounds 3 x)) }) hq hx
  (λb o e _ ht _ _=>(hoth b λz=>ht (by subst z;rw[hT]at e;cases e;exact⟨hc,_,hd⟩)).trans e)
  (λb hb o e=>⟨o.slots,(hoth b (hfr b hb)).trans e⟩)
  (λb o e=>by
   by_cases z:b=T
   ·subst z;exact⟨_,hself⟩
   ·exact⟨o,(hoth b z).trans e⟩)
  (λb o₀ o e0 e=>(hoth b λz=>by subst z;rw[hT0]at e0;cases e0).trans e)
  (by
   refine⟨o,vs,mA,(hoth _ hne).trans ho,hoc,hdd,hdo,hz,hn.at λo e=>(hoth _ RC).trans e,hk,?_⟩
   rcases ht with ht|⟨T2,RD,RE,a1,a2,a3,a4,a5,a6⟩
   ·exact .inl ht
   ·by_cases z:T2=T
    ·subst z;obtain⟨oT',ts',b1,b2,b3,b4⟩:=hT';exact .inr ⟨T2,oT',ts',a1,a2,b1,b2,b3,b4⟩
    ·exact .inr ⟨T2,RD,RE,a1,a2,(hoth _ z).trans a3,a4,a5,a6⟩) rfl rfl
 exact h _ S' T' (λb o hb e=>(hoth b hb).trans e) hT'
end
end
section
open PySem PySem.W PyProof.Rows PyProof
def Frs(A:TV)(env:WD)(ρ:e_)(fr:List Tc):Prop:=
 X3 λe l L=>A4 (A.frames=Zj (e::l)) (e.frame=env.frame) (env.frame=Zj L) (∀ env'∈e::l,env'.scope.kind ≠ .module/\∃ L,env'.frame=Zj L/\(L∈fr\/L∈ρ.fs))
theorem Frs.of{A:TV}{env:WD}{sc:Tz}{ρ:e_}{fr:List Tc}{n:Nat}(C:AC A ρ fr n)(N:En A env sc ρ fr):Frs A env ρ fr:=by
 obtain⟨e,l,L,h1,h2,h3,_⟩:=N.head;obtain⟨l',h4,h5⟩:=C.frames;rw[h1]at h4;cases h4
 exact⟨e,l,L,h1,h2,h3,h5⟩
theorem Frs.step{A:TV}{env:WD}{ρ ρ':e_}{fr:List Tc}(x:Frs A env ρ fr)(h:ρ'.fs=ρ.fs):Frs A env ρ' fr:=by unfold Frs at x ⊢;(refine b_ h ?_);exact x
section
variable{B:Base}{I:It}{A:TV}{ρ ρ':e_}{fr:List Tc}{σ:VS}{s s':S9}{n:Nat}{E:SX->S9->Prop}{env:WD}{sc:Tz}{le:LE}{c:Tc}{k:Int}{q:Tc×Tc}
theorem n5(S:SR B ρ fr σ s):∀ {l:List WD},(∀ env'∈l,env'.scope.kind ≠ .module/\∃ L,env'.frame=Zj L/\(L∈fr\/L∈ρ.fs))->s.heap.FunFrames B.h₀ l
 | [],_=>trivial
 | e::l,h=>by
  obtain⟨h1,L,h2,h3⟩:=h e Uo;obtain⟨h0,o,ho,hd⟩:=S.frB L h3
  exact⟨h1,⟨L,o,h2,h0,ho,hd⟩,n5 S λe' he'=>h e' (T8 _ he')⟩
theorem ul{l:List WD}(h:∀ env'∈l,env'.scope.kind ≠ .module/\∃ L,env'.frame=Zj L/\(L∈fr\/L∈ρ.fs)){b:Tc}(hb:b∈l.filterMap (·.frame)):b∈fr\/b∈ρ.fs:=by
 obtain⟨e,he,hf⟩:=List.mem_filterMap.mp hb;obtain⟨_,L,h1,h2⟩:=h e he;rw[h1]at hf;cases hf;exact h2
theorem sF(S:SR B ρ fr σ s)(hq:ρ.x=Zj q)(R:Frs A env ρ fr){L:Tc}(hL:env.frame=Zj L){Q:SX->S9->Prop}
  (h:∀ s',SR B ρ fr σ s'->dR B ρ fr s ρ s'->(∀ b o,b∉fr->b∉ρ.fs->s.heap.get? b=Zj o->s'.heap.get? b=Zj o)->Q (.ref L) s'):wpAny B.M A (PySem.frameOf env) Q E s:=by
 obtain⟨e,l,L',h1,h2,h3,h4⟩:=R;rw[h3]at hL;cases hL;unfold PySem.frameOf;refine S8 (wpAny_frameEnvs h1 ?_)
 refine b_ (by simp [List.dropWhile,h2]:((e::l).dropWhile λx=>x.frame != env.frame)=e::l) ?_
 unfold frameObject;refine S8 (S8 (wpAny_readyFrames_fun (n5 S h4) λh₁ hs₁=>Tg ?_))
 refine b_ h2 ?_;refine b_ h3 ?_
 refine Tg ?_
 obtain⟨c,k,hx,o,vs,mA,ho,hoc,hdd,hdo,hz,hn,hk,ht⟩:=S.Oz hq;have keep:∀ b o,b∉fr->b∉ρ.fs->s.heap.get? b=Zj o->h₁.get? b=Zj o:=λb o n1 n2 e=>(hs₁.2.1 b λhb=>(ul h4 hb).elim n1 n2).trans e
 have sx:=(S.I_ q hq).2
 obtain⟨S',T'⟩:=S.O7 (s':={ s with heap:=h₁ }) hq hx (λb o e _ _ n1 n2=>keep b o n1 n2 e) (λb hb o e=>hs₁.2.2 b o e) (λb o e=>by obtain⟨_,h⟩:=hs₁.2.2 b o e;exact⟨_,h⟩)
  (λb o₀ o e0 e=>keep b o (λz=>by rw[(S.frB b (.inl z)).1]at e0;cases e0) (λz=>by rw[(S.frB b (.inr z)).1]at e0;cases e0) e)
  (by
   refine⟨o,vs,mA,keep _ _ (sx _ (.inl rfl)).1 (sx _ (.inl rfl)).2.1 ho,hoc,hdd,hdo,hz,hn.at λo e=>keep _ _ (sx _ (.inr rfl)).1 (sx _ (.inr rfl)).2.1 e,hk,?_⟩
   rcases ht with ht|⟨T2,RD,RE,a1,a2,a3,a4,a5,a6⟩
   ·exact .inl ht
   ·have nf:∀ b,b∈fr\/b∈ρ.fs->b≠T2:=λb hb z=>by
     obtain⟨_,o',ho',hd'⟩:=S.frB b hb;rw[z,a3]at ho';cases ho';exact hd' _ a5
    exact .inr ⟨T2,RD,RE,a1,a2,keep _ _ (λz=>nf _ (.inl z) rfl) (λz=>nf _ (.inr z) rfl) a3,a4,a5,a6⟩) rfl rfl
 exact h _ S' T' keep
theorem IY{vs:Array SX}{x:SX}(h:1 < vs.size):(vs.setIfInBounds 1 x)[1]? = Zj x:=by simp [h]
theorem qB(S:SR B ρ fr σ s)(hq:ρ.x=Zj q)(R:Frs A env ρ fr){L:Tc}(hL:env.frame=Zj L){head:SX}{hadNext:Bool}{Q:Unit->S9->Prop}
  (h:∀ s',SR B ρ fr σ s'->dR B ρ fr s ρ s'->OB s'.heap q.1->Q () s') :
  wpAny B.M A (do let a <- PySem.frameOf env;let pl <- entryPlaceOf L hadNext;let b <- EntryCells.newEntry head a .none (rawInt L) .none pl;setField (.ref q.1) 1 b) Q E s:=by
 refine S8 (sF S hq R hL λs₁ S₁ T₁ _ => ?_)
 refine S8 (wpAny_entryPlaceOf λpl hpl => ?_)
 unfold EntryCells.newEntry newFields;refine S8 (WY ?_ (hpl.sizeOk5 _ _ _ _ _))
 obtain⟨S₂,T₂⟩:=S₁.grow (s':={ s₁ with heap:=s₁.heap.push { cls := .type "traceback",dict:=Zk,data := .fields ([head,.ref L,.none,rawInt L,.none]++(if pl.isEmpty then Ur 6 VD else pl)).toArray } }) (λb o e=>Tj _ e) rfl rfl
 obtain⟨c,k,hx,o,vs,mA,ho,hoc,hdd,hdo,hz,hn,hk,ht⟩:=S₁.Oz hq;have RF:=hz.1
 have ho₂:=Tj (h:=s₁.heap) { cls := .type "traceback",dict:=Zk,data := .fields ([head,.ref L,.none,rawInt L,.none]++(if pl.isEmpty then Ur 6 VD else pl)).toArray } ho
 refine WX ho₂ hdo (by exact Yh RF) ?_
 have hd₃:=VG hdo (·.setIfInBounds 1 (TQ s₁.heap.objs.size))
 have hself:=Va (Vj (·.setIfInBounds 1 (TQ s₁.heap.objs.size))) ho₂ (VH hd₃)
 have hoth:∀ b,b≠q.1->_:=λb hb=>Vf (s₁.heap.push { cls := .type "traceback",dict:=Zk,data := .fields ([head,.ref L,.none,rawInt L,.none]++(if pl.isEmpty then Ur 6 VD else pl)).toArray }) (Vj (·.setIfInBounds 1 (TQ s₁.heap.objs.size))) (Vd hb)
 have sx:=(S₁.I_ q hq)
 have hnb:∀ b,b∈fr\/b∈ρ.fs->b≠q.1:=λb hb z=>by
  rcases hb with hb|hb
  ·exact(sx.2 _ (.inl rfl)).1 (z▸hb)
  ·exact(sx.2 _ (.inl rfl)).2.1 (z▸hb)
 obtain⟨H_,z_⟩:=S₂.O7 (s':={ s₁ with heap:=(s₁.heap.push { cls := .type "traceback",dict:=Zk,data := .fields ([head,.ref L,.none,rawInt L,.none]++(if pl.isEmpty then Ur 6 VD else pl)).toArray }).update q.1 (Vj (·.setIfInBounds 1 (TQ s₁.heap.objs.size))) }) hq hx
  (λb o e hb _ _ _=>(hoth b hb).trans e) (λb hb o e=>⟨o.slots,(hoth b (hnb b hb)).trans e⟩)
  (λb o e=>by
   by_cases z:b=q.1
   ·subst z;exact⟨_,hself⟩
   ·exact⟨o,(hoth b z).trans e⟩)
  (λb o₀ o e0 e=>(hoth b λz=>by rw[z,(sx.2 _ (.inl rfl)).2.2.1]at e0;cases e0).trans e)
  (by
   refine⟨_,_,mA,hself,(Za ..).trans hoc,?_,hd₃,⟨by simpa using hz.1,by(refine b_ (Y0 (by decide)) ?_);exact hz.2⟩,hn.at λo e=>(hoth _ (Vd sx.1)).trans (Tj _ e),hk,.inr ⟨s₁.heap.objs.size,_,_,IY (by exact Yh RF),S₁.fresh0 (bn _),(hoth _ (Nat.ne_of_gt (Vr ho):s₁.heap.objs.size≠q.1)).trans (Uw _ rfl),rfl,rfl,by simp⟩⟩
   show(Vj _ o).dict=_
   unfold Vj
   split<;>exact hdd) rfl rfl
 exact h _ H_ (T₁.trans (T₂.trans z_)) ⟨_,_,_,hself,hd₃,IY (by exact Yh RF)⟩
theorem dN(S:SR B ρ fr σ s)(hq:ρ.x=Zj q)(R:Frs A env ρ fr){Q:Unit->S9->Prop}
  (h:∀ s',SR B ρ fr σ s'->dR B ρ fr s ρ s'->OB s'.heap q.1->Q () s'):wpAny B.M A (noteFrame (.ref q.1) env) Q E s:=by
 obtain⟨_,_,L,_,_,hL,_⟩:=id R;obtain⟨c,k,hx,o,vs,mA,ho,hoc,hdd,hdo,hz,hn,hk,ht⟩:=S.Oz hq;unfold noteFrame
 simp only[hL]
 rcases ht with ht|⟨T,oT,ts,a1,a2,a3,a4,a5,a6⟩
 ·refine S8 (Vg ho hdo ht ?_)
  refine b_ (if_neg (by decide)) ?_
  exact qB S hq R hL h
 ·refine S8 (Vg ho hdo a1 ?_)
  refine b_ (if_pos (show(TQ T != VD)=Zm from by simp)) ?_
  refine S8 (Vg a3 a5 (VJ a6:ts[3]? = Zj ts[3]) ?_)
  by_cases hs:(ts[3]==rawInt L)=Zm
  ·(refine b_ (if_pos hs) ?_)
   exact Tg (h _ S (.refl ..) ⟨_,_,_,ho,hdo,a1⟩)
  ·(refine b_ (if_neg hs) ?_)
   refine S8 (AW S hq a2 a3 a4 a5 a6 _ λs₁ S₁ T₁ k₁ _ => ?_)
   exact qB S₁ hq R hL λs₂ S₂ T₂ t₂=>h s₂ S₂ (T₁.trans T₂) t₂
theorem bJ(S:SR B ρ fr σ s)(hq:ρ.x=Zj q)(f:Option Tc){Q:Unit->S9->Prop}
  (h:∀ s',SR B ρ fr σ s'->dR B ρ fr s ρ s'->(OB s.heap q.1->OB s'.heap q.1)->Q () s'):wpAny B.M A (setFlight (.ref q.1) f) Q E s:=by
 obtain⟨c,k,hx,o,vs,mA,ho,hoc,hdd,hdo,hz,hn,hk,ht⟩:=S.Oz hq;unfold setFlight;rcases ht with ht|⟨T,oT,ts,a1,a2,a3,a4,a5,a6⟩
 ·refine S8 (Vg ho hdo ht ?_)
  refine b_ (if_neg (by decide)) ?_
  exact Tg (h _ S (.refl ..) id)
 ·refine S8 (Vg ho hdo a1 ?_)
  refine b_ (if_pos (show(TQ T != VD)=Zm from by simp)) ?_
  have hne:q.1≠T:=λz=>by rw[<- z,ho]at a3;cases a3;rw[hoc]at a4;cases a4
  exact AW S hq a2 a3 a4 a5 a6 _ λs₁ S₁ T₁ k₁ _=>h s₁ S₁ T₁ λ_=>⟨o,vs,T,k₁ _ _ hne ho,hdo,a1⟩
theorem tU(S:SR B ρ fr σ s)(hq:ρ.x=Zj q)(R:Frs A env ρ fr){Q:Unit->S9->Prop}
  (h:∀ s',SR B ρ fr σ s'->dR B ρ fr s ρ s'->OB s'.heap q.1->Q () s'):wpAny B.M A (leaving env (.ref q.1)) Q E s:=by
 unfold leaving;exact S8 (dN S hq R λs₁ S₁ T₁ t₁=>bJ S₁ hq Zk λs₂ S₂ T₂ t₂=>h s₂ S₂ (T₁.trans T₂) (t₂ t₁))
theorem qZ(S:SR B ρ fr σ s)(hq:ρ.x=Zj q)(R:Frs A env ρ fr){E':SX->S9->Prop}
  (h:∀ s',SR B ρ fr σ s'->dR B ρ fr s ρ s'->OB s'.heap q.1->E' (.ref q.1) s'):notedBy B.M A env E' (.ref q.1) s:=
 dN S hq R h
theorem jY(S:SR B ρ fr σ s)(hq:ρ.x=Zj q)(ht:OB s.heap q.1){E':SX->S9->Prop}
  (h:∀ s',SR B ρ fr σ s'->dR B ρ fr s ρ s'->OB s'.heap q.1->E' (.ref q.1) s'):cameBackBy B.M A env E' (.ref q.1) s:=by
 unfold cameBackBy;obtain⟨o,vs,T,ho,hd,h1⟩:=id ht;refine S8 (Vg ho hd h1 ?_)
 refine b_ (if_neg (by simp)) ?_
 exact bJ S hq env.frame λs₁ S₁ T₁ t₁=>h s₁ S₁ T₁ (t₁ ht)
end
end
section
open PySem PySem.W PyProof.Rows PyProof
theorem mI:entryFor table "proto.unchain"=Zj Vp.«proto.unchain»:=entryFor_of_fast (by kernel_rfl)
def z'(A:TV)(h:Tr):Prop:=A.handled=Zk\/X3 λb ob ws=>A4 (A.handled=Zj (.ref b)) (h.get? b=Zj ob) (ob.data = .fields ws) (ws[2]? = Zj .none)
section
variable{α:Type}{B:Base}{A:TV}{ρ ρ':e_}{fr:List Tc}{σ:VS}{s s':S9}{n:Nat}{E:SX->S9->Prop}{env:WD}{sc:Tz}{le:LE}{c:Tc}{k:Int}{q:Tc×Tc}
theorem z'.of(C:AC A ρ fr n)(S:SR B ρ fr σ s):z' A s.heap:=by
 have h:=C.handled
 cases hx:ρ.x with
 | none=>rw[hx]at h;exact .inl h
 | some q=>
  rw[hx]at h;obtain⟨c,k,_,o,vs,mA,ho,_,_,hd,hz,_⟩:=S.Oz hx;exact .inr ⟨q.1,o,vs,h,ho,hd,hz.2⟩
theorem z'.keep{h h':Tr}(x:z' A h)(k:∀ b o,h.get? b=Zj o->h'.get? b=Zj o):z' A h':=by
 rcases x with x|⟨b,ob,ws,h1,h2,h3,h4⟩
 ·exact .inl x
 ·exact .inr ⟨b,ob,ws,h1,k _ _ h2,h3,h4⟩
theorem qf{a:Tc}{o:V3}{vs:Array SX}{Q:α->S9->Prop}(H:z' A s.heap)(ho:s.heap.get? a=Zj o)(hd:o.data = .fields vs)(hz:2 < vs.size)
  (h:∀ h',Tr.SameBut a s.heap h'->(∃ o',h'.get? a=Zj o'/\o'.cls=o.cls)->E (.ref a) { s with heap:=h' }):wpAny B.M A (raiseNew (.ref a):Xk α) Q E s:=by
 unfold raiseNew;refine S8 (wpAny_handled ?_)
 rcases H with hh|⟨b,ob,ws,hh,hb,hbd,hb2⟩
 ·(refine b_ hh ?_)
  exact S8 (Tg (XJ (h _ (.refl ..) ⟨o,ho,rfl⟩)))
 ·(refine b_ hh ?_)
  show wpAny B.M A (if (TQ b != TQ a)=Zm then (do
   let _ <- holding [TQ a] (runValue (Y4 "proto.unchain" { pos:=[TQ a,.ref b,.ref b,SX.bool Zn] }))
   let _ <- updateField a 2 (.ref b)
   throw (TQ a)) else throw (TQ a):Xk α) Q E s
  by_cases e:(TQ b != TQ a)=Zm
  ·(refine b_ (if_pos e) ?_)
   refine S8 (Ua (wpAny_runValue (codeAny_builtin mI ?_)))
   show wpAny _ _ (field (.ref b) 2 >>= _) _ _ s
   refine S8 (Vg hb hbd hb2 ?_)
   show wpAny _ _ (ret .none) _ _ s
   refine Tg ?_
   refine S8 ?_
   have:=WX (M:=B.M) (A:=A) (E:=E) (i:=2) (x := .ref b) ho hd hz (Q:=λ_ s'=>wpAny B.M A (throw (TQ a):Xk α) Q E s') (XJ (h _ (.update ..) ⟨_,Va _ ho (VH (VG hd _)),Za ..⟩))
   simpa only[setField]using this
  ·(refine b_ (if_neg e) ?_)
   exact XJ (h _ (.refl ..) ⟨o,ho,rfl⟩)
theorem g8{Q:α->S9->Prop}(H:z' A s.heap)(h:∀ h' e o',(∀ b o,s.heap.get? b=Zj o->h'.get? b=Zj o)->h'.get? e=Zj o'->o'.cls = .type "StopIteration"->E (.ref e) { s with heap:=h' }) :
  wpAny B.M A (newExc (.type "StopIteration") [] >>= λe=>(raiseNew e:Xk α)) Q E s:=by
 refine S8 ?_
 simp only[newExc,newTuple]
 refine S8 (WY ?_ (by size_fits))
 refine S8 (m:=firstArgMember _ _) (YQ (a:=VD) (by first|rfl|(simp only[firstArgMember];rfl)) ?_)
 refine WY ?_ (by size_fits)
 refine qf (B:=B) (H.keep λb o e=>Tj _ (Tj _ e)) (Uw _ rfl) rfl (by simp;exact Yi rfl) λh' hs' ⟨o',ho',hc'⟩ => ?_
 refine h _ _ o' (λb o e=>hs'.extBut b o (λz => ?_) (Tj _ (Tj _ e))) ho' hc'
 have h1:=Vr e
 rw[z]at h1
 simp only[V2]at h1
 exact Nat.not_lt.mpr (Xn _) h1
def yL(it:Tc)(h h':Tr):Prop:=(∀ b o,b≠it->h.get? b=Zj o->h'.get? b=Zj o)/\∃ o',h'.get? it=Zj o'
theorem z'.upd{it:Tc}{f:V3->V3}(H:z' A s.heap)(hne:∀ b,A.handled=Zj (.ref b)->b≠it):z' A (s.heap.update it f):=by
 rcases H with hh|⟨b,ob,ws,hh,hb,hbd,hb2⟩
 ·exact .inl hh
 ·exact .inr ⟨b,ob,ws,hh,(Vf _ _ (Vd (hne b hh))).trans hb,hbd,hb2⟩
theorem zQ{it t:Tc}{i:Nat}{items:Array SX}{Q:Option SX->S9->Prop}(H:z' A s.heap)
  (hit:IsTupIter s.heap it t i) (ht:IsTup s.heap t items) (hx:items[i]? = Zk) (hne:∀ b,A.handled=Zj (.ref b)->b≠it)
  (hQ:∀ h',yL it s.heap h'->Q Zk { s with heap:=h' }):wpAny B.M A (pyNext (.ref it)) Q E s:=by
 obtain⟨o,ho,hc,hd⟩:=id hit;obtain⟨ol,hol,_,nl,hdl⟩:=ht;unfold pyNext;refine S8 (Zh (WL (name:=V5 "__next__") hit.typeIs slot_tupleiter_next
  (Yg slot_tupleiter_next hit.typeIs entry_tupleiter_next ?_ (args_tupleiter_next _))))
 show wpAny _ _ (field (.ref it) 0 >>= _) _ _ s
 refine S8 (Vg ho hd (x := .ref t) rfl ?_)
 show wpAny _ _ (if (TQ t==VD)=Zm then _ else _) _ _ s
 refine b_ (if_neg (show ¬ ((TQ t==VD)=Zm)from Bool.false_ne_true)) ?_
 show wpAny _ _ (field (.ref it) 1 >>= _) _ _ s
 refine S8 (Vg ho hd (x := .int i 0) rfl ?_)
 show wpAny _ _ (seqItems? (.ref t) >>= _) _ _ s
 refine S8 (wpAny_seqItems hol hdl ?_)
 simp only[Y8,hx]
 refine S8 (wpAny_rule (S8 (WX ho hd (by simp) ?_)))
 have hself:=Va (Vj (·.setIfInBounds 0 VD)) ho (VH (VG hd _))
 refine g8 (B:=B) (A:=A.in1) (H.upd hne) λh' e o' hk ho' hc' => ?_
 refine S8 (wpAny_isInstance (T:="StopIteration") (b:=Zm) ⟨_,ho',hc'⟩ isSubtype_stop ?_)
 exact Tg (hQ _ ⟨λb o hb e=>hk b o ((Vf _ _ (Vd hb)).trans e),_,hk _ _ hself⟩)
theorem vl{it t:Tc}{i:Nat}{items:Array SX}{Q:Option SX->S9->Prop}(H:z' A s.heap)
  (hit:s.heap.IsListIter it t i) (ht:s.heap.IsList t items) (hx:items[i]? = Zk) (hne:∀ b,A.handled=Zj (.ref b)->b≠it)
  (hQ:∀ h',yL it s.heap h'->Q Zk { s with heap:=h' }):wpAny B.M A (pyNext (.ref it)) Q E s:=by
 obtain⟨o,ho,hc,hd⟩:=id hit;obtain⟨ol,hol,_,nl,hdl⟩:=ht;unfold pyNext;refine S8 (Zh (WL (name:=V5 "__next__") hit.typeIs slot_listiter_next
  (Yg slot_listiter_next hit.typeIs entry_listiter_next ?_ (args_listiter_next _))))
 show wpAny _ _ (field (.ref it) 0 >>= _) _ _ s
 refine S8 (Vg ho hd (x := .ref t) rfl ?_)
 show wpAny _ _ (if (TQ t==VD)=Zm then _ else _) _ _ s
 refine b_ (if_neg (show ¬ ((TQ t==VD)=Zm)from Bool.false_ne_true)) ?_
 show wpAny _ _ (field (.ref it) 1 >>= _) _ _ s
 refine S8 (Vg ho hd (x := .int i 0) rfl ?_)
 show wpAny _ _ (seqItems? (.ref t) >>= _) _ _ s
 refine S8 (wpAny_seqItems hol hdl ?_)
 simp only[Y8,hx]
 refine S8 (wpAny_rule (S8 (WX ho hd (by simp) ?_)))
 have hself:=Va (Vj (·.setIfInBounds 0 VD)) ho (VH (VG hd _))
 refine g8 (B:=B) (A:=A.in1) (H.upd hne) λh' e o' hk ho' hc' => ?_
 refine S8 (wpAny_isInstance (T:="StopIteration") (b:=Zm) ⟨_,ho',hc'⟩ isSubtype_stop ?_)
 exact Tg (hQ _ ⟨λb o hb e=>hk b o ((Vf _ _ (Vd hb)).trans e),_,hk _ _ hself⟩)
theorem BY{it:Tc}{x left step:Int}{Q:Option SX->S9->Prop}(H:z' A s.heap)(hit:IsRangeIter s.heap it x left step)(hleft:left<=0)
  (hQ:∀ h',yL it s.heap h'->Q Zk { s with heap:=h' }):wpAny B.M A (pyNext (.ref it)) Q E s:=by
 have hT:s.TypeIs (.ref it) "range_iterator":=⟨_,hit,rfl⟩
 unfold pyNext;refine S8 (Zh (WL (name:=V5 "__next__") hT F.slot_range_iterator_next
  (Yg F.slot_range_iterator_next hT F.entry_range_iterator_next ?_ (F.args_range_iterator_next_1 _))))
 show wpAny _ _ (field (.ref it) 0 >>= _) _ _ s
 refine S8 (Vg hit rfl (x:=rawInt x) rfl ?_)
 show wpAny _ _ (field (.ref it) 1 >>= _) _ _ s
 refine S8 (Vg hit rfl (x:=rawInt left) rfl ?_)
 show wpAny _ _ (field (.ref it) 2 >>= _) _ _ s
 refine S8 (Vg hit rfl (x:=rawInt step) rfl ?_)
 show wpAny _ _ (if left<=0 then _ else _) _ _ s
 refine b_ (if_pos hleft) ?_
 refine S8 (wpAny_rule ?_)
 refine S8 ?_
 refine g8 (B:=B) (A:=A.in1) H λh' e o' hk ho' hc' => ?_
 refine S8 (wpAny_isInstance (T:="StopIteration") (b:=Zm) ⟨_,ho',hc'⟩ isSubtype_stop ?_)
 exact Tg (hQ _ ⟨λb o _ e=>hk b o e,_,hk _ _ hit⟩)
theorem lI{t:Tc}{items:Array SX}{Q:List SX->S9->Prop}(H:z' A s.heap)(ht:IsTup s.heap t items)
  (hQ:∀ h',(∀ b o,s.heap.get? b=Zj o->h'.get? b=Zj o)->Q items.toList { s with heap:=h' }):wpAny B.M A (unpackItems (.ref t) items.size Zk) Q E s:=by
 have hlt:t≠s.heap.objs.size:=by obtain⟨o,ho,_⟩:=ht;exact WK (Vr ho)
 unfold unpackItems;refine S8 ?_
 unfold notIterableAtAll;refine S8 (wpAny_specialOf ht.typeIs slot_tuple_iter.lookup ?_)
 refine Tg ?_
 simp only[Wv,if_false]
 refine S8 (Ua (iter_tuple ht ?_))
 refine S8 (Ua (draw_tuple hlt items.size 0 _ _ ⟨_,Uw _ rfl,rfl,rfl⟩ (ht.push _) (by lia) λh₁ hit₁ hs₁ => ?_))
 have hall:List.take items.size (List.drop 0 items.toList)=items.toList:=by
  (refine b_ Yk ?_);exact Wx (by simp)
 refine b_ hall ?_;refine b_ (if_neg (by simp)) ?_
 have P0:∀ b o,s.heap.get? b=Zj o->h₁.get? b=Zj o:=λb o e=>hs₁.extBut b o (WK (Vr e)) (Tj _ e)
 have ht₁:IsTup h₁ t items:=ht.keeps P0
 refine S8 (Ua (zQ (H.keep P0) hit₁ ht₁ (by simp) (λb hb z => ?_) λh₂ he₂ => ?_))
 ·rcases H with hh|⟨b',ob,ws,hh,hb',_⟩
  ·rw[hh]at hb;cases hb
  ·rw[hh]at hb;cases hb;rw[z]at hb';exact absurd (Vr hb') (YD _)
 ·simp only[Option.isSome_none,Wv,if_false]
  exact Tg (hQ h₂ λb o e=>he₂.1 b o (WK (Vr e)) (P0 b o e))
end
end
section
open PySem PySem.W PyProof.Rows PyProof
section
variable{α β γ:Type}{B:Base}{A:TV}{env:WD}{sc:Tz}{le:LE}{qk:Bool}{ρ c_:e_}{fr:List Tc}{s s₀:S9}{r:R α}{t:Xk β}{rel:α->e_->S9->β->Prop}
theorem Wp.H'{res:R γ}{f:α->VS->R γ}{Q:β->S9->Prop}(W:Wp B A ρ fr s r t rel)(st:Step B c_ fr s₀ ρ s)(F:True->Fm B env sc le ρ fr s.heap)(hr:res=r.bind f)(hn:res ≠ .no)
  (k:∀ a σ' ρ' v s',SR B ρ' fr σ' s'->Step B c_ fr s₀ ρ' s'->dR B ρ fr s ρ' s'->ρ'.x=ρ.x->rel a ρ' s' v->res=f a σ'->Q v s'):wpAny B.M A t Q (Ou B env sc le qk c_ fr s₀ res) s:=by
 refine TJ (W.go λh=>hn (by(refine b_ hr ?_;refine b_ h ?_);rfl)) (λv s' h => ?_) λe s' h => ?_
 ·obtain⟨a,σ',ρ',e,h1,h2,hx,h3⟩:=h;exact k a σ' ρ' v s' h1 (st.trans h2.toStep) h2 hx h3 (by(refine b_ hr ?_;refine b_ e ?_);rfl)
 ·obtain⟨σ',ρ',q,e,h1,h2,h3,h4⟩:=h
  exact⟨σ',ρ',q,by(refine b_ hr ?_;refine b_ e ?_);rfl,h1,st.trans h2.toStep,h3,h4,le,(F trivial).step h2,λ_=>rfl⟩
inductive RG (B:Base) (env:WD) (sc:Tz) (ρ:e_) (fr:List Tc) (s:S9) (r:R LE) (_:Unit) (s':S9):Prop
 | mk (le':LE) (σ':VS) (ρ':e_):r = .ok le' σ'->SR B ρ' fr σ' s'->Step B ρ fr s ρ' s'->ρ'.x=ρ.x->Fm B env sc le' ρ' fr s'.heap->RG B env sc ρ fr s r () s'
end
section
variable{B:Base}{I:It}{A:TV}{ρ ρ' c_:e_}{fr:List Tc}{σ:VS}{s s' s₀:S9}{n:Nat}{E:SX->S9->Prop}{env:WD}{sc:Tz}{le:LE}
theorem iG{t:Expr}{ts:List Expr}{vs:List V}{le le':LE}(h:dr sc (t::ts) vs le=Zj le'):X5 λx p v us K_=>A4 (t = .Name x p) (vs=v::us) (jR sc x v le=Zj K_) (dr sc ts us K_=Zj le'):=by
 obtain⟨x,hx,h⟩:=aD h;obtain⟨p,hp,h⟩:=aD h;obtain⟨K_,hb,h⟩:=aD h
 exact⟨x.1,x.2,p.1,p.2,K_,(fK t).of hx,iX hp,hb,h⟩
theorem je{vs:List V}{le le':LE}(h:dr sc [] vs le=Zj le'):vs=[]/\le=le':=by
 obtain⟨h1,h⟩:=cQ h
 exact⟨bu h1,Tf h⟩
theorem tZ(hfs:∀ b∈fr,b∉ρ.fs)(ts:List Expr):∀ {vs:List V} {us:List SX} {le le':LE} {s:S9} {Q:Unit->S9->Prop},dr sc ts vs le=Zj le'->SR B ρ fr σ s->Fm B env sc le ρ fr s.heap->k_ B ρ s.heap (aj ρ fr) vs us->
  (∀ s',SR B ρ fr σ s'->Step B ρ fr s ρ s'->Fm B env sc le' ρ fr s'.heap->Q () s')->wpAny B.M A (assignInOrder ((assignEach ts env).map (·.2)) us) Q E s:=by
 induction ts with
 | nil=>
  intro vs us le le' s Q h S F r k;obtain⟨rfl,rfl⟩:=je h;exact Tg (k s S (Step.refl ..) F)
 | cons t ts IH=>
  intro vs us le le' s Q h S F r k;obtain⟨x,p,v,vs,K_,rfl,rfl,hb,h'⟩:=iG h;unfold k_ at r;obtain⟨u,us',rfl,r1,r2⟩:=r
  show wpAny B.M A (do holding us' (PySem.assign (.Name x p) env u);assignInOrder ((assignEach ts env).map (·.2)) us') Q E s
  refine S8 (Ua ?_)
  refine b_ (Yu ..) ?_
  refine S8 (Um (Xo (ly S F hb r1 hfs λs₁ S₁ T₁ F₁ => ?_)))
  exact IH h' S₁ F₁ (k_.mono T₁.goes T₁.still _ _ r2) λs₂ S₂ T₂ F₂=>k s₂ S₂ (T₁.trans T₂) F₂
theorem ot{ts:List Expr}:∀ {vs:List V} {le le':LE},dr sc ts vs le=Zj le'->(assignEach ts env).length=vs.length/\(assignEach ts env).findIdx? (·.1)=Zk:=by
 induction ts with
 | nil=>
  intro vs le le' h;obtain⟨rfl,rfl⟩:=je h
  exact⟨rfl,rfl⟩
 | cons t ts IH=>
  intro vs le le' h;obtain⟨x,p,v,vs,K_,rfl,rfl,hb,h'⟩:=iG h;obtain⟨h1,h2⟩:=IH h';have e:assignEach (.Name x p::ts) env=(Zn,PySem.assign (.Name x p) env)::assignEach ts env:=rfl
  refine b_ e ?_
  exact⟨by simp [h1],by(refine b_ List.findIdx?_cons ?_);simp [h2]⟩
theorem gP{h:Tr}{ow:Tc->Prop}:∀ {xs:List SQ} {us:List SX},PRs B h ow xs us->k_ B ρ h ow (fL xs) us
 | [],us,r=>by unfold PRs at r;subst r;show k_ B ρ h ow [] [];unfold k_;rfl
 | x::xs,us,r=>by
  unfold PRs at r;obtain⟨u,us',rfl,h1,h2⟩:=r
  show k_ B ρ h ow (.d x::fL xs) (u::us')
  unfold k_
  exact⟨u,us',rfl,by unfold VR;exact h1,gP h2⟩
theorem sG(C:AC A ρ fr n)(hfs:∀ b∈fr,b∉ρ.fs)(S:SR B ρ fr σ s)(F:Fm B env sc le ρ fr s.heap){ts:List Expr}{vs:List V}{le':LE}{res:R LE}(h:dr sc ts vs le=Zj le')(hr:res = .ok le' σ)
  {t:Tc} {items:Array SX} {k:Nat} (ho:s.heap.get? t=Zj (bD "tuple" items k)) (r:k_ B ρ s.heap (aj ρ fr) vs items.toList):wpAny B.M A (unpack (.ref t) (assignEach ts env)) (RG B env sc ρ fr s res) E s:=by
 obtain⟨h1,h2⟩:=ot (env:=env) h;unfold unpack;rw[h1,h2,<- (by rw[<- cn r];exact Tt.symm:items.size=vs.length)]
 refine S8 (Ua (lI (z'.of C S) ⟨_,ho,rfl,_,rfl⟩ λh' hk => ?_))
 obtain⟨S₁,T₁⟩:=S.grow (s':={ s with heap:=h' }) hk rfl rfl
 exact tZ hfs ts h S₁ (F.step T₁) (k_.mono T₁.goes T₁.still _ _ r) λs₂ S₂ T₂ F₂=>⟨le',σ,ρ,hr,S₂,T₁.toStep.trans T₂,rfl,F₂⟩
theorem wa{x:SQ}{l:List SQ}(h:Gy x=Zj l):x = .tuple l:=by
 cases x<;>first|exact nn h|(cases h;rfl)
theorem G2{v:V}{vs:List V}{u:SX}{h:Tr}{ow:Tc->Prop}(hv:Be v=Zj vs)(r:VR B ρ h ow v u):PP "tuple" h ow (λus=>k_ B ρ h ow vs us) u:=by
 cases v with
 | d x=>
  obtain⟨xs,hx,hv⟩:=aD hv;rw[wa hx]at r;unfold VR PR at r;cases hv;obtain⟨a,us,m,e,n,ho,hs⟩:=r
  exact⟨a,us,m,e,n,ho,gP hs⟩
 | tup ws=>
  unfold VR at r;cases hv;exact r
 | _=>exact nn hv
theorem jj(H:Sound B I n)(Fa:Facts B)(C:AC A ρ fr n)(N:En A env sc ρ fr)(S:SR B ρ fr σ s)(F:Fm B env sc le ρ fr s.heap)(t:Expr){v:V}{u:SX}(rv:VR B ρ s.heap (aj ρ fr) v u){res:R LE}
  (hr:res=Mine.assign B.T I t sc le v σ) (hn:res ≠ .no):wpAny B.M A (PySem.assign t env u) (RG B env sc ρ fr s res) (Ou B env sc le Zm ρ fr s res) s:=by
 cases t with
 | Name x p=>
  obtain⟨le',hb,e⟩:=o9 (show res=o7 (jR sc x v le) σ from hr) hn
  refine b_ (Yu ..) ?_
  exact S8 (Um (Xo (ly S F hb rv N.apart λs₁ S₁ T₁ F₁=>⟨le',σ,ρ,e,S₁,T₁,rfl,F₁⟩)))
 | Attribute o m p=>
  have e0:res=(I.ev o sc le σ).bind λo s=>(Mine.setAttr B.T o m v s).bind λ_ s => .ok le s:=hr
  refine b_ (arm_assign_Attribute ..) ?_
  refine S8 (Ua ((H.ev o C N S F).H' (.refl ..) (λ_=>F) e0 hn λa σ₁ dk w s₁ S₁ T₁ r_ x₁ r₁ e₁=>S8 (Um (S8 (Ua ?_)))))
  refine(lL Fa S₁ r₁ (VR.mono r_.goes r_.still _ _ rv)).H' T₁ (λ_=>F.step r_) e₁ hn λa σ₂ w_ w s₂ S₂ T₂ o_ x₂ r₂ e₂=>wpAny_release ?_
  exact⟨le,σ₂,w_,e₂,S₂,T₂,x₂.trans x₁,(F.step r_).step o_⟩
 | Subscript o i p=>
  obtain⟨hs,e0⟩:=hF (show res=ac (dK i).isSome .no ((I.ev o sc le σ).bind λo s=>(I.ev i sc le s).bind λi s=>(Mine.setItem o i v s).bind λ_ s => .ok le s)from hr) hn
  refine b_ (arm_assign_Subscript ..) ?_
  refine S8 (Ua ((H.ev o C N S F).H' (.refl ..) (λ_=>F) e0 hn λa σ₁ dk w s₁ S₁ T₁ r_ x₁ r₁ e₁ => ?_))
  have F₁:=F.step r_
  refine S8 (Ua ((H.ev i (C.to r_ x₁) (N.to r_) S₁ F₁).H' T₁ (λ_=>F₁) e₁ hn λb σ₂ w_ y s₂ S₂ T₂ o_ x₂ r₂ e₂=>S8 (Um (S8 (Ua ?_)))))
  have F₂:=F₁.step o_
  refine(up S₂ C.PY (VR.mono o_.goes o_.still _ _ r₁) r₂ (VR.mono o_.goes o_.still _ _ (VR.mono r_.goes r_.still _ _ rv))).H' T₂ (λ_=>F₂) e₂ hn λa σ₃ Pe w s₃ H_ z_ Oy x₃ r₃ e₃=>wpAny_release ?_
  exact⟨le,σ₃,Pe,e₃,H_,z_,x₃.trans (x₂.trans x₁),F₂.step Oy⟩
 | Tuple ts k p=>
  refine b_ (arm_assign_Tuple ..) ?_
  refine S8 (Um ?_)
  obtain⟨le',hb,e⟩:=o9 (show res=o7 (ag (Be v) Zk λvs=>dr sc ts vs le) σ from hr) hn
  obtain⟨vs,hv,hb⟩:=aD hb;obtain⟨a,us,m,rfl,_,ho,hs⟩:=G2 hv rv;exact sG C N.apart S F hb e ho hs
 | _=>exact absurd hr hn
end
end
section
open PySem PySem.W PyProof.Rows PyProof
section
variable{α β γ:Type}{B:Base}{I:It}{A:TV}{ρ ρ' c_:e_}{fr:List Tc}{σ:VS}{s s' s₀:S9}{n:Nat}{E:SX->S9->Prop}{env:WD}{sc:Tz}{le:LE}{qk:Bool}
theorem Ou.weak{r:R α}{e:SX}(h:Ou B env sc le Zm ρ fr s r e s'):Ou B env sc le qk ρ fr s r e s':=
 by obtain⟨σ',ρ',q,h1,h2,h3,h4,h5,l,F,h6⟩:=h;exact⟨σ',ρ',q,h1,h2,h3,h4,h5,l,F,λ_=>h6 rfl⟩
theorem Ou.later{r:R α}{r':R γ}{e:SX}(T:Step B c_ fr s₀ ρ s)(hr:∀ σ',r = .exc σ'->r' = .exc σ')(h:Ou B env sc le qk ρ fr s r e s'):Ou B env sc le qk c_ fr s₀ r' e s':=
 by obtain⟨σ',ρ',q,h1,h2,h3,h4,h5,l,F,h6⟩:=h;exact⟨σ',ρ',q,hr _ h1,h2,T.trans h3,h4,h5,l,F,h6⟩
theorem Px.mk{r:R (Fl×LE)}{t:Xk Flow}(h:∀ res,res=r->res ≠ .no->wpAny B.M A t (Pw B env sc ρ fr s res) (Ou B env sc le qk ρ fr s res) s):Px B A env sc le qk ρ fr s r t:=λhn=>h r rfl hn
theorem dh{res:R (Fl×LE)}{f:Fl}{le':LE}{fl:Flow}(S:SR B ρ fr σ s)(T:Step B c_ fr s₀ ρ s)(hx:ρ.x=c_.x)(e:res = .ok (f,le') σ)(F:Fm B env sc le' ρ fr s.heap)(r:QR B fr f ρ s fl):Pw B env sc c_ fr s₀ res fl s:=
 ⟨(f,le'),σ,ρ,e,S,T,hx,F,r⟩
theorem CF(F:Fm B env sc le ρ fr s.heap):interactive env=Zn:=by unfold interactive;(refine b_ F.kind ?_);rfl
theorem pM{e:Expr}(h:eA e=Zn)(t:Option Expr)(k:Nat):swapsWith e t k env=pure Zn:=by
 cases e with
 | ListComp=>cases h
 | SetComp=>cases h
 | DictComp=>cases h
 | _=>rfl
theorem xa(H:Sound B I n)(C:AC A ρ fr n)(N:En A env sc ρ fr)(S:SR B ρ fr σ s)(F:Fm B env sc le ρ fr s.heap)(e:Expr)(pos:Vw) :
  Px B A env sc le qk ρ fr s (ac (eA e) .no ((I.ev e sc le σ).bind λ_ s => .ok (.next,le) s)) (exec (.Expr e pos) env) := .mk λres hr hn=>by
 obtain⟨h1,e1⟩:=hF hr hn;exact wpAny_Expr_any ((H.ev e C N S F).H' (.refl ..) (λ_=>F) e1 hn λa σ₁ dk u s₁ S₁ T₁ r_ x₁ r₁ e₂=>dh S₁ T₁ x₁ e₂ (F.step r_) rfl) (CF F) (pM h1 ..)
theorem BL(H:Sound B I n)(C:AC A ρ fr n)(N:En A env sc ρ fr)(S:SR B ρ fr σ s)(F:Fm B env sc le ρ fr s.heap)(e:Option Expr)(pos:Vw) :
  Px B A env sc le qk ρ fr s (Gg I e sc le σ) (exec (.Return e pos) env) := .mk λres hr hn=>by
 cases e with
 | none=>exact wpAny_Return_none (dh S (.refl ..) rfl hr F ⟨.none,rfl,M'.mpr rfl⟩)
 | some e=>exact wpAny_Return_some ((H.ev e C N S F).H' (.refl ..) (λ_=>F) hr hn λa σ₁ dk u s₁ S₁ T₁ r_ x₁ r₁ e₂=>dh S₁ T₁ x₁ e₂ (F.step r_) ⟨u,rfl,r₁⟩)
theorem DM(H:Sound B I n)(C:AC A ρ fr n)(N:En A env sc ρ fr)(S:SR B ρ fr σ s)(F:Fm B env sc le ρ fr s.heap)(t:Expr)(b o:List T9)(pos:Vw) :
  Px B A env sc le (ac (bP b) (bP o) Zn) ρ fr s (JI I t b o sc le σ) (exec (.If t b o pos) env) := .mk λres hr hn=>by
 refine wpAny_If ((H.te t C N S F).H' (.refl ..) (λ_=>F) hr hn λa σ₁ dk u s₁ S₁ T₁ r_ x₁ r₁ e₁ => ?_)
 have:u=a:=r₁
 subst this;have go:∀ (l:List T9),(ac (bP b) (bP o) Zn=Zm->bP l=Zm)->res=I.ex l sc le σ₁->wpAny B.M A (execs l env) (Pw B env sc ρ fr s res) (Ou B env sc le (ac (bP b) (bP o) Zn) ρ fr s res) s₁:=by
  intro l hl e;refine TJ (H.ex l (C.to r_ x₁) (N.to r_) S₁ (F.step r_) (λz=>hn (e.trans z))) (λfl s' h => ?_) λe' s' h => ?_
  ·obtain⟨p,σ',ρ',h1,h2,h3,h4,h5,h6⟩:=h
   exact⟨p,σ',ρ',e.trans h1,h2,T₁.trans h3,h4.trans x₁,h5,h6⟩
  ·obtain⟨σ',ρ',q,h1,h2,h3,h4,h5,l',F',h6⟩:=h
   exact⟨σ',ρ',q,e.trans h1,h2,T₁.trans h3,h4,h5,l',F',λz=>h6 (hl z)⟩
 cases u with
 | true=>exact go b (λz=>by cases hb:bP b with|true=>rfl|false=>rw[hb]at z;cases z) e₁
 | false=>exact go o (λz=>by cases hb:bP b with|true=>rw[hb]at z;exact z|false=>rw[hb]at z;cases z) e₁
theorem yl{t e:Expr}(h:(lJ e&&lJ t)=Zn):swappedStores [t] e env=pure Zk:=by
 cases t<;>first|rfl|(cases e<;>first|rfl|cases h)
theorem yA{t e:Expr}(h:fI t e=Zn):eA e=Zn/\swappedStores [t] e env=pure Zk:=by
 unfold fI at h;cases hc:eA e with
 | true=>rw[hc]at h;cases h
 | false=>
  rw[hc]at h
  exact⟨rfl,yl (by cases ht:lJ e with|false=>rfl|true=>rw[ht]at h;exact h)⟩
theorem lf(t:Expr)(env:WD):(X2 λa b=>t = .Starred a b)\/(assignEach [t] env).map (·.2)=[PySem.assign t env]:=by
 cases t with
 | Starred a b=>exact .inl ⟨a,b,rfl⟩
 | _=>exact .inr rfl
theorem yG(H:Sound B I n)(Fa:Facts B)(C:AC A ρ fr n)(N:En A env sc ρ fr)(S:SR B ρ fr σ s)(F:Fm B env sc le ρ fr s.heap)
  (hcomp:∀ (t:Expr) (e:Expr) (c:Expr×List Vh×Tz×Vw) (pos:Vw),gW e=Zj c->Px B A env sc le Zm ρ fr s (jD I t c sc le σ) (exec (.Assign [t] e pos) env)) (ts:List Expr) (e:Expr) (pos:Vw) :
  Px B A env sc le qk ρ fr s (Gk B.T I ts e sc le σ) (exec (.Assign ts e pos) env) := .mk λres hr hn=>by
 obtain⟨t,ht,hr⟩:=aU hr hn;refine b_ (dC ht) ?_
 cases hc:gW e with
 | some c=>
  rw[hc]at hr
  have:=hcomp t e c pos hc (λz=>hn (hr.trans z))
  rw[<- show res=jD I t c sc le σ from hr]at this
  exact TJ this (λ_ _ h=>h) λ_ _ h=>h.weak
 | none=>
  rw[hc]at hr;obtain⟨h1,e1⟩:=hF hr hn;obtain⟨h2,h3⟩:=yA (env:=env) h1;refine wpAny_Assign_stores ((H.ev e C N S F).H' (.refl ..) (λ_=>F) e1 hn λa σ₁ dk u s₁ S₁ T₁ r_ x₁ r₁ e₂ => ?_) (pM h2 ..) h3
  rcases lf t env with ⟨x,y,rfl⟩|ht
  ·exact absurd e₂ hn
  ·(refine b_ ht ?_)
   show wpAny B.M A (PySem.assign t env u) _ _ s₁
   have hn':Mine.assign B.T I t sc le a σ₁ ≠ .no:=λz=>hn (by(refine b_ e₂ ?_;refine b_ z ?_);rfl)
   refine TJ (jj H Fa (C.to r_ x₁) (N.to r_) S₁ (F.step r_) t r₁ rfl hn') (λ_ s' h => ?_) λe' s' h => ?_
   ·obtain⟨le',σ',ρ',h1,h2,h3,h4,h5⟩:=h;rw[h1]at e₂;exact dh h2 (T₁.trans h3) (h4.trans x₁) e₂ h5 rfl
   ·exact(Ou.later T₁ (λσ' z=>by rw[z]at e₂;exact e₂) h).weak
theorem rh(S:SR B ρ fr σ s){op:Xf}{a b:V}{u v:SX}(ra:VR B ρ s.heap (aj ρ fr) a u)(rb:VR B ρ s.heap (aj ρ fr) b v):Wp B A ρ fr s (Bv op a b σ) (inplaceOp op u v) (aM B fr):=au λi hi=>au λj hj=>by
 rw[db hi]at ra;rw[db hj]at rb;obtain⟨t,rfl⟩:=l_.mp ra;obtain⟨t',rfl⟩:=l_.mp rb;cases op with
 | Add=>exact Wp.O5 S (AutoIntOps.iadd_0 ⟨_,rfl,l_.mpr ⟨_,rfl⟩⟩)
 | Mult=>exact aF λh1=>aF λh2=>Wp.O5 S (AutoIntOps.imul_0 ⟨_,rfl,l_.mpr ⟨_,rfl⟩⟩ (.of_left (intBits_le (k:=64) (by have:=im h1;lia))))
 | _=>trivial
theorem yX(H:Sound B I n)(Fa:Facts B)(G:Glob B)(Co:lt B)(C:AC A ρ fr n)(N:En A env sc ρ fr)(S:SR B ρ fr σ s)(F:Fm B env sc le ρ fr s.heap)(t:Expr)(op:Xf)(e:Expr)(pos:Vw) :
  Px B A env sc le qk ρ fr s (wm B.T I t op e sc le σ) (exec (.AugAssign t op e pos) env) := .mk λres hr hn=>by
 cases hx:eM t with
 | some x=>
  refine b_ ((fK t).of hx) ?_
  rw[show wm B.T I t op e sc le σ=ag (eM t) _ _ from rfl,hx]at hr
  obtain⟨a,ha,hr⟩:=aU hr hn;refine wpAny_AugAssign_Name (j8 G S F N.ok ha λu ru => ?_)
  refine(H.ev e C N S F).H' (.refl ..) (λ_=>F) hr hn λb σ₂ w_ v s₂ S₂ T₂ o_ x₂ r₂ e₂ => ?_
  refine(rh S₂ (VR.mono o_.goes o_.still _ _ ru) r₂).H' T₂ (λ_=>F.step o_) e₂ hn λw σ₃ Pe y s₃ H_ z_ Oy x₃ r₃ e₃ => ?_
  obtain⟨hk,e₃⟩:=bv e₃ hn;exact gv H_ ((F.step o_).step Oy) (gO hk) r₃ (((N.to o_).to Oy).apart _ F.loc) λs₄ Po O0 F₄=>dh Po (z_.trans O0) (x₃.trans x₂) e₃ F₄ rfl
 | none=>
  rw[show wm B.T I t op e sc le σ=ag (eM t) _ _ from rfl,hx]at hr
  obtain⟨⟨o,m,p⟩,hp,hr⟩:=aU hr hn;refine b_ ((rl t).of hp) ?_
  refine wpAny_AugAssign_AttributeAny ((H.ev o C N S F).H' (.refl ..) (λ_=>F) hr hn λa σ₁ dk u s₁ S₁ T₁ r_ x₁ r₁ e₁ => ?_)
  have F₁:=F.step r_
  refine(kP Fa Co S₁ r₁).H' T₁ (λ_=>F₁) e₁ hn λb σ₂ w_ v s₂ S₂ T₂ o_ x₂ r₂ e₂ => ?_
  have F₂:=F₁.step o_
  refine(H.ev e ((C.to r_ x₁).to o_ x₂) ((N.to r_).to o_) S₂ F₂).H' T₂ (λ_=>F₂) e₂ hn λw σ₃ Pe y s₃ H_ z_ Oy x₃ r₃ e₃ => ?_
  have F₃:=F₂.step Oy
  refine(rh H_ (VR.mono Oy.goes Oy.still _ _ r₂) r₃).H' z_ (λ_=>F₃) e₃ hn λw' σ₄ ρ₄ y' s₄ Po O0 QD RH RI e₄ => ?_
  have F₄:=F₃.step QD
  refine(lL Fa Po (VR.mono QD.goes QD.still _ _ (VR.mono Oy.goes Oy.still _ _ (VR.mono o_.goes o_.still _ _ r₁))) RI).H' O0 (λ_=>F₄) e₄ hn λw5 σ₅ ρ₅ y5 s₅ RJ T₅ RK x₅ r₅ e₅ => ?_
  exact dh RJ T₅ (x₅.trans (RH.trans (x₃.trans (x₂.trans x₁)))) e₅ (F₄.step RK) rfl
theorem wL(H:Sound B I n)(C:AC A ρ fr n)(N:En A env sc ρ fr)(S:SR B ρ fr σ s)(F:Fm B env sc le ρ fr s.heap)
  (hst:∀ st,Px B A env sc le (Ab st) ρ fr s (aA B.T I st sc le σ) (exec st env)) (l:List T9):Px B A env sc le (bP l) ρ fr s (zM B.T I l sc le σ) (execs l env) := .mk λres hr hn=>by
 cases l with
 | nil=>exact V8 (dh S (.refl ..) rfl hr F rfl)
 | cons st r=>
  have hr':res=(aA B.T I st sc le σ).bind λp s=>G8 I r sc p s:=hr
  have hn1:aA B.T I st sc le σ ≠ .no:=λz=>hn (by(refine b_ hr' ?_;refine b_ z ?_);rfl)
  refine Wr (TJ (hst st hn1) (λfl s₁ h => ?_) λe' s₁ h => ?_)
  ·obtain⟨⟨f,K_⟩,σ₁,dk,h1,S₁,T₁,x₁,F₁,h6⟩:=h;rw[h1]at hr';have hr2:res=G8 I r sc (f,K_) σ₁:=hr'
   cases f with
   | next=>
    have:fl = .next:=h6
    subst this;refine TJ (H.ex r (C.step T₁.fs x₁) (N.step T₁.fs) S₁ F₁ (λz=>hn (hr2.trans z):I.ex r sc K_ σ₁ ≠ .no)) (λfl' s' h => ?_) λe' s' h => ?_
    ·obtain⟨p,σ',ρ',g1,g2,g3,g4,g5,g6⟩:=h
     exact⟨p,σ',ρ',hr2.trans g1,g2,T₁.trans g3,g4.trans x₁,g5,g6⟩
    ·obtain⟨σ',ρ',q,g1,g2,g3,g4,g5,l',F',g6⟩:=h
     refine⟨σ',ρ',q,hr2.trans g1,g2,T₁.trans g3,g4,g5,l',F',λz => ?_⟩
     cases r with
     | nil=>
      exact absurd g1 (H.nil _ _ _ _)
     | cons=>cases z
   | brk=>have:fl = .brk:=h6;subst this;exact dh S₁ T₁ x₁ hr2 F₁ rfl
   | cont=>have:fl = .cont:=h6;subst this;exact dh S₁ T₁ x₁ hr2 F₁ rfl
   | ret v=>
    obtain⟨u,e,rv⟩:=h6;subst e;exact dh S₁ T₁ x₁ hr2 F₁ ⟨u,rfl,rv⟩
  ·obtain⟨σ',ρ',q,g1,g2,g3,g4,g5,l',F',g6⟩:=h
   refine⟨σ',ρ',q,by(refine b_ hr' ?_;refine b_ g1 ?_);rfl,g2,g3,g4,g5,l',F',λz=>g6 ?_⟩
   cases r with
   | nil=>exact z
   | cons=>cases z
end
end
section
open PySem PySem.W PyProof.Rows PyProof
section
variable{B:Base}{I:It}{A:TV}{ρ ρ' c_:e_}{fr:List Tc}{σ:VS}{s s' s₀:S9}{n:Nat}{E:SX->S9->Prop}{env:WD}{sc:Tz}{le:LE}
theorem zc{h:Tr}{ow:Tc->Prop}{o:O}{p:Tc×List Tc}(r:OR B ρ h ow o p){b:Tc}{x:V3}(hb:mz p b)(hx:h.get? b=Zj x)(hi:cJ x.cls=Zm):∀ ts,x.data ≠ .fields ts:=by
 cases o with
 | a_ xs=>
  obtain⟨e,vs,n,ho,_⟩:=r;rcases hb with rfl|hb
  ·rw[ho]at hx;cases hx;exact λ_ h=>by cases h
  ·rw[e]at hb;cases hb
 | p_ xs=>
  obtain⟨e,vs,n,ho,_⟩:=r;rcases hb with rfl|hb
  ·rw[ho]at hx;cases hx;exact λ_ h=>by cases h
  ·rw[e]at hb;cases hb
 | dict xs=>
  obtain⟨e,_,⟨o,ho,hc',_⟩,_⟩:=r;rcases hb with rfl|hb
  ·rw[ho]at hx;cases hx;rw[hc']at hi;exact absurd hi (by decide)
  ·rw[e]at hb;cases hb
 | inst c fs=>
  obtain⟨dx,mA,o,e,ho,hc',_,_,_,⟨od,_,_,hod,hdd,_⟩,_⟩:=r;rcases hb with rfl|hb
  ·rw[ho]at hx;cases hx;rw[hc']at hi;cases hi
  ·rw[e]at hb;rw[YB.mp hb,hod]at hx;cases hx;exact λ_ h=>by rw[hdd]at h;cases h
 | clo a b sc cap=>
  obtain⟨e,o,fd,ho,hc',hd,_⟩:=r;rcases hb with rfl|hb
  ·rw[ho]at hx;cases hx;exact λ_ h=>by rw[hd]at h;cases h
  ·rw[e]at hb;cases hb
 | dead=>exact r.elim
theorem nk(S:SR B ρ fr σ s){b:Tc}{o:V3}{ts:Array SX}(he:s.heap.get? b=Zj o)(hi:cJ o.cls=Zm)(hd:o.data = .fields ts):¬ aj ρ fr b:=by
 rintro(⟨i,p,hp,hb⟩|⟨q,hq,hb⟩|hb)
 ·obtain⟨o',_,r⟩:=S.obj i p hp;exact zc r hb he hi ts hd
 ·obtain⟨c,k,_,o',vs,mA,ho,hc,_,_,_,⟨od,_,_,hod,hdd,_⟩,_⟩:=S.Oz hq;rcases hb with rfl|rfl
  ·rw[ho]at he;cases he;rw[hc]at hi;cases hi
  ·rw[hod]at he;cases he;rw[hdd]at hd;cases hd
 ·obtain⟨_,o',ho,hnf⟩:=S.frB b (by rcases hb with hb|hb;exact .inl hb;exact .inr hb)
  rw[ho]at he;cases he;exact hnf _ hd
structure B_ (it:Tc) (s s':S9):Prop where
 old:X2 λo ts=>A3 (s.heap.get? it=Zj o) (cJ o.cls=Zm) (o.data = .fields ts)
 keep:∀ b o,b≠it->s.heap.get? b=Zj o->s'.heap.get? b=Zj o
 there:∃ o',s'.heap.get? it=Zj o'
 gens:s'.gens=s.gens
 os:s'.os=s.os
variable{it:Tc}
theorem B_.still(T:B_ it s s')(S:SR B ρ fr σ s):Still s.heap (aj ρ fr) s'.heap (aj ρ fr):=by
 obtain⟨oi,ts,h1,h2,h3⟩:=T.old
 refine⟨λb o e _ hf=>T.keep b o (λz => ?_) e,λb h => .inl h,λb o e => ?_⟩
 ·rw[z,h1]at e;cases e;rw[Ox.it hf]at h2;cases h2
 ·by_cases z:b=it
  ·(refine b_ z ?_);exact .inr T.there
  ·exact .inr ⟨o,T.keep b o z e⟩
theorem SR.iter(S:SR B ρ fr σ s)(T:B_ it s s')(h0:B.h₀.get? it=Zk):SR B ρ fr σ s':=by
 obtain⟨oi,ts,h1,h2,h3⟩:=id T.old;have still:=T.still S
 have ne:∀ b,aj ρ fr b->b≠it:=λb hb z=>(nk S h1 h2 h3 :) (z▸hb)
 refine⟨S.len,λi p hp => ?_,S.gone,S.sep,S.L_,S.I_,λb hb => ?_,?_,cK S.base still λb o₀ o e0 e=>T.keep b o (λz=>by rw[z,h0]at e0;cases e0) e,T.gens.trans S.gens,T.os.trans S.os,S.cap,S.Os⟩
 ·obtain⟨o,ho,r⟩:=S.obj i p hp
  refine⟨o,ho,?_⟩
  exact r.mono (.refl _) still ⟨λb o v e hc hd=>⟨o,(λb o v e hc _=>T.keep b o (λz=>by rw[z,h1]at e;cases e;rw[hc]at h2;exact absurd h2 (by decide)) e:∀ b o v,s.heap.get? b=Zj o->o.cls = .type "cell"->o.data = .cell (Zj v)->s'.heap.get? b=Zj o) b o v e hc hd,rfl,rfl⟩⟩ o p (λb x hb e=>T.keep b x (ne b (.inl ⟨i,p,hp,hb⟩)) e)
 ·obtain⟨h0',o,ho,hd⟩:=S.frB b hb
  exact⟨h0',o,T.keep b o (ne b (by rcases hb with hb|hb;exact .inr (.inr (.inl hb));exact .inr (.inr (.inr hb)))) ho,hd⟩
 ·refine O4.mono S.exc λ_ _ q PQ e => ?_
  exact Pk.keep e (λo ho=>T.keep _ o (ne _ (.inr (.inl ⟨q,PQ,.inl rfl⟩))) ho) (λo ho=>T.keep _ o (ne _ (.inr (.inl ⟨q,PQ,.inr rfl⟩))) ho)
   λb o ts _ ho hc _=>T.keep b o (λz=>by rw[z,h1]at ho;cases ho;rw[hc]at h2;exact absurd h2 (by decide)) ho
theorem B_.Qs(T:B_ it s s'):Cell1 s.heap s'.heap:=by
 obtain⟨oi,ts,h1,h2,h3⟩:=T.old
 exact⟨λb o v e hc _=>⟨o,T.keep b o (λz=>by rw[z,h1]at e;cases e;rw[hc]at h2;exact absurd h2 (by decide)) e,rfl,rfl⟩⟩
theorem Step.iter(X:Step B c_ fr s₀ ρ s)(S:SR B ρ fr σ s)(T:B_ it s s')(hn:s₀.heap.get? it=Zk):Step B c_ fr s₀ ρ s':=by
 obtain⟨oi,ts,h1,h2,h3⟩:=id T.old;have ne:∀ b o,s₀.heap.get? b=Zj o->b≠it:=λb o e z=>by rw[z,hn]at e;cases e
 refine⟨X.goes,X.still.trans (T.still S),⟨⟨λb o v e k d=>by
  obtain⟨o',e',k',d'⟩:=X.cells.cells b o v e k d;obtain⟨o2,e2,k2,d2⟩:=T.Qs.cells b o' v e' (k'.trans k) (d'.trans d)
  exact⟨o2,e2,k2.trans k',d2.trans d'⟩⟩,λb o ts e hc hd=>T.keep b o (ne b o e) (X.cells.its b o ts e hc hd)⟩,X.fs,λb hb o e => ?_⟩
 obtain⟨sl,hs⟩:=X.Pl b hb o e
 exact⟨sl,T.keep b _ (ne b o e) hs⟩
theorem Fm.iter(F:Fm B env sc le ρ fr s.heap)(S:SR B ρ fr σ s)(T:B_ it s s'):Fm B env sc le ρ fr s'.heap:=by
 obtain⟨oi,ts,h1,h2,h3⟩:=id T.old;have nf:∀ b,b∈fr->b≠it:=λb hb z=>(nk S h1 h2 h3 :) (.inr (.inr (.inl (z▸hb))))
 refine⟨F.kind,F.globals,F.builtins,F.kinds,F.loc,?_,λx v hx hk => ?_,λx hx hk => ?_,F.apart,F.code⟩
 ·obtain⟨m,hn,hm⟩:=F.ns
  refine⟨m,hn.at λo e=>T.keep _ o (nf _ F.loc) e,λx v hx hk => ?_⟩
  obtain⟨u,hu,hv⟩:=hm x v hx hk
  exact⟨u,hu,hv.mono (.refl _) (T.still S)⟩
 ·obtain⟨c,o,u,hc,ho,hcl,hd,hv⟩:=F.cells x v hx hk;obtain⟨o',e',k',d'⟩:=T.Qs.cells _ _ _ ho hcl hd
  exact⟨c,o',u,hc,e',k'.trans hcl,d'.trans hd,hv.mono (.refl _) (T.still S)⟩
 ·obtain⟨c,o,hc,ho,hcl,hd,hf,hne⟩:=F.empty x hx hk
  exact⟨c,o,hc,T.keep _ o (nf _ hf) ho,hcl,hd,hf,hne⟩
def OJ(B:Base)(ρ:e_)(fr:List Tc)(h:Tr)(it:Tc)(l:List V)(k:Nat):Prop:=
 (X3 λa us n=>A4 (h.IsListIter it a k) (h.get? a=Zj (bD "list" us n)) (¬ aj ρ fr a) (k_ B ρ h (aj ρ fr) l us.toList)) \/
 (X3 λa us n=>A4 (IsTupIter h it a k) (h.get? a=Zj (bD "tuple" us n)) (¬ aj ρ fr a) (k_ B ρ h (aj ρ fr) l us.toList)) \/
 (∃ n:Int,IsRangeIter h it k ((n.toNat:Int) - k) 1/\l=eP n.toNat)
theorem OJ.old{h:Tr}{l:List V}{k:Nat}(x:OJ B ρ fr h it l k):X2 λo ts=>A3 (h.get? it=Zj o) (cJ o.cls=Zm) (o.data = .fields ts):=by
 rcases x with ⟨a,us,n,⟨o,ho,hc,hd⟩,_⟩|⟨a,us,n,⟨o,ho,hc,hd⟩,_⟩|⟨n,hi,_⟩
 ·exact⟨o,_,ho,by(refine b_ hc ?_);decide,hd⟩
 ·exact⟨o,_,ho,by(refine b_ hc ?_);decide,hd⟩
 ·exact⟨_,_,hi,by show cJ (.type _)=Zm;decide,rfl⟩
theorem OJ.mono{h h':Tr}{l:List V}{k:Nat}{fr':List Tc}(x:OJ B ρ fr h it l k)(G:v_ ρ ρ')(St:Still h (aj ρ fr) h' (aj ρ' fr'))(hit:∀ o,h.get? it=Zj o->h'.get? it=Zj o):OJ B ρ' fr' h' it l k:=by
 rcases x with ⟨a,us,n,⟨o,ho,hi⟩,h2,h3,h4⟩|⟨a,us,n,⟨o,ho,hi⟩,h2,h3,h4⟩|⟨n,hi,h2⟩
 ·exact .inl ⟨a,us,n,⟨o,hit o ho,hi⟩,St.keep _ _ h2 h3 (by show Ox (.type _)=Zm;decide),St.no h2 h3,k_.mono G St _ _ h4⟩
 ·exact .inr (.inl ⟨a,us,n,⟨o,hit o ho,hi⟩,St.keep _ _ h2 h3 (by show Ox (.type _)=Zm;decide),St.no h2 h3,k_.mono G St _ _ h4⟩)
 ·exact .inr (.inr ⟨n,hit _ hi,h2⟩)
theorem OJ.step{s s':S9}{l:List V}{k:Nat}(x:OJ B ρ fr s.heap it l k)(T:Step B ρ fr s ρ' s'):OJ B ρ' fr s'.heap it l k:=by
 obtain⟨o,ts,h1,h2,h3⟩:=x.old;exact x.mono T.goes T.still λo' e=>T.cells.its it o' ts e (by rw[h1]at e;cases e;exact h2) (by rw[h1]at e;cases e;exact h3)
theorem oE{h:Tr}{ow:Tc->Prop}:∀ {l:List V} {us:List SX} {k:Nat} {v:V},k_ B ρ h ow l us->l[k]? = Zj v->∃ u,us[k]? = Zj u/\VR B ρ h ow v u
 | [],us,k,v,r,e=>by simp at e
 | x::l,us,k,v,r,e=>by
  unfold k_ at r;obtain⟨u,us',rfl,h1,h2⟩:=r;cases k with
  | zero=>cases e;exact⟨u,rfl,h1⟩
  | succ k=>
   obtain⟨w,hw,RL⟩:=oE (k:=k) (v:=v) h2 (by simpa using e)
   exact⟨w,by simpa using hw,RL⟩
theorem iM(S:SR B ρ fr σ s){l:List V}{k:Nat}{v:V}(x:OJ B ρ fr s.heap it l k)(hv:l[k]? = Zj v){Q:Option SX->S9->Prop}
  (h:∀ s' u,B_ it s s'->VR B ρ s'.heap (aj ρ fr) v u->OJ B ρ fr s'.heap it l (k+1)->Q (Zj u) s'):wpAny B.M A (pyNext (.ref it)) Q E s:=by
 have old:=x.old
 rcases x with ⟨a,us,n,hi,h2,h3,h4⟩|⟨a,us,n,hi,h2,h3,h4⟩|⟨n,hi,h2⟩
 ·obtain⟨u,hu,ru⟩:=oE h4 hv;have hne:a≠it:=λz=>by obtain⟨o,ho,hc,_⟩:=hi;rw[<- z,h2]at ho;cases ho;exact absurd hc (by simp)
  refine wpAny_pyNext_list_item hi ⟨_,h2,rfl,_,rfl⟩ (x:=u) (by(refine A' Ui ?_);exact hu) λh' hi' hs => ?_
  have T:B_ it s { s with heap:=h' }:=⟨old,λb o hb e=>(hs.2 b hb).trans e,by obtain⟨o,ho,_⟩:=hi';exact⟨o,ho⟩,rfl,rfl⟩
  exact h _ u T (ru.mono (.refl _) (T.still S)) (.inl ⟨a,us,n,hi',T.keep _ _ hne h2,h3,k_.mono (.refl _) (T.still S) _ _ h4⟩)
 ·obtain⟨u,hu,ru⟩:=oE h4 hv;refine next_tuple_item hi ⟨_,h2,rfl,_,rfl⟩ (x:=u) (by(refine A' Ui ?_);exact hu) λh' hi' hs => ?_
  have T:B_ it s { s with heap:=h' }:=⟨old,λb o hb e=>(hs.2 b hb).trans e,by obtain⟨o,ho,_⟩:=hi';exact⟨o,ho⟩,rfl,rfl⟩
  exact h _ u T (ru.mono (.refl _) (T.still S)) (.inr (.inl ⟨a,us,n,hi',T.keep _ _ (λz=>by obtain⟨o,ho,hc,_⟩:=hi;rw[<- z,h2]at ho;cases ho;exact absurd hc (by simp):a≠it) h2,h3,k_.mono (.refl _) (T.still S) _ _ h4⟩))
 ·subst h2;unfold eP at hv;rw[List.getElem?_map,Xr]at hv
  obtain⟨j,hj,rfl⟩:=hv;have hlt:k < n.toNat:=by
   have:=(TF.mp hj).1
   simpa using this
  rw[List.getElem?_range hlt]at hj
  ·cases hj;refine wpAny_pyNext_range_item hi (by lia) λh' hi' hs => ?_
   refine h _ _ (⟨old,λb o hb e=>(hs.2 b hb).trans e,⟨_,hi'⟩,rfl,rfl⟩:B_ it s { s with heap:=h',toks:=s.toks+1 }) (l_.mpr ⟨_,rfl⟩) (.inr (.inr ⟨n,?_,rfl⟩))
   have e1:((k:Int)+1)=((k+1:Nat):Int):=by exact Int.ofNat_add_one_out k
   have e2:(n.toNat:Int) - k - 1=(n.toNat:Int) - ((k+1:Nat):Int):=by lia
   rw[<- e1,<- e2]at *
   exact hi'
theorem jZ(S:SR B ρ fr σ s)(C:AC A ρ fr n)(hx:ρ.x=Zk){l:List V}{k:Nat}(x:OJ B ρ fr s.heap it l k)(hv:l[k]? = Zk){Q:Option SX->S9->Prop}
  (h:∀ s',B_ it s s'->Q Zk s'):wpAny B.M A (pyNext (.ref it)) Q E s:=by
 have old:=x.old
 have H:=z'.of C S
 have hne:∀ b,A.handled=Zj (.ref b)->b≠it:=λb hb=>by rw[C.handled,hx]at hb;cases hb
 rcases x with ⟨a,us,n,hi,h2,h3,h4⟩|⟨a,us,n,hi,h2,h3,h4⟩|⟨n,hi,h2⟩
 ·have hsz:=cn h4
  refine vl H hi ⟨_,h2,rfl,_,rfl⟩ (by rw[<- Ui,Uu];rw[Uu]at hv;exact le_of_eq_of_le hsz hv) hne λh' he=>h _ ⟨old,he.1,he.2,rfl,rfl⟩
 ·have hsz:=cn h4
  refine zQ H hi ⟨_,h2,rfl,_,rfl⟩ (by rw[<- Ui,Uu];rw[Uu]at hv;exact le_of_eq_of_le hsz hv) hne λh' he=>h _ ⟨old,he.1,he.2,rfl,rfl⟩
 ·subst h2;unfold eP at hv;rw[Uu,Vl,List.length_range]at hv;exact BY H hi (by lia) λh' he=>h _ ⟨old,he.1,he.2,rfl,rfl⟩
end
end
section
open PySem PySem.W PyProof.Rows PyProof
section
variable{α:Type}{B:Base}{I:It}{A:TV}{ρ ρ' c_:e_}{fr:List Tc}{σ:VS}{s s' s₀:S9}{n:Nat}{E:SX->S9->Prop}{env:WD}{sc:Tz}{le:LE}{it:Tc}
theorem wX(A:TV):A.mark Zk=A:=by cases A;rfl
theorem gC{r res:R α}(h:res=calm σ r)(hn:res ≠ .no):σ.x=Zk/\res=r:=by
 unfold calm at h;cases hx:σ.x with
 | none=>rw[hx]at h;exact⟨rfl,h⟩
 | some p=>rw[hx]at h;exact absurd h hn
theorem SR.calm(S:SR B ρ fr σ s)(h:σ.x=Zk):ρ.x=Zk:=by
 have e:=S.exc
 cases hx:ρ.x with
 | none=>rfl
 | some q=>rw[h,hx]at e;exact e.elim
set_option backward.match.sparseCases true in
set_option backward.match.sparseCases true in
set_option tactic.hygienic true in
theorem qE{t:Expr}{v:SX}{o:V3}(ho:s.heap.get? it=Zj o)(hi:cJ o.cls=Zm){Q:Unit->S9->Prop}(h:Q () s):wpAny B.M A (letOwnedTupleGo t (.ref it) v) Q E s:=by
 have key:∀ (v:SX),wpAny B.M A (do
   let (.ref r,.ref a):=(TQ it,v)|return
   let o <- load r
   match o.cls,o.data with
   | .type n,.fields vs=>
    if ["enumerate","zip","dict_itemiterator","dict_reverseitemiterator","odict_iterator","itertools.zip_longest","itertools.pairwise"].contains n&&vs[0]? == Zj (rawInt a) then
     rule "for.unpacks-the-owned-tuple"
     updateField r 0 .none
   | _,_=>pure ():Xk Unit) Q E s:=by
  intro v;cases v with
  | ref a=>
   refine S8 (Yo ho ?_)
   split
   ·rename_i n vs hc hd
    rw[hc]at hi
    have:(["enumerate","zip","dict_itemiterator","dict_reverseitemiterator","odict_iterator","itertools.zip_longest","itertools.pairwise"].contains n)=Zn:=by
     unfold cJ at hi
     simp at hi
     rcases hi with (rfl|rfl)|rfl<;>decide
    refine b_ this ?_
    exact Tg h
   ·exact Tg h
  | _=>exact Tg h
 cases t with
 | Tuple=>exact key v
 | List=>exact key v
 | _=>exact Tg h
theorem zK{res:R (Fl×LE)}{e:SX}(R:Frs A env c_ fr)(h:Ou B env sc le Zn c_ fr s₀ res e s'):notedBy B.M A env (λe s'=>cameBackBy B.M A env (Ou B env sc le Zn c_ fr s₀ res) e s') e s':=by
 obtain⟨σ',ρ',q,h1,h2,h3,h4,rfl,l,F,_⟩:=h;refine qZ h2 h4 (R.step h3.fs) λs₁ S₁ T₁ t₁ => ?_
 exact jY S₁ h4 t₁ λs₂ S₂ T₂ _=>⟨σ',ρ',q,h1,S₂,h3.trans (T₁.toStep.trans T₂.toStep),h4,rfl,l,(F.step T₁).step T₂,λz=>by cases z⟩
theorem v8{n k:Nat}(h:k < n):n+1 - (k+1) < n+1 - k:=by
 rw[Nat.add_sub_add_right,Nat.succ_sub (Wi h)];exact Nat.lt_succ_self _
theorem mJ(t:Expr)(body:List T9)(v:V)(l:List V):aK B.T I t body sc (v::l) le σ=calm σ ((Mine.assign B.T I t sc le v σ).bind λle s₁=>aT sc (len σ.o) (aK B.T I t body sc l) (I.ex body sc le s₁)):=rfl
theorem pt(t:Expr)(body:List T9):aK B.T I t body sc [] le σ=calm σ (.ok (.next,le) σ):=rfl
theorem Ou.R1{le':LE}{r:R α}{e:SX}{qk:Bool}(h:Ou B env sc le qk ρ fr s r e s'):Ou B env sc le' Zn ρ fr s r e s':=
 by obtain⟨σ',ρ',q,h1,h2,h3,h4,h5,l,F,h6⟩:=h;exact⟨σ',ρ',q,h1,h2,h3,h4,h5,l,F,λz=>by cases z⟩
def nL(B:Base)(A:TV)(env:WD)(sc:Tz)(Ov:LE)(c_:e_)(fr:List Tc)(s₀:S9)(res:R (Fl×LE))(r:Result)(s':S9):Prop:=match r with
 | .ok f=>Pw B env sc c_ fr s₀ res f s'
 | .error e=>cameBackBy B.M A env (Ou B env sc Ov Zn c_ fr s₀ res) e s'
theorem n0(H:Sound B I n){body:List T9}{QE:LE}{QF:VS}{Qt QS:e_}{sk sA:S9}{k:LE->VS->R (Fl×LE)}{res:R (Fl×LE)}{Ov:LE}(C:AC A Qt fr n)(N:En A env sc Qt fr)(SA:SR B Qt fr QF sA)(FA:Fm B env sc QE Qt fr sA.heap)
  (X:Step B c_ fr s₀ QS sk) (TA:Step B QS fr sk Qt sA) (xA:Qt.x=c_.x) (R:Frs A env c_ fr) (hr:res=aT sc QS.m.length k (I.ex body sc QE QF)) (hn:res ≠ .no)
  {Inv:S9->Prop}
  (next:∀ le' σ' ρ' s',SR B ρ' fr σ' s'->Fm B env sc le' ρ' fr s'.heap->Step B QS fr sk ρ' s'->ρ'.x=c_.x->res=k le' σ'->Inv s') :
  wpAny B.M A (execs body env) (λf s₃=>match f with
   | .next | .cont=>Inv s₃
   | .brk=>nL B A env sc Ov c_ fr s₀ res (.ok .next) s₃
   | .ret v=>nL B A env sc Ov c_ fr s₀ res (.ok (.ret v)) s₃) (notedBy B.M A env λe s'=>nL B A env sc Ov c_ fr s₀ res (.error e) s') sA:=by
 have hn1:I.ex body sc QE QF ≠ .no:=λz=>hn (by(refine b_ hr ?_;refine b_ z ?_);rfl)
 refine TJ (H.ex body C N SA FA hn1) (λfl s' h => ?_) λe s' h => ?_
 ·obtain⟨⟨f,le'⟩,σ',ρ',h1,S',T',x',F',r'⟩:=h;rw[h1]at hr;have go:res=k (fE sc.names QS.m.length le' σ').1 (fE sc.names QS.m.length le' σ').2->Inv s':=λe=>by
   obtain⟨PS,S2,F2,T2,x2⟩:=wP S' F' (TA.trans T') rfl;exact next _ _ PS s' S2 F2 T2 (x2.trans (x'.trans xA)) e
  cases f with
  | next=>have:fl = .next:=r';subst this;exact go hr
  | cont=>have:fl = .cont:=r';subst this;exact go hr
  | brk=>
   have:fl = .brk:=r';subst this
   exact dh S' (X.trans (TA.trans T')) (x'.trans xA) hr F' rfl
  | ret v=>
   obtain⟨u,rfl,rv⟩:=r';exact dh S' (X.trans (TA.trans T')) (x'.trans xA) hr F' ⟨u,rfl,rv⟩
 ·refine zK R ?_
  obtain⟨σ',ρ',q,h1,h2,h3,h4,h5,l,F,_⟩:=h
  exact⟨σ',ρ',q,by(refine b_ hr ?_;refine b_ h1 ?_);rfl,h2,X.trans (TA.trans h3),h4,h5,l,F,λz=>by cases z⟩
theorem qq(H:Sound B I n)(Fa:Facts B){t:Expr}{body:List T9}(P1:AC A c_ fr n)(N₀:En A env sc c_ fr)(hit:s₀.heap.get? it=Zk)(h0:B.h₀.get? it=Zk){l:List V}{res:R (Fl×LE)}(hn:res ≠ .no){Ov:LE}
  {ρ:e_} {σ:VS} {s:S9} {le:LE} (S:SR B ρ fr σ s) (X:Step B c_ fr s₀ ρ s) (hx:ρ.x=c_.x) (F:Fm B env sc le ρ fr s.heap) (hl:OJ B ρ fr s.heap it l 0) (hr:res=aK B.T I t body sc l le σ) :
  codeAny B.M A (.forLoop t (.ref it) body [] env) (nL B A env sc Ov c_ fr s₀ res) s:=by
 have Rf:Frs A env c_ fr := .of P1 N₀
 refine codeAny_forLoop_any (λm s'=>X4 λk ρ' σ' le'=>A8 (SR B ρ' fr σ' s') (Step B c_ fr s₀ ρ' s') (ρ'.x=c_.x) (Fm B env sc le' ρ' fr s'.heap) (OJ B ρ' fr s'.heap it l k) (res=aK B.T I t body sc (l.drop k) le' σ') (k<=l.length) (m=l.length+1 - k)) ?_ (l.length+1)
  ⟨0,ρ,σ,le,S,X,hx,F,hl,hr,U4 _,rfl⟩
 rintro m s' ⟨k,ρ',σ',le',S',X',x',F',hl',hr',hk,rfl⟩
 have C':AC A ρ' fr n:=P1.step X'.fs x'
 have N':En A env sc ρ' fr:=N₀.step X'.fs
 obtain⟨oi,ts,ho,hi,_⟩:=hl'.old;cases hv:l[k]? with
 | none=>
  have hd:l.drop k=[]:=List.drop_eq_nil_of_le (Uu.mp hv)
  rw[hd,pt]at hr';obtain⟨hc,hr'⟩:=gC hr' hn;refine jZ S' C' (S'.calm hc) hl' hv λs₁ T₁=>V8 ?_
  exact dh (S'.iter T₁ h0) (X'.iter S' T₁ hit) x' hr' (F'.iter S' T₁) rfl
 | some v=>
  have hkl:k < l.length:=(TF.mp hv).1
  have hd:l.drop k=v::l.drop (k+1):=by
   (refine b_ (List.drop_eq_getElem_cons hkl ..) ?_;try (with_reducible rfl))
   have:=(TF.mp hv).2
   exact b_ (this ..) rfl
  rw[hd,mJ]at hr';obtain⟨hc,hr'⟩:=gC hr' hn;refine iM S' hl' hv λs₁ u T₁ ru hl₁ => ?_
  have S₁:=S'.iter T₁ h0
  have X₁:=X'.iter S' T₁ hit
  have F₁:=F'.iter S' T₁
  obtain⟨Sd,ts',ho',hi',_⟩:=hl₁.old;refine qE ho' hi' ?_
  have hn1:Mine.assign B.T I t sc le' v σ' ≠ .no:=λz=>hn (by(refine b_ (hr' ..) ?_;refine b_ (z ..) ?_;try (with_reducible rfl));rfl)
  refine TJ (jj H Fa C' N' S₁ F₁ t ru rfl hn1) (λ_ s₂ h => ?_) λe s₂ h => ?_
  ·obtain⟨QE,QF,Qt,h1,SA,TA,xA,FA⟩:=h;rw[h1]at hr';have hr2:res=aT sc ρ'.m.length (aK B.T I t body sc (l.drop (k+1))) (I.ex body sc QE QF):=by
    (refine b_ (hr' ..) ?_;try (with_reducible rfl))
    show aT sc (len σ'.o) _ _=_
    refine b_ (aJ ..) ?_;exact A' (S'.len ..) rfl
   refine n0 H (Ov:=Ov) (C'.step TA.fs xA) (N'.step TA.fs) SA FA X₁ TA (xA.trans x') Rf hr2 hn λle2 σ2 PS s3 S3 F3 T3 x3 e3 => ?_
   refine⟨_,?_,k+1,PS,σ2,le2,S3,X₁.trans T3,x3,F3,hl₁.step T3,e3,by exact Nat.succ_le_of_lt hkl,rfl⟩
   exact v8 hkl
  ·exact zK Rf (Ou.R1 (Ou.later (r':=res) X₁ (λσ2 z=>by(refine b_ (hr' ..) ?_;refine b_ (z ..) ?_;try (with_reducible rfl));rfl) h))
end
end
section
open PySem PySem.W PyProof.Rows PyProof
section
variable{α:Type}{B:Base}{I:It}{A:TV}{ρ ρ' c_:e_}{fr:List Tc}{σ:VS}{s s' s₀:S9}{n:Nat}{E:SX->S9->Prop}{env:WD}{sc:Tz}{le:LE}{it:Tc}
theorem ub(t:Expr)(body:List T9)(i m k:Nat):fh B.T I t body sc i (m+1) k le σ=ag (fS σ i) .no λxs=>calm σ (ag (f9 xs k) (.ok (.next,le) σ) λx=>(Mine.assign B.T I t sc le (.d x) σ).bind λle s₁=>aT sc (len σ.o) (fh B.T I t body sc i m (k+1)) (I.ex body sc le s₁)):=rfl
theorem BH{h:Tr}{ow:Tc->Prop}:∀ {l:List SQ} {us:List SX} {k:Nat} {v:SQ},PRs B h ow l us->l[k]? = Zj v->∃ u,us[k]? = Zj u/\PR B h ow v u
 | [],us,k,v,r,e=>by simp at e
 | x::l,us,k,v,r,e=>by
  unfold PRs at r;obtain⟨u,us',rfl,h1,h2⟩:=r;cases k with
  | zero=>cases e;exact⟨u,rfl,h1⟩
  | succ k=>
   obtain⟨w,hw,RL⟩:=BH (k:=k) (v:=v) h2 (by simpa using e)
   exact⟨w,by simpa using hw,RL⟩
structure PC (B:Base) (ρ:e_) (fr:List Tc) (σ:VS) (s:S9) (i:Nat) (p:Tc×List Tc) (xs:List SQ):Prop where
 at':ρ.m[i]? = Zj (Zj p)
 obj:X2 λvs c=>s.heap.get? p.1=Zj (bD "list" vs c)/\PRs B s.heap (aj ρ fr) xs vs.toList
theorem wD(S:SR B ρ fr σ s){i:Nat}{p:Tc×List Tc}{xs:List SQ}(hg:σ.get i=Zj (.a_ xs))(hp:ρ.m[i]? = Zj (Zj p)\/ρ.m[i]? = Zj Zk):PC B ρ fr σ s i p xs:=by
 obtain⟨p',hp',e,vs,c,ho,hr⟩:=S.at hg (λh=>by cases h)
 have:p'=p:=by
  rcases hp with hp|hp
  ·rw[hp]at hp';cases hp';rfl
  ·rw[hp]at hp';cases hp'
 subst this
 exact⟨hp',vs,c,ho,hr⟩
theorem n7(S:SR B ρ fr σ s){i k:Nat}{p:Tc×List Tc}{xs:List SQ}(L:PC B ρ fr σ s i p xs)(hit:s.heap.IsListIter it p.1 k){x:SQ}(hx:xs[k]? = Zj x){Q:Option SX->S9->Prop}
  (h:∀ s' u,B_ it s s'->VR B ρ s'.heap (aj ρ fr) (.d x) u->s'.heap.IsListIter it p.1 (k+1)->Q (Zj u) s'):wpAny B.M A (pyNext (.ref it)) Q E s:=by
 obtain⟨vs,c,ho,hr⟩:=L.obj;obtain⟨u,hu,ru⟩:=BH hr hx;refine wpAny_pyNext_list_item hit ⟨_,ho,rfl,_,rfl⟩ (x:=u) (by(refine A' Ui ?_);exact hu) λh' hi' hs => ?_
 have T:B_ it s { s with heap:=h' }:=⟨(by obtain⟨o,h1,hc,hd⟩:=hit;exact⟨o,_,h1,by(refine b_ hc ?_);decide,hd⟩:X2 λo ts=>A3 (s.heap.get? it=Zj o) (cJ o.cls=Zm) (o.data = .fields ts)),λb o hb e=>(hs.2 b hb).trans e,by obtain⟨o,ho,_⟩:=hi';exact⟨o,ho⟩,rfl,rfl⟩
 refine h _ u T ?_ hi'
 unfold VR;exact PR.mono (T.still S) x u ru
theorem qt(S:SR B ρ fr σ s)(C:AC A ρ fr n)(hx:ρ.x=Zk){i k:Nat}{p:Tc×List Tc}{xs:List SQ}(L:PC B ρ fr σ s i p xs)(hit:s.heap.IsListIter it p.1 k)(hxs:xs[k]? = Zk){Q:Option SX->S9->Prop}
  (h:∀ s',B_ it s s'->Q Zk s'):wpAny B.M A (pyNext (.ref it)) Q E s:=by
 obtain⟨vs,c,ho,hr⟩:=L.obj;have hsz:=bq hr
 exact vl (z'.of C S) hit ⟨_,ho,rfl,_,rfl⟩ (by rw[<- Ui,Uu];rw[Uu]at hxs;exact le_of_eq_of_le hsz hxs) (λb hb=>by rw[C.handled,hx]at hb;cases hb) λh' he=>h _ ⟨(by obtain⟨o,h1,hc,hd⟩:=hit;exact⟨o,_,h1,by rw[hc];decide,hd⟩:X2 λo ts=>A3 (s.heap.get? it=Zj o) (cJ o.cls=Zm) (o.data = .fields ts)),he.1,he.2,rfl,rfl⟩
theorem nF{k:Nat}{a:Tc}{s s':S9}(x:s.heap.IsListIter it a k)(T:Step B ρ fr s ρ' s'):s'.heap.IsListIter it a k:=by
 obtain⟨o,ho,hc,hd⟩:=x
 exact⟨o,T.cells.its _ _ _ ho (by(refine b_ hc ?_);decide) hd,hc,hd⟩
theorem zS(H:Sound B I n)(Fa:Facts B){t:Expr}{body:List T9}(P1:AC A c_ fr n)(N₀:En A env sc c_ fr)(hit:s₀.heap.get? it=Zk)(h0:B.h₀.get? it=Zk){i m:Nat}{p:Tc×List Tc}{res:R (Fl×LE)}(hn:res ≠ .no){Ov:LE}
  {ρ:e_} {σ:VS} {s:S9} {le:LE} (S:SR B ρ fr σ s) (X:Step B c_ fr s₀ ρ s) (hx:ρ.x=c_.x) (F:Fm B env sc le ρ fr s.heap) (hp:ρ.m[i]? = Zj (Zj p)) (hl:s.heap.IsListIter it p.1 0) (hr:res=fh B.T I t body sc i m 0 le σ) :
  codeAny B.M A (.forLoop t (.ref it) body [] env) (nL B A env sc Ov c_ fr s₀ res) s:=by
 have Rf:Frs A env c_ fr := .of P1 N₀
 refine codeAny_forLoop_any (λm s'=>X4 λk ρ' σ' le'=>A7 (SR B ρ' fr σ' s') (Step B c_ fr s₀ ρ' s') (ρ'.x=c_.x) (Fm B env sc le' ρ' fr s'.heap) (s'.heap.IsListIter it p.1 k) (res=fh B.T I t body sc i m k le' σ') ((ρ'.m[i]? = Zj (Zj p)\/ρ'.m[i]? = Zj Zk))) ?_ m
  ⟨0,ρ,σ,le,S,X,hx,F,hl,hr,.inl hp⟩
 rintro m s' ⟨k,ρ',σ',le',S',X',x',F',hl',hr',hp'⟩
 have C':AC A ρ' fr n:=P1.step X'.fs x'
 have N':En A env sc ρ' fr:=N₀.step X'.fs
 cases m with
 | zero=>exact absurd hr' hn
 | succ m=>
  rw[ub]at hr';obtain⟨xs,hg,hr'⟩:=aU hr' hn
  ·obtain⟨hc,hr'⟩:=gC hr' hn;have L:=wD S' (bU hg) hp'
   obtain⟨oi,ho,hcl,hd⟩:=id hl';rw[bI]at hr';cases hv:xs[k]? with
   | none=>
    rw[hv]at hr';refine qt S' C' (S'.calm hc) L hl' hv λs₁ T₁=>V8 ?_
    exact dh (S'.iter T₁ h0) (X'.iter S' T₁ hit) x' hr' (F'.iter S' T₁) rfl
   | some v=>
    rw[hv]at hr';refine n7 S' L hl' hv λs₁ u T₁ ru hl₁ => ?_
    have X₁:=X'.iter S' T₁ hit
    obtain⟨Sd,ho',hcl',hd'⟩:=id hl₁;refine qE ho' (by(refine b_ (hcl' ..) ?_;try (with_reducible rfl));decide) ?_
    have hr1:res=(Mine.assign B.T I t sc le' (.d v) σ').bind λle s₁=>aT sc (len σ'.o) (fh B.T I t body sc i m (k+1)) (I.ex body sc le s₁):=hr'
    have hn1:Mine.assign B.T I t sc le' (.d v) σ' ≠ .no:=λz=>hn (by(refine b_ (hr1 ..) ?_;refine b_ (z ..) ?_;try (with_reducible rfl));rfl)
    refine TJ (jj H Fa C' N' (S'.iter T₁ h0 :) (F'.iter S' T₁ :) t ru rfl hn1) (λ_ s₂ h => ?_) λe s₂ h => ?_
    ·obtain⟨QE,QF,Qt,h1,SA,TA,xA,FA⟩:=h;rw[h1]at hr1;have hr2:res=aT sc ρ'.m.length (fh B.T I t body sc i m (k+1)) (I.ex body sc QE QF):=by
      (refine b_ (hr1 ..) ?_;try (with_reducible rfl))
      show aT sc (len σ'.o) _ _=_
      (refine b_ (aJ ..) ?_;refine A' (S'.len ..) ?_;try (with_reducible rfl))
     refine n0 H (Ov:=Ov) (C'.step TA.fs xA) (N'.step TA.fs) SA FA X₁ TA (xA.trans x') Rf hr2 hn λle2 σ2 PS s3 S3 F3 T3 x3 e3 => ?_
     refine⟨m,by exact Nat.lt_add_one m,k+1,PS,σ2,le2,S3,X₁.trans T3,x3,F3,nF hl₁ T3,e3,?_⟩
     exact T3.goes.m _ _ L.at'
    ·exact zK Rf (Ou.R1 (Ou.later (r':=res) X₁ (λσ2 z=>by(refine b_ (hr1 ..) ?_;refine b_ (z ..) ?_;try (with_reducible rfl));rfl) h))
theorem mZ{e:Expr}(h:∀ a b c,e ≠ .Set a b c)(v:SX):foldedSetIterable e env v=pure v:=by
 cases e with
 | Set a b c=>exact absurd rfl (h a b c)
 | _=>rfl
theorem VR.data{h:Tr}{ow:Tc->Prop}{x:SQ}{u:SX}(r:VR B ρ h ow (.d x) u):PR B h ow x u:=by unfold VR at r;exact r
inductive O8 (B:Base) (ρ:e_) (fr:List Tc) (s:S9) (u:SX) (l:List V):Prop
 | mk (ho:V3):(∀ (A:TV) (Q:SX->S9->Prop) (E:SX->S9->Prop),Q (.ref s.heap.objs.size) { s with heap:=s.heap.push ho }->wpAny B.M A (pyIter u) Q E s)->OJ B ρ fr (s.heap.push ho) s.heap.objs.size l 0->O8 B ρ fr s u l
theorem rd(S:SR B ρ fr σ s){x:SQ}{xs:List SQ}{u:SX}(hx:yz x=Zj xs)(r:PR B s.heap (aj ρ fr) x u):O8 B ρ fr s u (fL xs):=by
 have T:∀ ho:V3,Still s.heap (aj ρ fr) (s.heap.push ho) (aj ρ fr):=λho=>(S.grow (s':={ s with heap:=s.heap.push ho }) (λb o e=>Tj _ e) rfl rfl).2.still
 unfold yz at hx;cases hl:iW x with
 | some ys=>
  rw[hl]at hx;rw[iE hl,Tf hx]at r;unfold PR at r;obtain⟨a,vs,c,rfl,ha,ho,hs,_⟩:=r
  exact⟨_,λA Q E=>wpAny_pyIter_list ⟨_,ho,rfl,_,rfl⟩,.inl ⟨a,vs,c,⟨_,Uw _ rfl,rfl,rfl⟩,Tj _ ho,ha,gP (PRs.mono (T _) _ _ hs)⟩⟩
 | none=>
  rw[hl]at hx;rw[wa hx]at r;unfold PR at r;obtain⟨a,vs,c,rfl,ha,ho,hs⟩:=r
  exact⟨_,λA Q E=>iter_tuple ⟨_,ho,rfl,_,rfl⟩,.inr (.inl ⟨a,vs,c,⟨_,Uw _ rfl,rfl,rfl⟩,Tj _ ho,ha,gP (PRs.mono (T _) _ _ hs)⟩)⟩
theorem uo(k:Int):Y5 0 k 1=(k.toNat:Int) - ((0:Nat):Int):=by
 unfold Y5
 simp
 split<;>lia
theorem rI{k:Int}{u:SX}(r:VR B ρ s.heap (aj ρ fr) (.rng k) u):O8 B ρ fr s u (eP k.toNat):=by
 unfold VR at r;obtain⟨hk,a,rfl,ha,ta,tb,tc,hra⟩:=r;have hka:=im hk
 refine⟨_,λA Q E=>wpAny_pyIter_range hra (small_one (by lia) (by lia) (by lia) (by lia)),.inr (.inr ⟨k,?_,rfl⟩)⟩
 refine b_ (uo ..) ?_
 exact Uw _ rfl
theorem vX{dk:e_}{s₁ s₂:S9}{t:Expr}{body:List T9}{res:R (Fl×LE)}(T₁:Step B ρ fr s dk s₁)(x₁:dk.x=ρ.x)(h:codeAny B.M A (.forLoop t (.ref it) body [] env) (nL B A env sc le dk fr s₁ res) s₂) :
  wpAny B.M A (runOwn (.forLoop t (.ref it) body [] env) env) (Pw B env sc ρ fr s res) (Ou B env sc le Zn ρ fr s res) s₂:=by
 refine TJ (wpAny_runOwn (h:=Zk) (Q:=λf s'=>Pw B env sc dk fr s₁ res f s') (E:=Ou B env sc le Zn dk fr s₁ res) ?_) (λ_ _ h => ?_) λ_ _ h=>Ou.later T₁ (λ_ z=>z) h
 ·(refine b_ (wX ..) ?_)
  exact codeAny_mono h λr s' hr=>by cases r<;>exact hr
 ·obtain⟨p,σ',ρ',h1,h2,h3,h4,h5,h6⟩:=h
  exact⟨p,σ',ρ',h1,h2,T₁.trans h3,h4.trans x₁,h5,h6⟩
theorem nt(H:Sound B I n)(Fa:Facts B){dk:e_}{σ₁:VS}{s₁:S9}(C:AC A dk fr n)(N:En A env sc dk fr)(S:SR B dk fr σ₁ s₁)(F:Fm B env sc le dk fr s₁.heap){t:Expr}{body:List T9}{res:R (Fl×LE)}(hn:res ≠ .no)(T₁:Step B ρ fr s dk s₁)(x₁:dk.x=ρ.x){u:SX}{l:List V}(hi:O8 B dk fr s₁ u l)
  (e:res=aK B.T I t body sc l le σ₁):wpAny B.M A (pyIter u) (λiu s'=>wpAny B.M A (runOwn (.forLoop t iu body [] env) env) (Pw B env sc ρ fr s res) (Ou B env sc le Zn ρ fr s res) s') (Ou B env sc le Zn ρ fr s res) s₁:=by
 obtain⟨ho,hq,hI⟩:=hi;obtain⟨S₂,T₂⟩:=S.grow (s':={ s₁ with heap:=s₁.heap.push ho }) (λb o e=>Tj _ e) rfl rfl
 exact hq _ _ _ (vX T₁ x₁ (qq H Fa C N (bn _) (S.fresh0 (bn _)) hn S₂ T₂.toStep rfl (F.step T₂) hI e))
theorem BD(H:Sound B I n)(Fa:Facts B){dk:e_}{σ₁:VS}{s₁:S9}(C:AC A dk fr n)(N:En A env sc dk fr)(S:SR B dk fr σ₁ s₁)(F:Fm B env sc le dk fr s₁.heap){t:Expr}{body:List T9}{res:R (Fl×LE)}(hn:res ≠ .no)(T₁:Step B ρ fr s dk s₁)(x₁:dk.x=ρ.x){u:SX}{i:Nat}(r:VR B dk s₁.heap (aj dk fr) (.ref i) u)
  (e:res=fh B.T I t body sc i 1000 0 le σ₁):wpAny B.M A (pyIter u) (λiu s'=>wpAny B.M A (runOwn (.forLoop t iu body [] env) env) (Pw B env sc ρ fr s res) (Ou B env sc le Zn ρ fr s res) s') (Ou B env sc le Zn ρ fr s res) s₁:=by
 obtain⟨xs,hg,_⟩:=aU (show res=ag (fS σ₁ i) .no _ from e) hn
 obtain⟨p,hp,ee,vs,c,ho,hs⟩:=S.at (bU hg) (λh=>by cases h)
 refine b_ (aH hp r) ?_
 obtain⟨S₂,T₂⟩:=S.grow (s':={ s₁ with heap:=s₁.heap.push { cls := .type "list_iterator",data := .fields #[.ref p.1,.int 0 0] } }) (λb o e=>Tj _ e) rfl rfl
 exact wpAny_pyIter_list ⟨_,ho,rfl,_,rfl⟩ (vX T₁ x₁ (zS H Fa C N (bn _) (S.fresh0 (bn _)) hn S₂ T₂.toStep rfl (F.step T₂) hp ⟨_,Uw _ rfl,rfl,rfl⟩ e))
theorem Aq(H:Sound B I n)(Fa:Facts B)(C:AC A ρ fr n)(N:En A env sc ρ fr)(S:SR B ρ fr σ s)(F:Fm B env sc le ρ fr s.heap)(t ie:Expr)(body orelse:List T9)(pos:Vw) :
  Px B A env sc le Zn ρ fr s (Fs B.T I t ie body orelse sc le σ) (exec (.For t ie body orelse pos) env) := .mk λres hr hn=>by
 obtain⟨ho,hr1⟩:=bv hr hn;have hns:∀ a b c,ie ≠ .Set a b c:=by
  rintro a b c rfl
  refine hn (hr1.trans ?_)
  (refine b_ (H.set ..) ?_);rfl
 refine b_ (arm_exec_For ..) ?_;refine b_ (bu ho ..) ?_
 refine S8 (Um (S8 ((H.ev ie C N S F).H' (.refl ..) (λz=>F) hr1 hn λv σ₁ dk u s₁ S₁ T₁ r_ x₁ r₁ e₁=>S8 (YQ (mZ hns u) (S8 (Um (S8 (Ua ?_))))))))
 have C₁:=C.to r_ x₁
 have N₁:=N.to r_
 have F₁:=F.step r_
 cases v with
 | rng k=>exact nt H Fa C₁ N₁ S₁ F₁ hn T₁ x₁ (rI r₁) e₁
 | d x=>
  obtain⟨xs,hx,e₁⟩:=aU (show res=ag (yz x) .no _ from e₁) hn
  exact nt H Fa C₁ N₁ S₁ F₁ hn T₁ x₁ (rd S₁ hx (VR.data r₁)) e₁
 | ref i=>exact BD H Fa C₁ N₁ S₁ F₁ hn T₁ x₁ r₁ e₁
 | _=>exact absurd e₁ hn
end
end
section
open PySem PySem.W PyProof.Rows PyProof
structure F_ (B:Base) (ρ:e_) (fr:List Tc) (s:S9) (ρ':e_) (fr':List Tc) (s':S9):Prop where
 goes:v_ ρ ρ'
 still:Still s.heap (aj ρ fr) s'.heap (aj ρ' fr')
 cells:Cells s.heap s'.heap
 fs:ρ'.fs=ρ.fs
 Pl:∀ b∈ρ.fs,∀ o,s.heap.get? b=Zj o->∃ sl,s'.heap.get? b=Zj { o with slots:=sl }
 OY:∀ b∈fr,∀ o,s.heap.get? b=Zj o->∃ sl,s'.heap.get? b=Zj { o with slots:=sl }
section
variable{α:Type}{B:Base}{I:It}{A:TV}{ρ ρ' M_ c_:e_}{fr fr' OL:List Tc}{σ:VS}{s s' s'' s₀:S9}{n:Nat}{E:SX->S9->Prop}{env:WD}{sc:Tz}{le:LE}{it:Tc}
theorem dR.toF(x:dR B ρ fr s ρ' s'):F_ B ρ fr s ρ' fr s':=⟨x.goes,x.still,x.cells,x.fs,x.Pl,x.OY⟩
theorem F_.trans(x:F_ B ρ fr s ρ' fr' s')(y:F_ B ρ' fr' s' M_ OL s'')(h:∀ b∈fr,b∈fr'):F_ B ρ fr s M_ OL s'':=
 ⟨x.goes.trans y.goes,x.still.trans y.still,x.cells.trans y.cells,y.fs.trans x.fs,
  λb hb o e=>by obtain⟨_,e'⟩:=x.Pl b hb o e;exact by obtain⟨sl,e''⟩:=y.Pl b (x.fs▸hb) _ e';exact⟨sl,e''⟩,
  λb hb o e=>by obtain⟨_,e'⟩:=x.OY b hb o e;exact by obtain⟨sl,e''⟩:=y.OY b (h b hb) _ e';exact⟨sl,e''⟩⟩
theorem F_.own(x:F_ B ρ fr s ρ' fr' s'){W:Tc->Prop}(hn:∀ b,W b->s.heap.get? b=Zk)(hk:∀ b o,¬ W b->s'.heap.get? b=Zj o->s''.heap.get? b=Zj o):F_ B ρ fr s ρ' fr' s'':=by
 have ne:∀ b o,s.heap.get? b=Zj o->¬ W b:=λb o e w=>by rw[hn b w]at e;cases e
 refine⟨x.goes,⟨λb o e n f=>hk b o (ne b o e) (x.still.keep b o e n f),x.still.own,λb o e => ?_⟩,⟨⟨λb o v e c d => ?_⟩,λb o ts e c d=>hk b o (ne b o e) (x.cells.its b o ts e c d)⟩,x.fs,λb hb o e => ?_,λb hb o e => ?_⟩
 ·rcases x.still.there b o e with q|⟨o',h⟩
  ·exact .inl q
  ·exact .inr ⟨o',hk b o' (ne b o e) h⟩
 ·obtain⟨o',h,r,r'⟩:=x.cells.cells b o v e c d
  exact⟨o',hk b o' (ne b o e) h,r,r'⟩
 ·obtain⟨sl,h⟩:=x.Pl b hb o e
  exact⟨sl,hk b _ (ne b o e) h⟩
 ·obtain⟨sl,h⟩:=x.OY b hb o e
  exact⟨sl,hk b _ (ne b o e) h⟩
theorem SR.P3(S:SR B ρ fr σ s)(fr':List Tc)(hsub:∀ b∈fr,b∈fr')(hk:∀ b o,s.heap.get? b=Zj o->s'.heap.get? b=Zj o)(hg:s'.gens=s.gens)(hos:s'.os=s.os)
  (hnew:∀ b∈fr',b∈fr\/(s.heap.get? b=Zk/\∃ o,s'.heap.get? b=Zj o/\∀ vs,o.data ≠ .fields vs)):SR B ρ fr' σ s'/\F_ B ρ fr s ρ fr' s':=by
 obtain⟨S',T⟩:=S.Pn ρ.fs fr' hk hg hos λb hb=>by
  rcases hb with hb|hb
  ·rcases hnew b hb with h|h
   ·exact .inl (.inl h)
   ·exact .inr h
  ·exact .inl (.inr hb)
 exact⟨S',.refl _,T,⟨⟨λb o v e _ _=>⟨o,hk b o e,rfl,rfl⟩⟩,λb o ts e _ _=>hk b o e⟩,rfl,λb _ o e=>⟨o.slots,hk b o e⟩,λb _ o e=>⟨o.slots,hk b o e⟩⟩
theorem SR.drop{C:Tc}(S:SR B ρ (C::fr) σ s)(hk:∀ b o,b≠C->s.heap.get? b=Zj o->s'.heap.get? b=Zj o)(h3:C∉fr)(h4:C∉ρ.fs)
  (hC:∀ o v,s.heap.get? C=Zj o->o.data ≠ .cell v) (hg:s'.gens=s.gens) (hos:s'.os=s.os) :
  SR B ρ fr σ s'/\(∀ {c_ s₀},F_ B c_ fr s₀ ρ (C::fr) s->dR B c_ fr s₀ ρ s')/\Still s.heap (aj ρ (C::fr)) s'.heap (aj ρ fr):=by
 have mC:C∈C::fr:=Uo
 have mf:∀ b∈fr,b∈C::fr:=λb hb=>T8 _ hb
 have own:∀ b,aj ρ fr b->aj ρ (C::fr) b:=λb h=>by
  rcases h with h|h|h|h
  ·exact .inl h
  ·exact .inr (.inl h)
  ·exact .inr (.inr (.inl (mf b h)))
  ·exact .inr (.inr (.inr h))
 have oC:aj ρ (C::fr) C := .inr (.inr (.inl mC))
 have still:Still s.heap (aj ρ (C::fr)) s'.heap (aj ρ fr):=⟨λb o e nb _=>hk b o (λz=>nb (z▸oC)) e,λb h => .inl (own b h),λb o e=>by
  by_cases z:b=C
  ·exact .inl (z▸oC)
  ·exact .inr ⟨o,hk b o z e⟩⟩
 obtain⟨Se,oc,hoc,hcd⟩:=S.frB C (.inl mC);have cells:Cells s.heap s'.heap:=⟨⟨λb o v e c d=>⟨o,hk b o (λz=>hC o _ (z▸e) d) e,rfl,rfl⟩⟩,λb o ts e c d=>hk b o (λz=>by rw[z,hoc]at e;cases e;exact hcd _ d) e⟩
 refine⟨⟨S.len,λi q hq => ?_,S.gone,S.sep,λi q hq b hb => ?_,λq hq=>⟨(S.I_ q hq).1,λb hb => ?_⟩,λb hb => ?_,?_,?_,hg.trans S.gens,hos.trans S.os,S.cap,S.Os⟩,
  λ{c_ s₀} X=>⟨⟨X.goes,X.still.trans still,X.cells.trans cells,X.fs,λb hb o e => ?_⟩,λb hb o e => ?_⟩,still⟩
 ·obtain⟨o,ho,r⟩:=S.obj i q hq
  exact⟨o,ho,r.mono (.refl _) still cells.toCell1 o q (λb x hb e=>hk b x (λz=>(S.L_ i q hq b hb).1 (z▸mC)) e)⟩
 ·obtain⟨g1,g2,g3⟩:=S.L_ i q hq b hb
  exact⟨λz=>g1 (mf b z),g2,g3⟩
 ·obtain⟨g1,g2,g3,g4⟩:=(S.I_ q hq).2 b hb
  exact⟨λz=>g1 (mf b z),g2,g3,g4⟩
 ·obtain⟨h0,o,ho,hd⟩:=S.frB b (by rcases hb with hb|hb;exact .inl (mf b hb);exact .inr hb)
  exact⟨h0,o,hk b o (λz=>by rcases hb with hb|hb;exact h3 (z▸hb);exact h4 (z▸hb)) ho,hd⟩
 ·refine O4.mono S.exc λ_ _ q PQ e => ?_
  have sx:=(S.I_ q PQ).2
  exact Pk.keep e (λo ho=>hk _ o (λz=>(sx _ (.inl rfl)).1 (z▸mC)) ho) (λo ho=>hk _ o (λz=>(sx _ (.inr rfl)).1 (z▸mC)) ho) λb o ts _ ho _ hd=>hk b o (λz=>by rw[z,hoc]at ho;cases ho;exact hcd _ hd) ho
 ·exact cK S.base still λb o₀ o e0 e=>hk b o (λz=>by rw[z,Se]at e0;cases e0) e
 ·obtain⟨sl,h⟩:=X.Pl b hb o e
  exact⟨sl,hk b _ (λz=>h4 (by(refine A' z ?_;refine b_ X.fs ?_);exact hb)) h⟩
 ·obtain⟨sl,h⟩:=X.OY b hb o e
  exact⟨sl,hk b _ (λz=>h3 (z▸hb)) h⟩
end
end
section
open PySem PySem.W PyProof.Rows PyProof
section
variable{α:Type}{B:Base}{I:It}{A:TV}{ρ ρ' M_ c_:e_}{fr fr' OL:List Tc}{σ:VS}{s s' s'' s₀:S9}{n:Nat}{E:SX->S9->Prop}{env:WD}{sc h_:Tz}{le le':LE}{it:Tc}
theorem IF{k:Option Tp}(h:L7 k=Zm):k=Zj .cell\/k=Zj .free:=by
 obtain⟨k,rfl,h⟩:=aB h;cases k<;>first|exact .inl rfl|exact .inr rfl|exact Ti h
theorem fA{ns l:List (Tq×Tp)}(h:d8 ns le l=Zm)(x:Tq)(hx:(x,Tp.free)∈l):(ah ns x=Zj .cell\/ah ns x=Zj .free)/\∃ v,ak le x=Zj v:=by
 obtain⟨h1,h2⟩:=av (show ac (L7 (ah ns x)) (ag (ak le x) Zn λ_=>Zm) Zn=Zm from bz h _ hx)
 obtain⟨v,hv,_⟩:=aB h2
 exact⟨IF h1,v,hv⟩
structure Rp (env:WD) (names:List (Tq×Tp)) (cl:List (Tq×Tc)):Prop where
 sub:∀ y c,cl.lookup y=Zj c->env.cells.lookup y=Zj c
 all:∀ y,(y,Tp.free)∈names->∃ c,cl.lookup y=Zj c
 only:∀ y c,cl.lookup y=Zj c->(y,Tp.free)∈names
theorem GL(x:Tq)(a:Tc)(cs:List (Tq×Tc)):((x,a)::cs).lookup x=Zj a:=by
 rw[Uc,beq_self_eq_true x]
theorem EM{x y:Tq}{a c:Tc}{cs:List (Tq×Tc)}(h:((x,a)::cs).lookup y=Zj c):(y=x/\c=a)\/cs.lookup y=Zj c:=by
 rw[Uc]at h;cases hy:y==x with
 | true=>rw[hy]at h;cases h;exact .inl ⟨Vq hy,rfl⟩
 | false=>rw[hy]at h;exact .inr h
theorem HL{x y:Tq}{a:Tc}{cs:List (Tq×Tc)}(h:∃ c,cs.lookup y=Zj c):∃ c,((x,a)::cs).lookup y=Zj c:=by
 rw[Uc];cases y==x with
 | true=>exact⟨_,rfl⟩
 | false=>exact h
def t4(env:WD)(p:Tq×Tp)(cs:List (Tq×Tc)):Xk (ForInStep (List (Tq×Tc))):=if (p.2==Tp.free)=Zm then do let a <- cellOf env p.1;pure (Vv ((p.1,a)::cs)) else pure (Vv cs)
structure CG (env:WD) (l:List (Tq×Tp)) (cs cl:List (Tq×Tc)):Prop where
 run:(forIn l cs (t4 env):Xk (List (Tq×Tc)))=pure cl
 sub:∀ y c,cl.lookup y=Zj c->env.cells.lookup y=Zj c
 all:∀ y,(y,Tp.free)∈l\/(∃ c,cs.lookup y=Zj c)->∃ c,cl.lookup y=Zj c
 only:∀ y c,cl.lookup y=Zj c->(y,Tp.free)∈l\/∃ c',cs.lookup y=Zj c'
theorem CG.nil{cs:List (Tq×Tc)}(h:∀ y c,cs.lookup y=Zj c->env.cells.lookup y=Zj c):CG env [] cs cs:=
 ⟨List.forIn_nil,h,λy h=>h.resolve_left Vn,λy c h => .inr ⟨c,h⟩⟩
theorem qo{x:Tq}{a:Tc}(cs:List (Tq×Tc))(ha:env.cells.lookup x=Zj a):t4 env (x,.free) cs=pure (Vv ((x,a)::cs)):=by
 show(cellOf env x >>= λa=>pure (Vv ((x,a)::cs)))=_
 unfold cellOf;rw[ha];rfl
theorem CG.free{x:Tq}{a:Tc}{l:List (Tq×Tp)}{cs cl:List (Tq×Tc)}(ha:env.cells.lookup x=Zj a)(h:CG env l ((x,a)::cs) cl):CG env ((x,.free)::l) cs cl:=by
 refine⟨?_,h.sub,λy hy=>h.all y ?_,λy c hc => ?_⟩
 ·rw[XS,qo cs ha,pure_bind];exact h.run
 ·rcases hy with hy|hy
  ·rcases Ub.mp hy with e|hy
   ·cases e;exact .inr ⟨a,GL ..⟩
   ·exact .inl hy
  ·exact .inr (HL hy)
 ·rcases h.only y c hc with hy|⟨c',hy⟩
  ·exact .inl (.tail _ hy)
  ·rcases EM hy with e|hy
   ·rw[e.1];exact .inl (.head _)
   ·exact .inr ⟨c',hy⟩
theorem CG.skip{x:Tq}{k:Tp}{l:List (Tq×Tp)}{cs cl:List (Tq×Tc)}(hk:k ≠ .free)(h:CG env l cs cl):CG env ((x,k)::l) cs cl:=by
 refine⟨?_,h.sub,λy hy=>h.all y ?_,λy c hc=>(h.only y c hc).imp_left (.tail _)⟩
 ·have e:t4 env (x,k) cs=pure (Vv cs):=by cases k<;>first|rfl|exact absurd rfl hk
  rw[XS,e,pure_bind];exact h.run
 ·refine hy.imp_left λhy => ?_
  rcases Ub.mp hy with e|hy
  ·cases e;exact absurd rfl hk
  ·exact hy
theorem ux(l:List (Tq×Tp)):∀ cs:List (Tq×Tc),(∀ y,(y,Tp.free)∈l->∃ c,env.cells.lookup y=Zj c)->(∀ y c,cs.lookup y=Zj c->env.cells.lookup y=Zj c)->∃ cl,CG env l cs cl:=by
 induction l with
 | nil=>exact λcs _ h=>⟨cs,.nil h⟩
 | cons p l ih=>
  intro cs h1 h2;obtain⟨x,k⟩:=p;have t1:=λy hy=>h1 y (.tail _ hy)
  by_cases hk:k = .free
  ·subst hk;obtain⟨a,ha⟩:=h1 x (.head _);obtain⟨cl,h⟩:=ih ((x,a)::cs) t1 λy c h=>by
    rcases EM h with e|h
    ·rw[e.1,e.2];exact ha
    ·exact h2 y c h
   exact⟨cl,.free ha h⟩
  ·obtain⟨cl,h⟩:=ih cs t1 h2
   exact⟨cl,.skip hk h⟩
theorem me(F:Fm B env sc le ρ fr s.heap)(hf:d8 sc.names le h_.names=Zm):∃ cl,closureFor h_ env=pure cl/\Rp env h_.names cl:=by
 have h1:∀ y,(y,Tp.free)∈h_.names->∃ c,env.cells.lookup y=Zj c:=λy hy=>by
  obtain⟨hk,v,hv⟩:=fA hf y hy;obtain⟨c,o,u,hc,_⟩:=F.cells y v hv hk
  exact⟨c,hc⟩
 obtain⟨cl,e,r1,r2,r3⟩:=ux (env:=env) h_.names [] h1 (λy c h=>by cases h)
 refine⟨cl,?_,r1,λy hy=>r2 y (.inl hy),λy c hy => ?_⟩
 rotate_left
 ·rcases r3 y c hy with h|⟨_,h⟩
  ·exact h
  ·cases h
 unfold closureFor
 have:(forIn h_.names ([]:List (Tq×Tc)) λ(x:Tq×Tp) (cs:List (Tq×Tc))=>(match x with
   | (name,kind)=>if (kind==Tp.free)=Zm then do let a <- cellOf env name;pure (Vv ((name,a)::cs)) else pure (Vv cs):Xk (ForInStep (List (Tq×Tc)))))=pure cl:=e
 simpa using this
theorem cr{l:List (Tq×Tp)}{x:Tq}{k:Tp}:ah l x=Zj k->(x,k)∈l:=by
 induction l with
 | nil=>exact λh=>nn h
 | cons p l ih=>
  obtain⟨y,j⟩:=p;intro h;rw[dl]at h;cases hs:aw y x with
  | true=>rw[hs]at h;cases h;rw[g_.mp hs];exact .head _
  | false=>rw[hs]at h;exact .tail _ (ih h)
theorem hS{x:Tq}{l:List (Tq×Tp)}(h:ib x le l=Zm):(∀ y,(y,Tp.local)∈l->y=x\/ak le y=Zk)/\∀ y,(y,VL)∉l:=by
 refine⟨λy hy => ?_,λy hy=>Ti (show Zn=Zm from bz h _ hy)⟩
 have q:ac (aw y x) Zm (ag (ak le y) Zm λ_=>Zn)=Zm:=bz h _ hy
 cases hs:aw y x with
 | true=>exact .inl (g_.mp hs)
 | false=>
  rw[hs]at q;cases hg:ak le y with
  | none=>exact .inr rfl
  | some v=>rw[hg]at q;exact Ti q
theorem tW{g:Tq->Tp->Tp}{names:List (Tq×Tp)}{x:Tq}{k:Tp}:names.lookup x=Zj k->(names.map λp=>(p.1,g p.1 p.2)).lookup x=Zj (g x k):=by
 induction names with
 | nil=>exact λh=>nn h
 | cons p r ih=>
  intro h;rw[Uc]at h;rw[UJ,Uc];cases hx:x==p.1 with
  | true=>rw[hx]at h;cases h;rw[Vq hx]
  | false=>rw[hx]at h;exact ih h
theorem l6{env:WD}{names:List (Tq×Tp)}{x:Tq}{k:Tp}(h:names.lookup x=Zj k) :
  (names.map λ(n,k)=>if (k==Tp.free&&env.scope.kind == .function&&env.kindOf n==Zj .cell) then (n,VL) else (n,k)).lookup x =
   Zj (if (k==Tp.free&&env.scope.kind == .function&&env.kindOf x==Zj .cell) then .cell else k):=by
 refine Eq.trans (congrArg (λf=>(names.map f).lookup x) (funext λp => ?_)) (tW (g:=λn k=>if (k==Tp.free&&env.scope.kind == .function&&env.kindOf n==Zj .cell) then .cell else k) h)
 dsimp only
 split<;>rfl
theorem mE(x:Tq)(k:Tp)(cl:List (Tq×Tc))(C:Tc)(h:ah h_.names x=Zj k):(compEnvC h_ cl C env).kindOf x=Zj k\/(k = .free/\(compEnvC h_ cl C env).kindOf x=Zj .cell):=by
 rw[cZ]at h;have e:=l6 (env:=env) h
 have e':(compEnvC h_ cl C env).kindOf x=Zj (if (k==Tp.free&&env.scope.kind == .function&&env.kindOf x==Zj .cell) then .cell else k):=e
 rw[e']
 split
 ·rename_i hc
  refine .inr ⟨?_,rfl⟩
  simp at hc
  exact hc.1.1
 ·exact .inl rfl
theorem Fm.sub(F:Fm B env sc le ρ fr s.heap)(h1:∀ y v,ak le' y=Zj v->ak le y=Zj v)(h2:∀ y,ah sc.names y=Zj .cell->ak le' y=Zk->ak le y=Zk):Fm B env sc le' ρ fr s.heap:=
 ⟨F.kind,F.globals,F.builtins,F.kinds,F.loc,by obtain⟨m,hn,hm⟩:=F.ns;exact⟨m,hn,λx v hx hk=>hm x v (h1 x v hx) hk⟩,λx v hx hk=>F.cells x v (h1 x v hx) hk,λx hx hk=>F.empty x (h2 x hk hx) hk,F.apart,F.code⟩
theorem GM(F:Fm B env sc le ρ fr s.heap){cl:List (Tq×Tc)}(K:Rp env h_.names cl){x:Tq}(hc:ib x le h_.names=Zm)(hf:d8 sc.names le h_.names=Zm)(hk:h_.kind = .function)(hnest:dz h_=Zn)
  {C:Tc} {m:Tq->Option SX} (hC:C∈fr') (T:F_ B ρ fr s ρ' fr' s') (hn:s'.heap.Ns C m):Fm B (compEnvC h_ cl C env) h_ (f0 le x) ρ' fr' s'.heap:=by
 obtain⟨c1,c2⟩:=hS hc
 refine⟨hk,F.globals,F.builtins,λy k h=>mE y k cl C h,hC,⟨m,hn,λy v hy hky => ?_⟩,λy v hy hky => ?_,λy hy hky => ?_,λy z c hy hz=>F.apart y z c (K.sub y c hy) (K.sub z c hz),λh=>by rw[hnest]at h;cases h⟩
 ·obtain⟨n1,n2⟩:=jk _ _ _ _ hy;rcases c1 y (cr hky)with e|e
  ·exact absurd e n1
  ·rw[e]at n2;cases n2
 ·obtain⟨n1,n2⟩:=jk _ _ _ _ hy;rcases hky with hky|hky
  ·exact absurd (cr hky) (c2 y)
  ·obtain⟨hk',_⟩:=fA hf y (cr hky);obtain⟨c,o,u,hc,ho,hcl,hd,hv⟩:=F.cells y v n2 hk';obtain⟨c',hc'⟩:=K.all y (cr hky)
   have:=K.sub y c' hc'
   rw[hc]at this;cases this;obtain⟨o',e',k',d'⟩:=T.cells.cells _ _ _ ho hcl hd
   exact⟨c,o',u,hc',e',k'.trans hcl,d'.trans hd,hv.mono T.goes T.still⟩
 ·exact absurd (cr hky) (c2 y)
end
end
section
open PySem PySem.W PyProof.Rows PyProof
theorem pv(le:LE){x y:Tq}(h:y≠x):ak (f0 le x) y=ak le y:=by
 induction le with
 | nil=>rfl
 | cons p r ih=>
  obtain⟨z,u⟩:=p
  (refine b_ (lQ ..) ?_;try (with_reducible rfl))
  by_cases q:z=x
  ·subst q
   (refine b_ (aQ ..) ?_;try (with_reducible rfl))
   show ak (f0 r z) y=_
   refine b_ (ih ..) ?_;refine b_ (aG ..) ?_;exact b_ (aV (Vd h) ..) rfl
  ·(refine b_ (aV q ..) ?_;try (with_reducible rfl))
   show ak ((z,u)::f0 r x) y=_
   refine b_ (aG ..) ?_;refine b_ (aG ..) ?_;exact b_ (ih ..) rfl
theorem pc{α β:Type}{r:R α}{f:α->VS->R β}{b:β}{σ:VS}(h:r.bind f = .ok b σ):X2 λa σ'=>r = .ok a σ'/\f a σ' = .ok b σ:=by
 cases r with
 | ok a σ'=>exact⟨a,σ',rfl,h⟩
 | exc σ'=>cases h
 | no=>cases h
section
variable{α β:Type}{B:Base}{I:It}{A:TV}{ρ ρ' M_ c_ dk:e_}{fr fr' OL:List Tc}{σ σ₁:VS}{s s' s'' s₀ s₁:S9}{n:Nat}{E:SX->S9->Prop}{env:WD}{sc h_:Tz}{le le':LE}{it:Tc}
theorem Wp.ok'{r:R α}{t:Xk β}{rel:α->e_->S9->β->Prop}{a:α}{σ':VS}(W:Wp B A ρ fr s r t rel)(h:r = .ok a σ'){Q:β->S9->Prop}(k:∀ v s' ρ',SR B ρ' fr σ' s'->dR B ρ fr s ρ' s'->ρ'.x=ρ.x->rel a ρ' s' v->Q v s'):wpAny B.M A t Q E s:=by
 subst h;exact TJ W (λv s' ⟨ρ',h1,h2,h3,h4⟩=>k v s' ρ' h1 h2 h3 h4) λ_ _ h=>h.elim
theorem fD{h:Tr}{ow:Tc->Prop}:∀ {l r:List V} {us ws:List SX},k_ B ρ h ow l us->k_ B ρ h ow r ws->k_ B ρ h ow (l++r) (us++ws)
 | [],r,us,ws,a,b=>by unfold k_ at a;subst a;exact b
 | x::l,r,us,ws,a,b=>by
  unfold k_ at a;obtain⟨u,us',rfl,h1,h2⟩:=a
  show k_ B ρ h ow (x::(l++r)) (u::(us'++ws))
  unfold k_
  exact⟨u,us'++ws,rfl,h1,fD h2 b⟩
theorem lY{h:Tr}{ow:Tc->Prop}{v:V}{u:SX}(r:VR B ρ h ow v u):k_ B ρ h ow [v] [u]:=by
 unfold k_ k_
 exact⟨u,[],rfl,r,rfl⟩
theorem zB(S:SR B ρ fr σ s){i:Nat}{a:Tc}(hp:ρ.m[i]? = Zj (Zj (a,[]))\/ρ.m[i]? = Zj Zk){v:V}{u:SX}(r:VR B ρ s.heap (aj ρ fr) v u){σ':VS}(h:vC i v σ = .ok () σ'){Q:SX->S9->Prop}
  (k:∀ w s' ρ',SR B ρ' fr σ' s'->dR B ρ fr s ρ' s'->ρ'.x=ρ.x->Q w s'):wpAny B.M A (call (.builtin "list.append") [.ref a,u]) Q E s:=by
 have h:@VB (λ_=>R Unit) σ.cap .no (λm=>qz i v ⟨σ.o,σ.x,m⟩) = .ok () σ':=h
 cases hm:σ.cap with
 | zero=>rw[hm]at h;cases h
 | succ m=>
  rw[hm]at h;have h:qz i v ⟨σ.o,σ.x,m⟩ = .ok () σ':=h
  have S0:=S.poor (n:=m) (by exact Nat.le.intro (id (Eq.symm hm)))
  have Qu:=S.cap i
  have hcs:=S.Os
  rw[hm]at Qu;have at':∀ {o:O},(VS.mk σ.o σ.x m).get i=Zj o->o ≠ .dead->A3 (ρ.m[i]? = Zj (Zj (a,[]))) (OR B ρ s.heap (aj ρ fr) o (a,[])) (dL (m+1) o):=by
   intro o hg hd;obtain⟨p,hp',ro⟩:=S0.at hg hd;have ep:p=(a,[]):=by
    rcases hp with hp|hp
    ·exact Tf (Tf (hp'.symm.trans hp))
    ·exact nn (Tf (hp.symm.trans hp'))
   rw[ep]at hp' ro
   exact⟨hp',ro,Qu o (by unfold VS.get at hg;rw[bI]at hg;exact hg)⟩
  have fin:∀ {O':O} {vs:Array SX} {c:Nat},ρ.m[i]? = Zj (Zj (a,[]))->s.heap.get? a=Zj (bD "list" vs c)->vs.size<=2 ^ 20->dL m O'->
    (∀ h' ow,Still s.heap (aj ρ fr) h' ow->∀ k' ws,ws.toList=vs.toList++[u]->h'.get? a=Zj (bD "list" ws k')->OR B ρ h' ow O' (a,[]))->
    R.ok () ((VS.mk σ.o σ.x m).put i O') = .ok () σ'->wpAny B.M A (call (.builtin "list.append") [.ref a,u]) Q E s:=by
   intro O' vs c hp' ho hz hc hO e;cases e
   exact(gw (A:=A) (O':=O') (u:=u) S0 hp' ho hz hc hO).ok' rfl λw s' ρ' h1 h2 h3 _=>k w s' ρ' h1 h2 h3
  cases hg:fS ⟨σ.o,σ.x,m⟩ i with
  | some xs=>
   rw[show qz i v ⟨σ.o,σ.x,m⟩=ag (fS _ i) _ _ from rfl,hg]at h
   obtain⟨hp',⟨e,vs,c,ho,hs⟩,hcap⟩:=at' (bU hg) (λh=>by cases h)
   have Q7:xs.length+(m+1)<=2 ^ 20:=hcap
   have hsz:vs.size=xs.length:=Tt.symm.trans (bq hs)
   have h:ag (gR v) (R.ok () ((VS.mk σ.o σ.x m).put i (.p_ (fL xs++[v])))) (λx => .ok () ((VS.mk σ.o σ.x m).put i (.a_ (xs++[x])))) = .ok () σ':=h
   cases hd:gR v with
   | some x=>
    rw[hd]at h;rw[ca hd]at r;exact fin (O' := .a_ (xs++[x])) hp' ho (by lia) (by show(xs++[x]).length+m<=2 ^ 20;(refine b_ Ut ?_);show xs.length+1+m<=_;lia) (λh' ow St k' ws hws hg'=>⟨rfl,ws,k',hg',by(refine b_ hws ?_);exact rV (PRs.mono St _ _ hs) (PR.mono St _ _ r.data)⟩) h
   | none=>
    rw[hd]at h;have hal:(fL xs).length=xs.length:=(cn (gP (ρ:=ρ) hs)).symm.trans (bq hs)
    exact fin (O' := .p_ (fL xs++[v])) hp' ho (by lia) (by show(fL xs++[v]).length+m<=2 ^ 20;(refine b_ Ut ?_);show(fL xs).length+1+m<=_;lia) (λh' ow St k' ws hws hg'=>⟨rfl,ws,k',hg',by(refine b_ hws ?_);exact fD (gP (PRs.mono St _ _ hs)) (lY (VR.mono (.refl _) St _ _ r))⟩) h
  | none=>
   rw[show qz i v ⟨σ.o,σ.x,m⟩=ag (fS _ i) _ _ from rfl,hg]at h
   obtain⟨vs',hv,h⟩:=aU (show R.ok () σ'=ag (Ch ⟨σ.o,σ.x,m⟩ i) .no _ from h.symm) (λz=>by cases z)
   obtain⟨hp',⟨e,vs,c,ho,hs⟩,hcap⟩:=at' (Cw hv) (λh=>by cases h)
   have Q7:vs'.length+(m+1)<=2 ^ 20:=hcap
   have hsz:vs.size=vs'.length:=Tt.symm.trans (cn hs)
   exact fin (O' := .p_ (vs'++[v])) hp' ho (by lia) (by show(vs'++[v]).length+m<=2 ^ 20;(refine b_ Ut ?_);show vs'.length+1+m<=_;lia) (λh' ow St k' ws hws hg'=>⟨rfl,ws,k',hg',by(refine b_ hws ?_);exact fD (k_.mono (.refl _) St _ _ hs) (lY (VR.mono (.refl _) St _ _ r))⟩) h.symm
structure J_ (B:Base) (env:WD) (h_:Tz) (cl:List (Tq×Tc)) (C:Tc) (fr:List Tc) (x:Tq) (le:LE) (i a:Nat) (dk:e_) (s₁:S9) (ρ:e_) (σ:VS) (s:S9):Prop where
 S:SR B ρ (C::fr) σ s
 X:F_ B dk fr s₁ ρ (C::fr) s
 x':ρ.x=dk.x
 F:Fm B (compEnvC h_ cl C env) h_ (f0 le x) ρ (C::fr) s.heap
 acc:ρ.m[i]? = Zj (Zj (a,[]))\/ρ.m[i]? = Zj Zk
theorem lj{i a:Nat}(h:ρ.m[i]? = Zj (Zj (a,[]))\/ρ.m[i]? = Zj Zk)(G:v_ ρ ρ'):ρ'.m[i]? = Zj (Zj (a,[]))\/ρ'.m[i]? = Zj Zk:=by
 rcases h with h|h
 ·exact G.m _ _ h
 ·rcases G.m _ _ h with z|z<;>exact .inr z
theorem nd(H:Sound B I n){cl:List (Tq×Tc)}{C i a:Tc}{x:Tq}{px:Vw}{elt:Expr}{ifs:List Expr}{v:V}{u:SX}{k:VS->R Unit}{ON:VS}(hkx:ah h_.names x=Zj .local)(hnc:∀ y,ah h_.names y≠Zj .cell)
  (K:J_ B env h_ cl C fr x le i a dk s₁ ρ σ s) (hC:s₁.heap.get? C=Zk) (C':AC A ρ (C::fr) n) (N':En A (compEnvC h_ cl C env) h_ ρ (C::fr)) (ru:VR B ρ s.heap (aj ρ (C::fr)) v u)
  (hr:fc (jz I ifs h_ (aR le x v) σ) k (λs=>I.ev elt h_ (aR le x v) s) ρ.m.length i = .ok () ON) {Inv:S9->Prop}
  (next:∀ ρ' σ' s',J_ B env h_ cl C fr x le i a dk s₁ ρ' σ' s'->Step B ρ (C::fr) s ρ' s'->k σ' = .ok () ON->Inv s') {E₁ E₂ E₃ Q8:SX->S9->Prop} :
  wpAny B.M A (PySem.assign (.Name x px) (compEnvC h_ cl C env) u) (λ_ s₂=>
   wpAny B.M A (forIn ifs Zm λc r=>if r=Zm then do let ok <- isTrue c (compEnvC h_ cl C env) (eval c (compEnvC h_ cl C env));pure (Vv ok) else pure (Vv r)) (λok s₃=>
    if ok=Zm then wpAny B.M A (eval elt (compEnvC h_ cl C env)) (λy s₄=>
     wpAny B.M A (call (.builtin "list.append") [.ref a,y]) (λ_ s₅=>Inv s₅) Q8 s₄) E₃ s₃
    else Inv s₃) E₂ s₂) E₁ s:=by
 refine b_ (Yu ..) ?_
 refine S8 (Um (Xo (dJ K.S K.F hkx ru (N'.apart _ K.F.loc) λs₂ S₂ T₂ F₂ k₂ => ?_)))
 have P4:Fm B (compEnvC h_ cl C env) h_ (aR le x v) ρ (C::fr) s₂.heap:=by
  refine F₂.sub (λy w h => ?_) λy hk h=>absurd hk (hnc y)
  ·rw[dU]at h ⊢
   by_cases e:y=x
   ·rw[if_pos e]at h ⊢;exact h
   ·rw[if_neg e]at h ⊢;(refine b_ (pv _ e) ?_);exact h
 have O_:F_ B dk fr s₁ ρ (C::fr) s₂:=K.X.own (W:=λb=>b=C) (λb hb=>hb▸hC) λb o hb e=>k₂ b o hb e
 have back:∀ {Qg:e_} {sb:S9},Fm B (compEnvC h_ cl C env) h_ (aR le x v) Qg (C::fr) sb.heap->Fm B (compEnvC h_ cl C env) h_ (f0 le x) Qg (C::fr) sb.heap:=λF=>F.sub (λy w h=>by
  obtain⟨n1,n2⟩:=jk _ _ _ _ h
  (refine b_ (dU ..) ?_;refine b_ (if_neg n1 ..) ?_);exact n2) λy hk h=>absurd hk (hnc y)
 have after:∀ {Qg:e_} {QG:VS} {sb:S9} {b:Bool},SR B Qg (C::fr) QG sb->dR B ρ (C::fr) s₂ Qg sb->Qg.x=ρ.x->
   ac b ((I.ev elt h_ (aR le x v) QG).bind λw s=>(cz ρ.m.length w s).bind λw s=>(vC i w s).bind λ_ s=>k s) (k QG) = .ok () ON->
   (if b=Zm then wpAny B.M A (eval elt (compEnvC h_ cl C env)) (λy s₄=>wpAny B.M A (call (.builtin "list.append") [.ref a,y]) (λ_ s₅=>Inv s₅) Q8 s₄) E₃ sb else Inv sb):=by
  intro Qg QG sb b Sb Tb xb hb;have Fb:=P4.step Tb
  have Xb:F_ B dk fr s₁ Qg (C::fr) sb:=O_.trans Tb.toF λb hb=>T8 _ hb
  cases b with
  | false=>
   refine b_ (if_neg (by decide)) ?_
   exact next Qg QG sb ⟨Sb,Xb,xb.trans K.x',back Fb,lj K.acc Tb.goes⟩ (T₂.trans Tb.toStep) hb
  | true=>
   refine b_ (if_pos rfl) ?_
   obtain⟨w,σ3,hw,OV⟩:=pc (show(I.ev elt h_ (aR le x v) QG).bind _ = .ok () ON from hb)
   refine(H.ev elt (C'.to Tb xb) (N'.to Tb) Sb Fb).ok' hw λy s3 Q9 S3 T3 x3 r3 => ?_
   obtain⟨v4,Sf,ρ4,h4,S4,T4,x4,r4⟩:=mx S3 (Tb.trans T3) rfl r3;rw[h4]at OV;obtain⟨_,Sg,h5,Sj⟩:=pc (show(vC i v4 Sf).bind _ = .ok () ON from OV)
   refine zB S4 (lj K.acc T4.goes) r4 h5 λ_ s5 Sk S5 T5 x5 => ?_
   have T6:=T4.trans T5
   exact next Sk Sg s5 ⟨S5,O_.trans T6.toF λb hb=>T8 _ hb,x5.trans (x4.trans (x3.trans (xb.trans K.x'))),back (P4.step T6),lj K.acc T6.goes⟩ (T₂.trans T6.toStep) Sj
 obtain⟨b,QG,hb,hr2⟩:=pc hr;cases ifs with
 | nil=>
  cases hb;exact wpAny_tests_nil (after S₂ (.refl ..) rfl hr2)
 | cons c cs=>
  cases cs with
  | cons _ _=>cases hb
  | nil=>
   refine wpAny_tests_one ((H.te c C' N' S₂ P4).ok' hb λy s3 Q9 S3 T3 x3 r3 => ?_)
   have:y=b:=r3
   subst this;exact after S3 T3 x3 hr2
end
end
section
open PySem PySem.W PyProof.Rows PyProof
section
variable{α β:Type}{B:Base}{I:It}{A:TV}{ρ ρ' M_ c_ dk:e_}{fr fr' OL:List Tc}{σ σ₁:VS}{s s' s'' s₀ s₁:S9}{n:Nat}{E:SX->S9->Prop}{env:WD}{sc h_:Tz}{le le':LE}{it:Tc}
theorem J_.iter{cl:List (Tq×Tc)}{C i a:Tc}{x:Tq}(K:J_ B env h_ cl C fr x le i a dk s₁ ρ σ s)(T:B_ it s s')(h0:B.h₀.get? it=Zk)(h1:s₁.heap.get? it=Zk):J_ B env h_ cl C fr x le i a dk s₁ ρ σ s':=
 ⟨K.S.iter T h0,K.X.own (W:=λb=>b=it) (λb hb=>hb▸h1) λb o hb e=>T.keep b o hb e,K.x',K.F.iter K.S T,K.acc⟩
def BE(B:Base)(env:WD)(h_:Tz)(cl:List (Tq×Tc))(C:Tc)(fr:List Tc)(x:Tq)(le:LE)(i a:Nat)(dk:e_)(s₁:S9)(ON:VS)(r:Result)(s':S9):Prop:=match r with
 | .ok _=>∃ ρ',J_ B env h_ cl C fr x le i a dk s₁ ρ' ON s'
 | .error _=>False
theorem lu{elt:Expr}{x:Tq}{ifs:List Expr}{i:Nat}(v:V)(l:List V):aZ I elt x ifs h_ le i (v::l) σ=fc (jz I ifs h_ (aR le x v) σ) (aZ I elt x ifs h_ le i l) (λs=>I.ev elt h_ (aR le x v) s) (len σ.o) i:=rfl
theorem ud(H:Sound B I n){cl:List (Tq×Tc)}{C i a:Tc}{x:Tq}{px pos:Vw}{elt iter:Expr}{ifs:List Expr}{ON:VS}(hkx:ah h_.names x=Zj .local)(hnc:∀ y,ah h_.names y≠Zj .cell)
  (hC:s₁.heap.get? C=Zk) (h0:B.h₀.get? it=Zk) (h1:s₁.heap.get? it=Zk) (hx:dk.x=Zk) (C':AC A dk (C::fr) n) (N':En A (compEnvC h_ cl C env) h_ dk (C::fr)) {l:List V}
  (K:J_ B env h_ cl C fr x le i a dk s₁ ρ σ s) (hl:OJ B ρ (C::fr) s.heap it l 0) (hr:aZ I elt x ifs h_ le i l σ = .ok () ON) :
  codeAny B.M A (.compLoop (.ListComp elt [⟨.Name x px,iter,ifs,0⟩] h_ pos) 0 (.ref it) (.ref a) (compEnvC h_ cl C env)) (BE B env h_ cl C fr x le i a dk s₁ ON) s:=by
 refine codeAny_compLoop_tests (λm s'=>X3 λk ρ' σ'=>A5 (J_ B env h_ cl C fr x le i a dk s₁ ρ' σ' s') (OJ B ρ' (C::fr) s'.heap it l k) (aZ I elt x ifs h_ le i (l.drop k) σ' = .ok () ON) (k<=l.length) (m=l.length+1 - k)) ?_ (l.length+1)
  ⟨0,ρ,σ,K,hl,hr,U4 _,rfl⟩
 rintro m s' ⟨k,ρ',σ',K',hl',hr',hk,rfl⟩
 have CC:AC A ρ' (C::fr) n:=C'.step K'.X.fs K'.x'
 have NN:En A (compEnvC h_ cl C env) h_ ρ' (C::fr):=N'.step K'.X.fs
 cases hv:l[k]? with
 | none=>
  have hd:l.drop k=[]:=List.drop_eq_nil_of_le (Uu.mp hv)
  rw[hd]at hr';cases hr';exact jZ K'.S CC (K'.x'.trans hx) hl' hv λs₂ T₂=>⟨ρ',K'.iter T₂ h0 h1⟩
 | some v=>
  have hkl:k < l.length:=(TF.mp hv).1
  have hd:l.drop k=v::l.drop (k+1):=by
   (refine b_ (List.drop_eq_getElem_cons hkl ..) ?_;try (with_reducible rfl))
   have:=(TF.mp hv).2
   exact b_ this rfl
  rw[hd,lu,aJ,<- K'.S.len]at hr';refine iM K'.S hl' hv λs₂ u T₂ ru hl₂ => ?_
  exact nd H hkx hnc (K'.iter T₂ h0 h1) hC CC NN ru hr' λQ9 σ3 s3 K3 T3 OV=>⟨_,v8 hkl,k+1,Q9,σ3,K3,hl₂.step T3,OV,by exact Nat.succ_le_of_lt hkl,rfl⟩
theorem ri{elt:Expr}{x:Tq}{ifs:List Expr}{i j m k:Nat}:g9 I elt x ifs h_ le i j (m+1) k σ=ag (fS σ j) .no λxs=>ag (f9 xs k) (.ok () σ) λy=>fc (jz I ifs h_ (aR le x (.d y)) σ) (g9 I elt x ifs h_ le i j m (k+1)) (λs=>I.ev elt h_ (aR le x (.d y)) s) (len σ.o) i:=rfl
theorem yy(H:Sound B I n){cl:List (Tq×Tc)}{C a:Tc}{i j m:Nat}{p:Tc×List Tc}{x:Tq}{px pos:Vw}{elt iter:Expr}{ifs:List Expr}{ON:VS}(hkx:ah h_.names x=Zj .local)(hnc:∀ y,ah h_.names y≠Zj .cell)
  (hC:s₁.heap.get? C=Zk) (h0:B.h₀.get? it=Zk) (h1:s₁.heap.get? it=Zk) (hx:dk.x=Zk) (C':AC A dk (C::fr) n) (N':En A (compEnvC h_ cl C env) h_ dk (C::fr))
  (K:J_ B env h_ cl C fr x le i a dk s₁ ρ σ s) (hp:ρ.m[j]? = Zj (Zj p)) (hl:s.heap.IsListIter it p.1 0) (hr:g9 I elt x ifs h_ le i j m 0 σ = .ok () ON) :
  codeAny B.M A (.compLoop (.ListComp elt [⟨.Name x px,iter,ifs,0⟩] h_ pos) 0 (.ref it) (.ref a) (compEnvC h_ cl C env)) (BE B env h_ cl C fr x le i a dk s₁ ON) s:=by
 refine codeAny_compLoop_tests (λm s'=>X3 λk ρ' σ'=>A4 (J_ B env h_ cl C fr x le i a dk s₁ ρ' σ' s') (s'.heap.IsListIter it p.1 k) (g9 I elt x ifs h_ le i j m k σ' = .ok () ON) ((ρ'.m[j]? = Zj (Zj p)\/ρ'.m[j]? = Zj Zk))) ?_ m
  ⟨0,ρ,σ,K,hl,hr,.inl hp⟩
 rintro m s' ⟨k,ρ',σ',K',hl',hr',hp'⟩
 have CC:AC A ρ' (C::fr) n:=C'.step K'.X.fs K'.x'
 cases m with
 | zero=>cases hr'
 | succ m=>
  rw[ri]at hr';obtain⟨xs,hg,hr'⟩:=aU hr'.symm (λz=>by cases z)
  ·have hr':=hr'.symm
   have L:=wD K'.S (bU hg) hp'
   rw[bI]at hr';cases hv:xs[k]? with
   | none=>
    rw[hv]at hr';cases hr';exact qt K'.S CC (K'.x'.trans hx) L hl' hv λs₂ T₂=>⟨ρ',K'.iter T₂ h0 h1⟩
   | some v=>
    rw[hv]at hr';have hr2:fc (jz I ifs h_ (aR le x (.d v)) σ') (g9 I elt x ifs h_ le i j m (k+1)) (λs=>I.ev elt h_ (aR le x (.d v)) s) (len σ'.o) i = .ok () ON:=hr'
    rw[aJ,<- K'.S.len]at hr2;refine n7 K'.S L hl' hv λs₂ u T₂ ru hl₂ => ?_
    exact nd H hkx hnc (K'.iter T₂ h0 h1) hC CC (N'.step K'.X.fs:En A (compEnvC h_ cl C env) h_ ρ' (C::fr)) ru hr2 λQ9 σ3 s3 K3 T3 OV=>⟨m,Nat.lt_succ_self m,k+1,Q9,σ3,K3,nF hl₂ T3,OV,T3.goes.m _ _ L.at'⟩
end
end
section
open PySem PySem.W PyProof.Rows PyProof
section
variable{α β:Type}{B:Base}{I:It}{A:TV}{ρ ρ' M_ c_ dk:e_}{fr fr' OL:List Tc}{σ σ₁:VS}{s s' s'' s₀ s₁:S9}{n:Nat}{E:SX->S9->Prop}{env:WD}{sc h_:Tz}{le le':LE}{it:Tc}
theorem AA{l:List V}{k:Nat}(h:OJ B ρ fr s.heap it l k){Q:SX->S9->Prop}(q:Q (.ref it) s):wpAny B.M A (pyIter (.ref it)) Q E s:=by
 rcases h with ⟨a,us,n,hi,_⟩|⟨a,us,n,⟨o,ho,hc,hd⟩,_⟩|⟨n,hi,_⟩
 ·exact wpAny_pyIter_listiter hi q
 ·exact wpAny_pyIter_tupleiter ⟨o,ho,hc,hd⟩ q
 ·exact wpAny_pyIter_rangeiter hi q
theorem xy{gs:List Vh}{x:Tq}{ie:Expr}{ifs:List Expr}(h:pj gs=Zj (x,ie,ifs)):∃ px,gs=[⟨.Name x px,ie,ifs,0⟩]:=by
 obtain⟨⟨t,it,fs,as⟩,hg,h⟩:=aD h;obtain⟨y,hy,h⟩:=aD h;obtain⟨hi,h⟩:=cQ h;cases h
 exact⟨y.2,by(refine b_ (dC hg) ?_;refine b_ (Vq ((bA as 0).symm.trans hi):as=0) ?_;exact b_ ((fK t).of hy) rfl)⟩
theorem CK{k:ScopeKind}(h:Jj k=Zm):k = .function:=by cases k<;>first|rfl|cases h
theorem zh{b x:Bool}(h:ac b Zn x=Zm):b=Zn/\x=Zm:=by
 cases b
 ·exact⟨rfl,h⟩
 ·exact Ti h
theorem eK{sc:Tz}(h:dm sc=Zm):sc.kind = .function/\sc.isGenerator=Zn/\sc.isCoroutine=Zn/\bF sc.names=Zm:=by
 obtain⟨h1,h⟩:=jM h;obtain⟨h2,h⟩:=zh h;obtain⟨h3,h⟩:=zh h
 exact⟨CK h1,h2,h3,h⟩
theorem xt{i:Nat}{p:Tc×List Tc}(h:ρ.m[i]? = Zj (Zj p))(G:v_ ρ ρ'):ρ'.m[i]? = Zj (Zj p)\/ρ'.m[i]? = Zj Zk:=G.m _ _ h
theorem fO{sc:Tz}(h:cI sc=Zm):dz sc=Zn/\dm sc=Zm:=zh h
theorem hZ{sc:Tz}(h:cI sc=Zm):sc.kind = .function/\sc.isGenerator=Zn/\sc.isCoroutine=Zn/\bF sc.names=Zm:=eK (fO h).2
def Bo(B:Base)(A:TV)(E:SX->S9->Prop)(env:WD)(h_:Tz)(cl:List (Tq×Tc))(e:Expr)(use:Option (SX->Xk Unit))(Q:SX->S9->Prop)(it:SX)(s:S9):Prop:=
 wpAny B.M A (newList []) (λacc s₃=>wpAny B.M A (newFunctionEnv h_ env.globals cl [] env.qual Zk .none (Zj env)) (λcenv s₄=>
   codeAny B.M A (.compStart e 0 it acc { cenv with scope:=relabel h_ env }) (compPost B.M A E use Q acc cenv.locals) s₄) E s₃) E s
theorem AC.cons(h:AC A ρ fr n)(C:Tc):AC A ρ (C::fr) n:=by
 refine⟨?_,h.depth,h.units,h.guards,h.handled⟩
 obtain⟨l,h1,h2⟩:=h.frames
 refine⟨l,h1,λe he => ?_⟩
 obtain⟨k,L,h3,h4⟩:=h2 e he
 exact⟨k,L,h3,h4.imp_left (.tail _)⟩
theorem En.comp{cl:List (Tq×Tc)}{C:Tc}(N:En A env sc ρ fr)(ok:bF h_.names=Zm)(hC:C∉ρ.fs):En A (compEnvC h_ cl C env) h_ ρ (C::fr):=by
 refine⟨ok,λb hb=>(Ub.mp hb).elim (λe=>e▸hC) (N.apart b),?_⟩
 obtain⟨e,l,L,h1,h2,h3,h4⟩:=N.head
 exact⟨e,l,L,h1,h2,h3,.tail _ h4⟩
theorem SR.off(S:SR B ρ fr σ s){C:Tc}(h:s.heap.get? C=Zk):C∉fr/\C∉ρ.fs:=by
 refine⟨λq => ?_,λq => ?_⟩
 ·obtain⟨_,o,h',_⟩:=S.frB _ (.inl q);rw[h]at h';cases h'
 ·obtain⟨_,o,h',_⟩:=S.frB _ (.inr q);rw[h]at h';cases h'
theorem Ho(S:SR B ρ fr ⟨σ.o++[.a_ []],σ.x,σ.cap⟩ s){a:Tc}(r:VR B ρ s.heap (aj ρ fr) (.ref (len σ.o)) (.ref a)):ρ.m[len σ.o]? = Zj (Zj (a,[])):=by
 obtain⟨p,hp,e,_⟩:=S.at (i:=len σ.o) (o := .a_ []) (by unfold VS.get;rw[bI,aJ,List.getElem?_concat_length]) (λh=>by cases h)
 rw[hp];obtain⟨p1,p2⟩:=p;cases aH hp r;exact congrArg (λl=>Zj (Zj (p1,l))) e
theorem D6(S₁:SR B dk fr σ₁ s₁)(F₁:Fm B env sc le dk fr s₁.heap)(S:SR B ρ fr σ s)(T:dR B dk fr s₁ ρ s)(hx:ρ.x=dk.x){i a C:Tc}{h':Tr}{cl:List (Tq×Tc)}{x:Tq}{m:Tq->Option SX}(hacc:ρ.m[i]? = Zj (Zj (a,[])))(hC:s.heap.get? C=Zk)
  (hc:ib x le h_.names=Zm) (hf:d8 sc.names le h_.names=Zm) (hcl:Rp env h_.names cl) (hk:h_.kind = .function) (hnest:dz h_=Zn)
  (hns:h'.Ns C m) (keep:∀ b o,s.heap.get? b=Zj o->h'.get? b=Zj o):J_ B env h_ cl C fr x le i a dk s₁ ρ σ { s with heap:=h' }/\F_ B ρ fr s ρ (C::fr) { s with heap:=h' }:=by
 obtain⟨S',T'⟩:=S.P3 (s':={ s with heap:=h' }) (C::fr) (λb hb => .tail _ hb) keep rfl rfl λb hb=>by
  rcases Ub.mp hb with rfl|hb
  ·obtain⟨o,es,_,h,hd,_⟩:=hns;exact .inr ⟨hC,o,h,λvs z=>by rw[hd]at z;cases z⟩
  ·exact .inl hb
 have X:=T.toF.trans T' λb hb=>hb
 exact⟨⟨S',X,hx,GM F₁ hcl hc hf hk hnest (.head _) X hns,.inl hacc⟩,T'⟩
def I9(B:Base)(A:TV)(env:WD)(h_:Tz)(cl:List (Tq×Tc))(e:Expr)(x:Tq)(le:LE)(n:Nat)(fr:List Tc)(dk:e_)(σ₁:VS)(s₁:S9)(ON:VS)(ho:V3):Prop:=
 ∀ (C a:Tc) (ρ:e_) (s:S9),s₁.heap.get? C=Zk->AC A dk (C::fr) n->En A (compEnvC h_ cl C env) h_ dk (C::fr)->v_ dk ρ->Still (s₁.heap.push ho) (aj dk fr) s.heap (aj ρ (C::fr))->(∀ b o,(s₁.heap.push ho).get? b=Zj o->s.heap.get? b=Zj o)->
  J_ B env h_ cl C fr x le (len σ₁.o) a dk s₁ ρ ⟨σ₁.o++[.a_ []],σ₁.x,σ₁.cap⟩ s->
  codeAny B.M A (.compLoop e 0 (.ref s₁.heap.objs.size) (.ref a) (compEnvC h_ cl C env)) (BE B env h_ cl C fr x le (len σ₁.o) a dk s₁ ON) s /\
  ∀ (Q':SX->S9->Prop) (E':SX->S9->Prop),Q' (.ref s₁.heap.objs.size) s->wpAny B.M A (pyIter (.ref s₁.heap.objs.size)) Q' E' s
theorem Cp(S₁:SR B dk fr σ₁ s₁){i:Nat}{u:SX}(ru:VR B dk s₁.heap (aj dk fr) (.ref i) u){o q:O}(hg:(VS.mk (σ₁.o++[q]) σ₁.x σ₁.cap).get i=Zj o):σ₁.get i=Zj o:=by
 unfold VR at ru;have hlt:i < σ₁.o.length:=by
  rw[<- S₁.len];rcases ru with ⟨p,hp,_⟩|⟨hp,_⟩
  ·exact(TF.mp hp).1
  ·exact(TF.mp hp).1
 unfold VS.get at hg ⊢;rw[bI]at hg ⊢
 rwa [Vt hlt]at hg
section
variable(C₁:AC A dk fr n)(N₁:En A env sc dk fr)(S₁:SR B dk fr σ₁ s₁)(F₁:Fm B env sc le dk fr s₁.heap)
  {cl:List (Tq×Tc)} {x:Tq} {px pos:Vw} {elt iter:Expr} {ifs:List Expr} {ON:VS} (ho:cI h_=Zm) (hc:ib x le h_.names=Zm) (hf:d8 sc.names le h_.names=Zm) (hcl:Rp env h_.names cl)
  {use:Option (SX->Xk Unit)} {Q:SX->S9->Prop} (post:∀ C a ρ' s' r,C∉fr->C∉dk.fs->J_ B env h_ cl C fr x le (len σ₁.o) a dk s₁ ρ' ON s'->compPost B.M A E use Q (.ref a) C (.ok r) s')
include C₁ N₁ S₁ F₁ ho hc hf hcl post
theorem nZ{O:V3}(L:I9 B A env h_ cl (.ListComp elt [⟨.Name x px,iter,ifs,0⟩] h_ pos) x le n fr dk σ₁ s₁ ON O) :
  Bo B A E env h_ cl (.ListComp elt [⟨.Name x px,iter,ifs,0⟩] h_ pos) use Q (.ref s₁.heap.objs.size) { s₁ with heap:=s₁.heap.push O }:=by
 obtain⟨o1,o2,o3,o4⟩:=hZ ho;have ⟨c1,c2⟩:=hS hc
 obtain⟨S₂,T₂⟩:=S₁.grow (s':={ s₁ with heap:=s₁.heap.push O }) (λb o e=>Tj _ e) rfl rfl
 refine WY ?_
 obtain⟨Pe,H_,z_,x₃,r₃⟩:=gk (us:=#[]) (tk:=s₁.toks) (O' := .a_ []) S₂ (Te (VN (XR _)) (Te S₁.Os (by decide))) λρ' h' y_ p G st hp hg=>⟨by rw[hp],#[],0,hg,by unfold PRs;rfl⟩
 refine wpAny_newFunctionEnv (λy hy=>λe=>c2 y.1 (by rw[<- e];exact hy)) (λy hy=>absurd hy Vn) (λh₄ hns hsb => ?_) o1
 have keep:∀ b o,((s₁.heap.push O).push { cls := .type "list",data := .seq #[] }).get? b=Zj o->h₄.get? b=Zj o:=λb o e=>(hsb.2 b (λz=>by rw[z]at e;exact absurd (Vr e) (YD _))).trans (Tj _ e)
 have QT:s₁.heap.get? ((s₁.heap.push O).push { cls := .type "list",data := .seq #[] }).objs.size=Zk:=U6 (by rw[V2,V2];exact TX _ 2)
 obtain⟨K,O0⟩:=D6 S₁ F₁ H_ (T₂.trans z_) x₃ (Ho H_ r₃) (bn _) hc hf hcl o1 (fO ho).1 hns keep;obtain⟨hCf,Qv⟩:=S₁.off QT;obtain⟨loop,self⟩:=L _ _ _ _ QT (C₁.cons _) (N₁.comp o4 Qv) (z_.goes.trans O0.goes) (z_.still.trans O0.still) (λb o e=>keep b o (Tj _ e)) K
 have Qw:=codeAny_mono (R':=compPost B.M A E use Q (.ref (s₁.heap.push O).objs.size) _) loop λr s' hr=>by
  cases r with
  | ok f=>obtain⟨ρ',K'⟩:=hr;exact post _ _ ρ' s' f hCf Qv K'
  | error e=>exact hr.elim
 exact codeAny_compStart_list Qw (self _ _ Qw)
theorem yp(H:Sound B I n)(hx₁:dk.x=Zk){v:V}{u:SX}(ru:VR B dk s₁.heap (aj dk fr) v u)(hkx:ah h_.names x=Zj .local)
  (hr:tx I elt x ifs h_ le (len σ₁.o) v ⟨σ₁.o++[.a_ []],σ₁.x,σ₁.cap⟩ = .ok () ON) :
  wpAny B.M A (pyIter u) (Bo B A E env h_ cl (.ListComp elt [⟨.Name x px,iter,ifs,0⟩] h_ pos) use Q) E s₁:=by
 have hnc:∀ y,ah h_.names y≠Zj .cell:=λy h=>(hS hc).2 y (cr h)
 have fresh0:B.h₀.get? s₁.heap.objs.size=Zk:=S₁.fresh0 (bn _)
 have st:∀ {l:List V},O8 B dk fr s₁ u l->aZ I elt x ifs h_ le (len σ₁.o) l ⟨σ₁.o++[.a_ []],σ₁.x,σ₁.cap⟩ = .ok () ON->wpAny B.M A (pyIter u) (Bo B A E env h_ cl (.ListComp elt [⟨.Name x px,iter,ifs,0⟩] h_ pos) use Q) E s₁:=λ⟨O,hq,hI⟩ e=>hq _ _ _ (nZ C₁ N₁ S₁ F₁ ho hc hf hcl post λC a PS s₄ QT CC NN G St Pp K=>
  have hI':=hI.mono G St λo e=>Pp _ o e
  ⟨ud H hkx hnc QT fresh0 (bn _) hx₁ CC NN K hI' e,λQ' E' q=>AA hI' q⟩)
 cases v with
 | ref i=>
  obtain⟨xs,hg,_⟩:=aU (show R.ok () ON=ag (fS _ i) .no _ from hr.symm) (λz=>by cases z)
  have hg:=bU hg
  have hg1:=Cp S₁ ru hg
  obtain⟨p,hp,ee,vs,c,ho',hs⟩:=S₁.at hg1 (λh=>by cases h)
  rw[aH hp ru];refine wpAny_pyIter_list ⟨_,ho',rfl,_,rfl⟩ (nZ C₁ N₁ S₁ F₁ ho hc hf hcl post λC a PS s₄ QT CC NN G St Pp K => ?_)
  have hit:s₄.heap.IsListIter s₁.heap.objs.size p.1 0:=⟨_,Pp _ _ (Uw _ rfl),rfl,rfl⟩
  rcases xt hp G with hp2|hp2
  ·exact⟨yy H hkx hnc QT fresh0 (bn _) hx₁ CC NN K hp2 hit (show g9 I elt x ifs h_ le (len σ₁.o) i 1000 0 _=_ from hr),λQ' E' q=>wpAny_pyIter_listiter hit q⟩
  ·have h:=K.S.gone i hp2
   unfold VS.get at hg;rw[bI,h]at hg;cases hg
 | rng k=>exact st (rI ru) hr
 | d y=>
  obtain⟨xs,hx,e⟩:=aU (show R.ok () ON=ag (yz y) .no _ from hr.symm) (λz=>by cases z)
  exact st (rd S₁ hx (VR.data ru)) e.symm
 | _=>cases hr
end
end
end
section
open PySem PySem.W PyProof.Rows PyProof
section
variable{α β:Type}{B:Base}{I:It}{A:TV}{ρ ρ' M_ c_ dk:e_}{fr fr' OL:List Tc}{σ σ₁:VS}{s s' s'' s₀ s₁:S9}{n:Nat}{E:SX->S9->Prop}{env:WD}{sc h_:Tz}{le le':LE}{it:Tc}{qk:Bool}
structure Pf (B:Base) (ρ:e_) (fr:List Tc) (s:S9) (ρ':e_) (fr':List Tc) (s':S9):Prop where
 goes:v_ ρ ρ'
 still:Still s.heap (aj ρ fr) s'.heap (aj ρ' fr')
 cells:Cells s.heap s'.heap
 fs:ρ'.fs=ρ.fs
 Pl:∀ b∈ρ.fs,∀ o,s.heap.get? b=Zj o->∃ sl,s'.heap.get? b=Zj { o with slots:=sl }
theorem F_.toW(x:F_ B ρ fr s ρ' fr' s'):Pf B ρ fr s ρ' fr' s':=⟨x.goes,x.still,x.cells,x.fs,x.Pl⟩
theorem Pf.trans(x:Pf B ρ fr s ρ' fr' s')(y:Step B ρ' fr' s' M_ s''):Pf B ρ fr s M_ fr' s'':=
 ⟨x.goes.trans y.goes,x.still.trans y.still,x.cells.trans y.cells,y.fs.trans x.fs,λb hb o e=>by obtain⟨_,e'⟩:=x.Pl b hb o e;exact by obtain⟨sl,e''⟩:=y.Pl b (x.fs▸hb) _ e';exact⟨sl,e''⟩⟩
theorem Pf.drop{C:Tc}(X:Pf B c_ fr s₀ ρ (C::fr) s)(S:SR B ρ (C::fr) σ s)(hk:∀ b o,b≠C->s.heap.get? b=Zj o->s'.heap.get? b=Zj o)(h4:C∉ρ.fs)
  (hC:∀ o v,s.heap.get? C=Zj o->o.data ≠ .cell v) (still:Still s.heap (aj ρ (C::fr)) s'.heap (aj ρ fr)):Step B c_ fr s₀ ρ s':=by
 obtain⟨_,oc,hoc,hcd⟩:=S.frB C (.inl Uo)
 refine⟨X.goes,X.still.trans still,X.cells.trans (⟨⟨λb o v e c d=>⟨o,hk b o (λz=>hC o _ (z▸e) d) e,rfl,rfl⟩⟩,λb o ts e c d=>hk b o (λz=>by rw[z,hoc]at e;cases e;exact hcd _ d) e⟩:Cells s.heap s'.heap),X.fs,λb hb o e => ?_⟩
 obtain⟨sl,h⟩:=X.Pl b hb o e
 exact⟨sl,hk b _ (λz=>h4 (by(refine A' z ?_;refine b_ X.fs ?_);exact hb)) h⟩
theorem Fm.Q_(F:Fm B env sc le ρ fr s.heap)(T:F_ B ρ fr s ρ' fr' s')(h:∀ b∈fr,b∈fr'):Fm B env sc le ρ' fr' s'.heap:=by
 refine⟨F.kind,F.globals,F.builtins,F.kinds,h _ F.loc,?_,λx v hx hk => ?_,λx hx hk => ?_,F.apart,F.code⟩
 ·obtain⟨m,hn,hm⟩:=F.ns
  refine⟨m,q8 hn (T.OY _ F.loc),λx v hx hk => ?_⟩
  obtain⟨u,hu,hv⟩:=hm x v hx hk
  exact⟨u,hu,hv.mono T.goes T.still⟩
 ·obtain⟨c,o,u,hc,ho,hcl,hd,hv⟩:=F.cells x v hx hk;obtain⟨o',e',k',d'⟩:=T.cells.cells _ _ _ ho hcl hd
  exact⟨c,o',u,hc,e',k'.trans hcl,d'.trans hd,hv.mono T.goes T.still⟩
 ·obtain⟨c,o,hc,ho,hcl,hd,hf,hne⟩:=F.empty x hx hk;obtain⟨sl,hs⟩:=T.OY c hf o ho
  exact⟨c,_,hc,hs,hcl,hd,h _ hf,hne⟩
theorem Fm.drop{C:Tc}(F:Fm B env sc le ρ (C::fr) s.heap)(hl:env.locals∈fr)(he:∀ x c,ak le x=Zk->ah sc.names x=Zj .cell->env.cells.lookup x=Zj c->c∈fr)(hC:C∉fr)(hk:∀ b o,b≠C->s.heap.get? b=Zj o->s'.heap.get? b=Zj o)
  (Ra:∀ o v,s.heap.get? C=Zj o->o.data ≠ .cell v) (still:Still s.heap (aj ρ (C::fr)) s'.heap (aj ρ fr)):Fm B env sc le ρ fr s'.heap:=by
 refine⟨F.kind,F.globals,F.builtins,F.kinds,hl,?_,λx v hx hk' => ?_,λx hx hk' => ?_,F.apart,F.code⟩
 ·obtain⟨m,hn,hm⟩:=F.ns
  refine⟨m,hn.at λo e=>hk _ o (λz=>hC (z▸hl)) e,λx v hx hk' => ?_⟩
  obtain⟨u,hu,hv⟩:=hm x v hx hk'
  exact⟨u,hu,hv.mono (.refl _) still⟩
 ·obtain⟨c,o,u,hc,ho,hcl,hd,hv⟩:=F.cells x v hx hk'
  exact⟨c,o,u,hc,hk _ o (λz=>Ra o _ (z▸ho) hd) ho,hcl,hd,hv.mono (.refl _) still⟩
 ·obtain⟨c,o,hc,ho,hcl,hd,hf,hne⟩:=F.empty x hx hk';have hcf:=he x c hx hk' hc
  exact⟨c,o,hc,hk _ o (λz=>hC (z▸hcf)) ho,hcl,hd,hcf,hne⟩
theorem yQ{α:Type}{r:R α}{k:α->VS->R V}{res:R V}(h:res=vA r k)(hn:res ≠ .no):X2 λa σ'=>r = .ok a σ'/\res=k a σ':=by
 cases r with
 | ok a σ'=>exact⟨a,σ',rfl,h⟩
 | exc σ'=>exact absurd h hn
 | no=>exact absurd h hn
theorem ty(ho:cI h_=Zm):h_.kind = .function/\∀ y∈h_.names,y.2 = .local->h_.names.lookup y.1=Zj .local:=by
 obtain⟨o1,o2,o3,o4⟩:=hZ ho
 refine⟨o1,λy hy e => ?_⟩
 obtain⟨y,k⟩:=y
 have:=fG o4 hy
 rw[cZ]at this;dsimp only at e;rw[e]at this;exact this
theorem lE(H:Sound B I n)(C:AC A ρ fr n)(N:En A env sc ρ fr)(S:SR B ρ fr σ s)(F:Fm B env sc le ρ fr s.heap)(elt:Expr)(gs:List Vh)(pos cpos:Vw){res:R V}(hr:res=jv I elt gs h_ sc le σ)(hn:res ≠ .no)
  {use:Option (SX->Xk Unit)} {Q:SX->S9->Prop} {γ:Type} {R':R γ} (hR:∀ σ',res = .exc σ'->R' = .exc σ')
  (post:∀ i a ON C s' fl (ρ':e_),res = .ok (.ref i) ON->C∉fr->C∉ρ.fs->SR B ρ' (C::fr) ON s'->F_ B ρ fr s ρ' (C::fr) s'->ρ'.x=ρ.x->(∃ m,s'.heap.Ns C m)->(ρ'.m[i]? = Zj (Zj (a,[]))\/ρ'.m[i]? = Zj Zk)->compPost B.M A (EP B ρ fr s R') use Q (.ref a) C (.ok fl) s') :
  wpAny B.M A (comprehension (.ListComp elt gs h_ pos) h_ env cpos (newList []) (firstAsync gs) (firstIter gs env) use) Q (EP B ρ fr s R') s:=by
 obtain⟨⟨x,ie,ifs⟩,hco,hr1⟩:=aU hr hn;obtain⟨hb,hr2⟩:=bv hr1 hn;obtain⟨h1,hb⟩:=aO hb;obtain⟨h2,hb⟩:=aO hb;obtain⟨h3,hb⟩:=aO hb;obtain⟨px,rfl⟩:=xy hco;obtain⟨cl,hcl,hclo⟩:=me F h3;obtain⟨k1,k2⟩:=ty h1;have hns:∀ a b c,ie ≠ .Set a b c:=by
  rintro a b c rfl
  refine hn (hr2.trans ?_)
  (refine b_ (H.set ..) ?_);rfl
 refine wpAny_comprehension_free (gs:=[]) rfl (mZ hns) hcl k1 k2 ?_
 refine TJ ((H.ev ie C N S F).step (.refl ..) hr2 hn λv σ₁ dk u s₁ S₁ T₁ r_ x₁ r₁ e₁=>(?_:wpAny B.M A (pyIter u) _ (EP B ρ fr s R') s₁)) (λ_ _ h=>h) λe s' z=>by obtain⟨σ',ρ',q,z1,z2,z3,z4,z5⟩:=z;exact⟨σ',ρ',q,hR _ z1,z2,z3,z4,z5⟩
 obtain⟨hx,e₁⟩:=gC e₁ hn;obtain⟨_,ON,hg,e₂⟩:=yQ (show res=vA (tx I elt x ifs h_ le (len σ₁.o) v ⟨σ₁.o++[.a_ []],σ₁.x,σ₁.cap⟩) (λ_ s => .ok (.ref (len σ₁.o)) s)from e₁) hn
 refine yp (C.to r_ x₁) (N.to r_) S₁ (F.step r_) h1 h2 h3 hclo (λC' a ρ' s' fl hC Qv K => ?_) H (S₁.calm hx) r₁ (gO (aO hb).1) hg
 exact post _ a ON C' s' fl ρ' e₂ hC (by(refine A' T₁.fs ?_);exact Qv) K.S (T₁.toF.trans K.X λb hb=>hb) (K.x'.trans x₁) (by obtain⟨m,h,_⟩:=K.F.ns;exact⟨m,h⟩) K.acc
theorem wM(H:Sound B I n)(C:AC A ρ fr n)(N:En A env sc ρ fr)(S:SR B ρ fr σ s)(F:Fm B env sc le ρ fr s.heap)(elt:Expr)(gs:List Vh)(pos:Vw) :
  Wp B A ρ fr s (jv I elt gs h_ sc le σ) (eval (.ListComp elt gs h_ pos) env) (aM B fr):=by
 refine Wp.of λhn => ?_
 refine b_ (eval_ListComp ..) ?_
 refine lE H C N S F elt gs pos _ rfl hn (R':=jv I elt gs h_ sc le σ) (λ_ h=>h) λi a ON C' s' fl ρ' e hC Qv S' X x' hm hacc => ?_
 obtain⟨m,hm⟩:=hm
 refine⟨m,hm,λh' hs => ?_⟩
 obtain⟨o,es,ep,ho,hd,_⟩:=id hm;obtain⟨S2,T2,_⟩:=S'.drop (s':={ s' with heap:=h' }) (λb o hb e=>(hs.2 b hb).trans e) hC (by(refine b_ X.fs ?_);exact Qv) (λo' v e z=>by rw[ho]at e;cases e;rw[hd]at z;cases z) rfl rfl
 refine⟨.ref i,ON,ρ',e,S2,T2 X,x',?_⟩
 show VR B ρ' h' (aj ρ' fr) (.ref i) (.ref a)
 unfold VR;rcases hacc with h|h
 ·exact .inl ⟨_,h,rfl⟩
 ·exact .inr ⟨h,_,rfl⟩
theorem qc{y:Tq}{k:Tp}{l:List (Tq×Tp)}(h:(y,k)∈l):ah l y≠Zk:=by
 induction l with
 | nil=>cases h
 | cons p r ih=>
  obtain⟨z,j⟩:=p;refine b_ (dl ..) ?_
  rcases Ub.mp h with e|h
  ·cases e;(refine b_ (aQ ..) ?_);exact λh=>nomatch h
  ·cases aw z y
   ·exact ih h
   ·exact λh=>nomatch h
theorem Bd{x:Tq}{l:List (Tq×Tp)}(hk:ah l x=Zk):l.any (λ(n,k)=>n==x&&(k == .local || k == .cell))=Zn:=by
 rw[List.any_eq_false]
 rintro⟨y,k⟩ hy
 intro h;exact qc hy ((Vq (WT ..▸h).1 :)▸hk)
theorem yg{elt:Expr}{gs:List Vh}{x:Tq}{px cpos:Vw}{n:Nat}(F:Fm B env sc le ρ fr s.heap)(hk:ah sc.names x=Zj .local)(h2:ah h_.names x=Zk)(hl:Ue px.line cpos.line=Zm):swapsWith (.ListComp elt gs h_ cpos) (Zj (.Name x px)) n env=pure Zm:=by
 show(pure (env.blockKind == .function&&env.kindOf x==Zj .local&&px.line==cpos.line && !(h_.names.any λ(n,k)=>n==x&&(k == .local || k == .cell))):Xk Bool)=pure Zm
 rw[Bd h2,(by unfold WD.blockKind;rw[F.kind];rfl:env.blockKind = .function),kB F hk (by decide),Uj hl,show(cpos.line==cpos.line)=Zm from beq_self_eq_true _]
 rfl
theorem xD(H:Sound B I n)(C:AC A ρ fr n)(N:En A env sc ρ fr)(S:SR B ρ fr σ s)(F:Fm B env sc le ρ fr s.heap)(t e:Expr)(c:Expr×List Vh×Tz×Vw)(pos:Vw)(hc:gW e=Zj c) :
  Px B A env sc le Zm ρ fr s (jD I t c sc le σ) (exec (.Assign [t] e pos) env) := .mk λres hr hn=>by
 obtain⟨⟨x,px⟩,hx,hr1⟩:=aU hr hn;obtain⟨hb,hr2⟩:=bv hr1 hn;obtain⟨elt,gs,h_,cpos⟩:=c;refine b_ ((CW e).of hc) ?_;refine b_ ((fK t).of hx) ?_
 obtain⟨hk,hb⟩:=aO hb;obtain⟨hk2,hb⟩:=aO hb;have hk1:=gO hk
 refine b_ (exec_Assign_Name_used _ _ _ _ (yg (elt:=elt) (gs:=gs) (n:=pos.line) F hk1 (pK hk2) (aO hb).1 :)) ?_
 refine S8 (Um (S8 ?_))
 refine b_ (arm_evalThenUse_ListComp ..) ?_
 have hn1:jv I elt gs h_ sc le σ ≠ .no:=λz=>hn (by(refine b_ hr2 ?_;refine b_ z ?_);rfl)
 refine S8 (TJ (lE H C N S F elt gs cpos _ rfl hn1 (use:=Zj (PySem.assign (.Name x px) env)) (Q:=λ_ s'=>Pw B env sc ρ fr s res .next s') (R':=res) (λσ' z=>by(refine b_ (hr2 ..) ?_;refine b_ (z ..) ?_);rfl) λi a ON C' s' fl ρ' e hC Qv S' X x' hm hacc => ?_) (λ_ s' h=>Tg (Tg h)) λe' s' ⟨σ',ρ',q,z1,z2,z3,z4,z5⟩=>⟨σ',ρ',q,z1,z2,z3.toStep,z4,z5,le,F.step z3,λ_=>rfl⟩)
 show wpAny B.M A (PySem.assign (.Name x px) env (.ref a)) _ _ s'
 refine b_ (Yu ..) ?_
 have va:VR B ρ' s'.heap (aj ρ' (C'::fr)) (.ref i) (.ref a):=by
  unfold VR;rcases hacc with h|h
  ·exact .inl ⟨_,h,rfl⟩
  ·exact .inr ⟨h,_,rfl⟩
 refine S8 (Um (Xo (dJ S' (F.Q_ X λb hb=>T8 _ hb) hk1 va (by(refine b_ (X.fs ..) ?_);exact N.apart _ F.loc:env.locals∉ρ'.fs) λs3 S3 T3 F3 k3 => ?_)))
 obtain⟨m,hm⟩:=hm;have R2:s3.heap.Ns C' m:=hm.at λo e=>k3 _ o (λz=>hC (z▸F.loc):C'≠env.locals) e
 refine⟨m,R2,λh' hs => ?_⟩
 obtain⟨o,es,ep,ho,hd,_⟩:=id R2;have Ra:∀ o' v,s3.heap.get? C'=Zj o'->o'.data ≠ .cell v:=λo' v e z=>by rw[ho]at e;cases e;rw[hd]at z;cases z
 have hkk:∀ b o,b≠C'->s3.heap.get? b=Zj o->({ s3 with heap:=h' }:S9).heap.get? b=Zj o:=λb o hb e=>(hs.2 b hb).trans e
 have Rb:C'∉ρ'.fs:=by(refine b_ X.fs ?_);exact Qv
 obtain⟨S4,_,R3⟩:=S3.drop (s':={ s3 with heap:=h' }) hkk hC Rb Ra rfl rfl
 refine dh (f := .next) (le':=aR le x (.ref i)) S4 ((X.toW.trans T3).drop S3 hkk Rb Ra R3) x' (by(refine b_ hr2 ?_;refine b_ e ?_);rfl) (F3.drop F.loc (λy c hy hky hc => ?_) hC hkk Ra R3) rfl
 have hy':ak le y=Zk:=by
  rw[dU]at hy
  by_cases z:y=x
  ·rw[if_pos z]at hy;cases hy
  ·rw[if_neg z]at hy;exact hy
 obtain⟨c',o',hc',_,_,_,hf,_⟩:=F.empty y hy' hky;rw[hc]at hc';cases hc';exact hf
end
end
section
open PySem PySem.W PyProof.Rows PyProof
noncomputable def e_.O1(ρ:e_):e_:={ ρ with x:=Zk }
section
variable{B:Base}{ρ:e_}{h:Tr}{ow y_:Tc->Prop}
theorem dY{b x:Bool}(h:ac b x Zn=Zm):Qc b x:=by
 cases b with
 | false=>cases h
 | true=>exact⟨rfl,h⟩
mutual
theorem VR.s_(St:Still h ow h y_):∀ (v:V) (u:SX),Mine.O1 v=Zm->VR B ρ h ow v u->VR B ρ.O1 h y_ v u
 | .d x,u,_,r=>by unfold VR at r ⊢;exact PR.mono St x u r
 | .val w,u,_,r=>by unfold VR at r ⊢;exact r
 | .ref i,u,_,r=>by unfold VR at r ⊢;exact r
 | .tup vs,u,c,r=>by
  unfold VR at r ⊢;obtain⟨a,us,n,rfl,ha,ho,hs⟩:=r
  exact⟨a,us,n,rfl,St.no ho ha,ho,k_.s_ St vs _ (by unfold Mine.O1 at c;exact c) hs⟩
 | .rng n,u,_,r=>by
  unfold VR at r ⊢;obtain⟨hs,a,rfl,ha,ta,tb,tc,ho⟩:=r
  exact⟨hs,a,rfl,St.no ho ha,ta,tb,tc,ho⟩
 | .exc,u,c,r=>by unfold Mine.O1 at c;cases c
theorem k_.s_(St:Still h ow h y_):∀ (vs:List V) (us:List SX),Al vs=Zm->k_ B ρ h ow vs us->k_ B ρ.O1 h y_ vs us
 | [],us,_,r=>by unfold k_ at r ⊢;exact r
 | v::vs,us,c,r=>by
  unfold Al at c;obtain⟨c1,c2⟩:=dY c;unfold k_ at r ⊢;obtain⟨u,us',rfl,h1,h2⟩:=r
  exact⟨u,us',rfl,VR.s_ St v u c1 h1,k_.s_ St vs us' c2 h2⟩
end
theorem wT(x:Tq)(v:V)(r:List (Tq×V)):pB ((x,v)::r)=ac (Mine.O1 v) (pB r) Zn:=rfl
theorem jr(x:SQ)(v:V)(r:List (SQ×V)):xQ ((x,v)::r)=ac (Mine.O1 v) (xQ r) Zn:=rfl
theorem gc{x:Tq}{v:V}:∀ {fs:List (Tq×V)},pB fs=Zm->ak fs x=Zj v->Mine.O1 v=Zm
 | [],_,h=>by cases h
 | (y,w)::r,c,h=>by
  rw[wT]at c;obtain⟨c1,c2⟩:=dY c;rw[aG]at h;cases hs:aw y x with
  | true=>rw[hs]at h;cases h;exact c1
  | false=>rw[hs]at h;exact gc c2 h
theorem C_.s_(St:Still h ow h y_):∀ (ds:List (SQ×V)) (l:List (Tq×SX)),xQ ds=Zm->C_ B ρ h ow ds l->C_ B ρ.O1 h y_ ds l
 | [],l,_,r=>by unfold C_ at r ⊢;exact r
 | (k,d)::xs,l,c,r=>by
  rw[jr]at c;obtain⟨c1,c2⟩:=dY c;unfold C_ at r ⊢;obtain⟨x,v,l',rfl,e,h1,h2⟩:=r
  exact⟨x,v,l',rfl,e,VR.s_ St d v c1 h1,C_.s_ St xs l' c2 h2⟩
theorem G'.s_(St:Still h ow h y_):∀ (ds:List (SQ×V)) (l:List (Int×SX)),xQ ds=Zm->G' B ρ h ow ds l->G' B ρ.O1 h y_ ds l
 | [],l,_,r=>by unfold G' at r ⊢;exact r
 | (k,d)::xs,l,c,r=>by
  rw[jr]at c;obtain⟨c1,c2⟩:=dY c;unfold G' at r ⊢;obtain⟨x,v,l',rfl,e,h1,h2⟩:=r
  exact⟨x,v,l',rfl,e,VR.s_ St d v c1 h1,G'.s_ St xs l' c2 h2⟩
theorem N_.s_(St:Still h ow h y_):∀ (ds:List (SQ×V)) (l:List (List Tq×Tc×SX)),(∀ x∈l,∃ o,h.get? x.2.1=Zj o)->xQ ds=Zm->N_ B ρ h ow ds l->N_ B ρ.O1 h y_ ds l
 | [],l,_,_,r=>by unfold N_ at r ⊢;exact r
 | (k,d)::xs,l,hl,c,r=>by
  rw[jr]at c;obtain⟨c1,c2⟩:=dY c;unfold N_ at r ⊢;obtain⟨x,y,a,v,l',rfl,e,ha,h1,h2⟩:=r;obtain⟨o,ho⟩:=hl _ Uo
  exact⟨x,y,a,v,l',rfl,e,St.no ho ha,VR.s_ St d v c1 h1,N_.s_ St xs l' (λz hz=>hl z (T8 _ hz)) c2 h2⟩
theorem OR.s_(St:Still h ow h y_){o:O}{p:Tc×List Tc}(c:uq o=Zm)(r:OR B ρ h ow o p):OR B ρ.O1 h y_ o p:=by
 cases o with
 | a_ xs=>
  obtain⟨e,vs,n,ho,hs⟩:=r
  exact⟨e,vs,n,ho,PRs.mono St xs _ hs⟩
 | p_ xs=>
  obtain⟨e,vs,n,ho,hs⟩:=r
  exact⟨e,vs,n,ho,k_.s_ St xs _ c hs⟩
 | dict kvs=>
  obtain⟨e,hm,ho,h1,h2,h3,hz⟩:=r
  exact⟨e,hm,ho,λhk=>by obtain⟨l,hl,hr⟩:=h1 hk;exact⟨l,hl,C_.s_ St kvs l c hr⟩,λhk=>by obtain⟨l,hl,hr⟩:=h2 hk;exact⟨l,hl,G'.s_ St kvs l c hr⟩,
   λhk=>by obtain⟨l,hl,hr⟩:=h3 hk;exact⟨l,hl,N_.s_ St kvs l (de hl).2 c hr⟩,hz⟩
 | inst cc fs=>
  obtain⟨dx,mA,o,e,ho,hc,hnc,hd,hne,hn,hf,hz⟩:=r
  refine⟨dx,mA,o,e,ho,hc,hnc,hd,hne,hn,λy => ?_,hz⟩
  have:=hf y
  revert this
  cases hg:ak fs y with
  | none=>exact id
  | some v=>rintro⟨rv,h1,h2,h3⟩;exact⟨rv,h1,VR.s_ St v rv (gc c hg) h2,h3⟩
 | clo a b sc cap=>
  obtain⟨e,o,fd,ho,hc,hd,hcd,hm,hv⟩:=r
  refine⟨e,o,fd,ho,hc,hd,hcd.mono St,hm,λx v hx => ?_⟩
  obtain⟨c',oc,rv,h1,h2,hk,h3,h4⟩:=hv x v hx
  exact⟨c',oc,rv,h1,h2,hk,h3,VR.s_ St v rv (gc c hx) h4⟩
 | dead=>exact r.elim
theorem rB:∀ {l:List O} {i:Nat} {o:O},iP l=Zm->l[i]? = Zj o->uq o=Zm
 | [],i,o,_,h=>by simp at h
 | x::l,i,o,c,h=>by
  have c':ac (uq x) (iP l) Zn=Zm:=c
  obtain⟨c1,c2⟩:=dY c';cases i with
  | zero=>cases h;exact c1
  | succ i=>exact rB c2 (by simpa using h)
end
section
variable{α β:Type}{B:Base}{I:It}{A:TV}{ρ ρ' M_ c_ dk:e_}{fr fr' OL:List Tc}{σ σ₁:VS}{s s' s'' s₀ s₁:S9}{n:Nat}{E:SX->S9->Prop}{env:WD}{sc h_:Tz}{le le':LE}{it:Tc}{qk:Bool}
theorem C8{b:Tc}(h:aj ρ.O1 fr b):aj ρ fr b:=by
 rcases h with h|⟨q,hq,_⟩|h
 ·exact .inl h
 ·cases hq
 ·exact .inr (.inr h)
theorem dQ(h:Tr):Still h (aj ρ fr) h (aj ρ.O1 fr):=⟨λ_ _ e _ _=>e,λ_ h => .inl (C8 h),λ_ o e => .inr ⟨o,e⟩⟩
theorem SR.s_(S:SR B ρ fr σ s)(hc:iP σ.o=Zm):SR B ρ.O1 fr ⟨σ.o,Zk,σ.cap⟩ s:=
 ⟨S.len,λi p hp=>by obtain⟨o,ho,r⟩:=S.obj i p hp;exact⟨o,ho,r.s_ (dQ _) (rB hc ho)⟩,S.gone,S.sep,S.L_,λq hq=>(by cases hq),S.frB,trivial,cK S.base (dQ _) (λ_ _ _ _ e=>e),S.gens,S.os,S.cap,S.Os⟩
theorem Step.s_(T:Step B c_ fr s₀ ρ s)(hx:c_.x=Zk):Step B c_ fr s₀ ρ.O1 s:=
 ⟨⟨T.goes.m,λq hq=>by rw[hx]at hq;cases hq⟩,T.still.trans (dQ _),T.cells,T.fs,T.Pl⟩
theorem Fm.s_(F:Fm B env sc le ρ fr s.heap)(h:∀ y v,ak le' y=Zj v->ak le y=Zj v/\Mine.O1 v=Zm)(h2:∀ y,ah sc.names y=Zj .cell->ak le' y=Zk->ak le y=Zk):Fm B env sc le' ρ.O1 fr s.heap:=by
 refine⟨F.kind,F.globals,F.builtins,F.kinds,F.loc,?_,λx v hx hk => ?_,λx hx hk=>F.empty x (h2 x hk hx) hk,F.apart,F.code⟩
 ·obtain⟨m,hn,hm⟩:=F.ns
  refine⟨m,hn,λx v hx hk => ?_⟩
  obtain⟨g1,g2⟩:=h x v hx;obtain⟨u,hu,hv⟩:=hm x v g1 hk
  exact⟨u,hu,VR.s_ (dQ _) v u g2 hv⟩
 ·obtain⟨g1,g2⟩:=h x v hx;obtain⟨c,o,u,hc,ho,hcl,hd,hv⟩:=F.cells x v g1 hk
  exact⟨c,o,u,hc,ho,hcl,hd,VR.s_ (dQ _) v u g2 hv⟩
theorem oK(ns:List (Tq×Tp))(x:Tq)(v:V)(r:LE):x_ ns ((x,v)::r)=match ah ns x with|some .local=>x_ ns r|_=>(x,v)::x_ ns r:=rfl
set_option tactic.hygienic true in
theorem cy{ns:List (Tq×Tp)}(y:Tq):∀ (le:LE),ak (x_ ns le) y=if ah ns y=Zj .local then Zk else ak le y
 | []=>by show ak [] y=_;split<;>rfl
 | (x,v)::r=>by
  refine b_ (oK ..) ?_
  have ih:=cy (ns:=ns) y r
  by_cases hy:ah ns y=Zj .local
  ·rw[if_pos hy]at ih ⊢
   split
   ·exact ih
   ·rename_i hx
    refine b_ (aG ..) ?_
    have:x≠y:=by rintro rfl;exact hx hy
    (refine b_ (aV this ..) ?_);exact ih
  ·rw[if_neg hy]at ih ⊢
   split
   ·rename_i hx
    have:x≠y:=by rintro rfl;exact hy hx
    (refine b_ (aG ..) ?_;refine b_ (aV this ..) ?_);exact ih
   ·(refine b_ (aG ..) ?_;refine b_ (aG ..) ?_;exact b_ (ih ..) rfl)
end
end
section
open PySem PySem.W PyProof.Rows PyProof
def nY(B:Base):Prop:=∀ {A:TV} {ρ:e_} {fr:List Tc} {σ:VS} {s:S9} {k c:Tc} {i:Int} {q:Tc×Tc} {r:Bool} {E:SX->S9->Prop} {Q:Bool->S9->Prop},SR B ρ fr σ s->σ.x=Zj (k,i)->ρ.x=Zj q->B.T.sub k c=Zj r->
 (∀ tk,Q r { s with toks:=tk })->wpAny B.M A (excMatches (.ref q.1) (.ref c)) Q E s
section
variable{α β:Type}{B:Base}{I:It}{A A₁ A₂:TV}{ρ ρ' M_ c_ dk:e_}{fr fr' OL:List Tc}{σ σ₁:VS}{s s' s'' s₀ s₁:S9}{n:Nat}{E:SX->S9->Prop}{env:WD}{sc h_:Tz}{le le':LE}{it:Tc}{qk:Bool}{q:Tc×Tc}
theorem za{res:R (Fl×LE)}{e:SX}(R:Frs A₁ env c_ fr)(h:Ou B env sc le Zn c_ fr s₀ res e s'):notedBy B.M A₁ env (λe s'=>cameBackBy B.M A₂ env (Ou B env sc le Zn c_ fr s₀ res) e s') e s':=by
 obtain⟨σ',ρ',q,h1,h2,h3,h4,rfl,l,F,_⟩:=h;refine qZ h2 h4 (R.step h3.fs) λs₁ S₁ T₁ t₁ => ?_
 exact jY S₁ h4 t₁ λs₂ S₂ T₂ _=>⟨σ',ρ',q,h1,S₂,h3.trans (T₁.toStep.trans T₂.toStep),h4,rfl,l,(F.step T₁).step T₂,λz=>by cases z⟩
theorem Frs.mark(R:Frs A env ρ fr)(h:Option SX):Frs (A.mark h) env ρ fr:=R
theorem AC.mark(C:AC A c_ fr n)(hf:ρ.fs=c_.fs)(hq:ρ.x=Zj q):AC (A.mark (Zj (.ref q.1))) ρ fr n:=
 ⟨by(refine b_ hf ?_);exact C.frames,C.depth,C.units,C.guards,by(refine b_ hq ?_);rfl⟩
theorem jT(S:SR B ρ fr σ s)(F:Fm B env sc le ρ fr s.heap){y:Tq}{pos:Vw}(hk:ah sc.names y=Zj .local)(hfs:env.locals∉ρ.fs){Q:Unit->S9->Prop}
  (k:∀ s',SR B ρ fr σ s'->Step B ρ fr s ρ s'->Fm B env sc (x_ sc.names le) ρ fr s'.heap->(∀ b o,b≠env.locals->s.heap.get? b=Zj o->s'.heap.get? b=Zj o)->Q () s'):wpAny B.M A (do bindName env y .none;unbindBehindTheSuite env y pos) Q E s:=by
 have hl:env.kindOf y=Zj .local:=by
  rcases F.kinds y _ hk with h|⟨h,_⟩
  ·exact h
  ·cases h
 obtain⟨m,hn,hm⟩:=F.ns;refine wpAny_nameGoes hl hn F.plain λh' m' hn' hs' => ?_
 obtain⟨oL,es,ep,hoL,hdL,_⟩:=id hn;obtain⟨oL',es',ep',QA,QB,_⟩:=id hn';have keep:∀ b o,b≠env.locals->s.heap.get? b=Zj o->h'.get? b=Zj o:=λb o hb e=>(hs'.2 b hb).trans e
 obtain⟨S',T⟩:=S.frm (s':={ s with heap:=h',toks:=s.toks+1 }) (λb=>b=env.locals) (λb o hb e=>keep b o hb e) (λb hb=>hb▸F.loc) (λb o hb e v=>by subst hb;rw[hoL]at e;cases e;(refine b_ hdL ?_);exact λh=>by cases h)
  (λb hb=>⟨oL',hb▸QA,λvs=>by(refine b_ QB ?_);exact λh=>by cases h⟩) rfl rfl (λb hb=>hb▸hfs)
 refine k _ S' T ⟨F.kind,F.globals,F.builtins,F.kinds,F.loc,⟨m',hn',λx v hx hkx => ?_⟩,λx v hx hkx => ?_,λx hx hkx => ?_,F.apart,F.code⟩ keep
 ·rw[cy,if_pos hkx]at hx;cases hx
 ·rw[cy]at hx
  split at hx
  ·cases hx
  ·obtain⟨c,o,u,hc,ho,hcl,hd,hv⟩:=F.cells x v hx hkx;obtain⟨o',e',k',d'⟩:=T.cells.cells _ _ _ ho hcl hd
   exact⟨c,o',u,hc,e',k'.trans hcl,d'.trans hd,hv.mono T.goes T.still⟩
 ·rw[cy,if_neg (by(refine b_ hkx ?_);simp)]at hx
  obtain⟨c,o,hc,ho,hcl,hd,hf,hne⟩:=F.empty x hx hkx
  exact⟨c,o,hc,keep _ o hne ho,hcl,hd,hf,hne⟩
theorem xk(S:SR B ρ fr σ s)(hq:ρ.x=Zj q)(ht:OB s.heap q.1)(w:String){Q:α->S9->Prop}(k:∀ s',SR B ρ fr σ s'->dR B ρ fr s ρ s'->E (.ref q.1) s'):wpAny B.M A (PySem.passOn w (.ref q.1) env:Xk α) Q E s:=by
 unfold PySem.passOn;obtain⟨o,vs,T,ho,hd,h1⟩:=id ht;refine S8 (Vg ho hd h1 ?_)
 refine b_ (if_neg (by simp)) ?_
 exact S8 (bJ S hq env.frame λs₁ S₁ T₁ t₁=>XJ (k s₁ S₁ T₁))
theorem nR{nm:Option Tq}{r res:R (Fl×LE)}{p:Fl×LE}{σ':VS}{fl:Flow}(hres:res=ez sc nm r)(hn:res ≠ .no)(hr:r = .ok p σ')(S:SR B ρ' fr σ' s')(X:Step B c_ fr s₀ ρ' s')(hx:c_.x=Zk)
  (F:(nm=Zk->Fm B env sc p.2 ρ' fr s'.heap)/\Fm B env sc (x_ sc.names p.2) ρ' fr s'.heap) (rf:QR B fr p.1 ρ' s' fl):Pw B env sc c_ fr s₀ res fl s':=by
 subst hr;obtain⟨f,le'⟩:=p;obtain⟨h1,e⟩:=bv (show res=_ from hres) hn
 cases f with
 | next=>
  cases nm with
  | some y=>exact absurd e hn
  | none=>
   obtain⟨h2,e⟩:=bv (show res=_ from e) hn
   exact⟨(.next,le'),_,ρ'.O1,e,S.s_ h1,X.s_ hx,hx.symm,(F.1 rfl).s_ (λy v h=>⟨h,gc h2 h⟩) (λy _ h=>h),rf⟩
 | ret v=>
  obtain⟨h2,e⟩:=bv (show res=_ from e) hn
  obtain⟨h3,e⟩:=bv (show res=_ from e) hn
  obtain⟨u,rfl,rv⟩:=rf
  exact⟨(.ret v,x_ sc.names le'),_,ρ'.O1,e,S.s_ h1,X.s_ hx,hx.symm,F.2.s_ (λy v h=>⟨h,gc h3 h⟩) (λy _ h=>h),u,rfl,VR.s_ (dQ _) v u h2 rv⟩
 | brk=>exact absurd e hn
 | cont=>exact absurd e hn
theorem Fm.x_(F:Fm B env sc le ρ fr s.heap):Fm B env sc (x_ sc.names le) ρ fr s.heap:=by
 refine F.sub (λy v h => ?_) λy hk h => ?_
 ·rw[cy]at h
  split at h
  ·cases h
  ·exact h
 ·rw[cy,if_neg (by(refine b_ hk ?_);simp)]at h;exact h
end
end
section
open PySem PySem.W PyProof.Rows PyProof
inductive HF (T:Tab) (sc:Tz) (c:Tc) (h:Uk) (r:List Uk) (nm:Option Tq) (b:List T9) (x:Tq) (k:Tc):Prop
 | hit (p pos:Vw):h = .ExceptHandler (Zj (.Name x p)) nm b pos->T.sub c k=Zj Zm->(∀ y,nm=Zj y->ah sc.names y=Zj .local)->HF T sc c h r nm b x k
 | miss (p:Vw) (n:Option Tq) (body:List T9) (pos:Vw):h = .ExceptHandler (Zj (.Name x p)) n body pos->T.sub c k=Zj Zn->cx T sc r c=Zj (nm,b)->HF T sc c h r nm b x k
theorem A0{k:Option Tp}(h:Fo k=Zm):k=Zj .globalImplicit:=by
 cases k with
 | none=>cases h
 | some k=>cases k<;>first|rfl|cases h
theorem wr{v:V}{k:Tc}(h:Hf v=Zj k):v = .val (.ref k):=by
 cases v with
 | val u=>cases u<;>first|exact nn h|(cases h;rfl)
 | _=>exact nn h
theorem xn{h:Uk}{p:Tq×Option Tq×List T9}(e:Ba h=Zj p):X2 λq pos=>h = .ExceptHandler (Zj (.Name p.1 q)) p.2.1 p.2.2 pos:=by
 cases h with
 | ExceptHandler t n b pos=>
  obtain⟨t',ht,e⟩:=aD (show ag t Zk (λe=>ag (eM e) Zk λx=>Zj (x.1,n,b))=Zj p from e)
  obtain⟨x,hx,e⟩:=aD e;cases e
  exact⟨x.2,pos,by(refine b_ ht ?_;exact b_ ((fK t').of hx) rfl)⟩
theorem kn{T:Tab}{sc:Tz}{c:Tc}{h:Uk}{r:List Uk}{nm:Option Tq}{b:List T9}(e:cx T sc (h::r) c=Zj (nm,b)) :
  X2 λx k=>A3 (ah sc.names x=Zj .globalImplicit) (T.glob x=Zj (.val (.ref k))) (HF T sc c h r nm b x k):=by
 obtain⟨p,hp,e⟩:=aD e;obtain⟨hk,e⟩:=cQ e;obtain⟨k,hg,e⟩:=aD e;obtain⟨v,hv,hg⟩:=aD hg;obtain⟨t,ht,e⟩:=aD e;obtain⟨q,pos,eh⟩:=xn hp
 refine⟨p.1,k,A0 hk,hv.trans (congrArg Zj (wr hg)),?_⟩
 cases t with
 | false=>exact .miss q _ _ pos eh ht e
 | true=>
  obtain⟨hn,e⟩:=cQ (show ac (ag p.2.1 Zm λy=>mL (ah sc.names y)) (Zj p.2) Zk=Zj (nm,b)from e)
  rw[(Tf e :)]at eh hn;refine .hit q pos eh ht λy hy => ?_
  rw[show((nm,b):Option Tq×List T9).1=nm from rfl,hy]at hn
  exact gO hn
section
variable{α β:Type}{B:Base}{I:It}{A A₁ A₂:TV}{ρ ρ' M_ c_ dk:e_}{fr fr' OL:List Tc}{σ σ₁:VS}{s s' s'' s₀ s₁:S9}{n:Nat}{E:SX->S9->Prop}{env:WD}{sc h_:Tz}{le le':LE}{it:Tc}{qk:Bool}{q:Tc×Tc}
theorem OB.step(h:OB s.heap q.1)(T:∀ b o,b≠env.locals->s.heap.get? b=Zj o->s'.heap.get? b=Zj o)(hne:q.1≠env.locals):OB s'.heap q.1:=
 by obtain⟨o,vs,t,h1,h2,h3⟩:=h;exact⟨o,vs,t,T _ _ hne h1,h2,h3⟩
theorem QR.step{f:Fl}{fl:Flow}(r:QR B fr f ρ s fl)(T:Step B ρ fr s ρ' s'):QR B fr f ρ' s' fl:=by
 cases f with
 | ret v=>obtain⟨u,e,rv⟩:=r;exact⟨u,e,rv.mono T.goes T.still⟩
 | _=>exact r
theorem ma{nm:Option Tq}{r res:R (Fl×LE)}{σ':VS}(hres:res=ez sc nm r)(hr:r = .exc σ'):res = .exc σ':=by(refine b_ hres ?_;refine b_ hr ?_);rfl
theorem jx(G:Glob B)(Mt:nY B)(hp:bF sc.names=Zm){x:Tq}{kc c:Tc}{k:Int}{t:Bool}(hkx:ah sc.names x=Zj .globalImplicit)(hg:B.T.glob x=Zj (.val (.ref kc)))(ht:B.T.sub c kc=Zj t)(hσ:σ.x=Zj (c,k))(hq:ρ.x=Zj q)
  (S:SR B ρ fr σ s) (F:Fm B env sc le ρ fr s.heap) {p:Vw} {R:Bool->S9->Prop} (h:∀ tk,R t { s with toks:=tk }):wpAny B.M A (eval (.Name x p) env) (λv s₁=>wpAny B.M A (excMatches (.ref q.1) v) R E s₁) E s:=
 i8 G S F hp (by unfold ea;(refine b_ hkx ?_);exact hg) p λu r=>by
  unfold VR at r;refine b_ r.1 ?_
  exact Mt S hσ hq ht h
theorem AM{nm:Option Tq}{r:R (Fl×LE)}{res:R (Fl×LE)}(hn:res ≠ .no)(hres:res=ez sc nm r):r ≠ .no:=λz=>hn (by(refine b_ hres ?_;refine b_ z ?_);rfl)
theorem tV(H:Sound B I n)(C:AC A c_ fr n)(N:En A env sc c_ fr)(hx:c_.x=Zk){b₀:T9}{bs:List T9}{pos:Vw}{res:R (Fl×LE)}(hn:res ≠ .no)(hres:res=ez sc Zk (I.ex (b₀::bs) sc le σ))(hq:ρ.x=Zj q)(S:SR B ρ fr σ s)(X:Step B c_ fr s₀ ρ s)(F:Fm B env sc le ρ fr s.heap){R:Except SX Flow->S9->Prop}
  (hR:∀ fl s',Pw B env sc c_ fr s₀ res fl s'->R (.ok fl) s') (hE:∀ x s',Ou B env sc le Zn c_ fr s₀ res x s'->notedBy B.M (A.mark (Zj (.ref q.1))) env (λx s=>R (.error x) s) x s') :
  codeAny B.M (A.mark (Zj (.ref q.1))) (.handlers (.ref q.1) [.ExceptHandler Zk Zk (b₀::bs) pos] env) R s:=by
 refine codeAny_handlers_suite (bJ S hq Zk λs₃ H_ z_ _ => ?_)
 have Rc:=X.trans z_.toStep
 refine TJ (H.ex (b₀::bs) (C.mark X.fs hq) ⟨N.ok,by(refine b_ X.fs ?_);exact N.apart,N.head⟩ H_ (F.step z_) (AM hn hres)) (λfl s' h=>hR _ _ ?_) λe s' h=>hE _ _ ?_
 ·obtain⟨p',σ',ρ',h1,h2,h3,h4,h5,h6⟩:=h;exact nR hres hn h1 h2 (Rc.trans h3) hx ⟨λ_=>h5,h5.x_⟩ h6
 ·obtain⟨σ',ρ',q',h1,h2,h3,h4,h5,l,F',_⟩:=h
  exact⟨σ',ρ',q',ma hres h1,h2,Rc.trans h3,h4,h5,l,F',λz=>by cases z⟩
theorem Di(H:Sound B I n)(C:AC A c_ fr n)(N:En A env sc c_ fr)(hx:c_.x=Zk){y:Tq}{b₀:T9}{bs:List T9}{pos:Vw}{res:R (Fl×LE)}(hn:res ≠ .no)(hres:res=ez sc (Zj y) (I.ex (b₀::bs) sc (aR le y .exc) σ))(hky:ah sc.names y=Zj .local)
  (hq:ρ.x=Zj q) (S:SR B ρ fr σ s) (X:Step B c_ fr s₀ ρ s) (F:Fm B env sc le ρ fr s.heap) {Q:Flow->S9->Prop} (hQ:∀ fl s',Pw B env sc c_ fr s₀ res fl s'->Q fl s') {R:Except SX Flow->S9->Prop}
  (hR:∀ fl s',wpAny B.M A (do bindName env y .none;unbindBehindTheSuite env y pos) (λ_ s₃=>Q fl s₃) (Ou B env sc le Zn c_ fr s₀ res) s'->R (.ok fl) s') (hE:∀ x s',Ou B env sc le Zn c_ fr s₀ res x s'->notedBy B.M (A.mark (Zj (.ref q.1))) env (λx s=>R (.error x) s) x s') :
  codeAny B.M (A.mark (Zj (.ref q.1))) (.handlers (.ref q.1) [.ExceptHandler Zk (Zj y) (b₀::bs) pos] env) R s:=by
 have NN:En (A.mark (Zj (.ref q.1))) env sc ρ fr:=⟨N.ok,by(refine b_ X.fs ?_);exact N.apart,N.head⟩
 refine codeAny_handlers_suite_as (bJ S hq Zk λs₃ H_ z_ _ => ?_)
 have F₃:=F.step z_
 have hloc:env.locals∉ρ.fs:=NN.apart _ F₃.loc
 refine dJ H_ F₃ hky (v := .exc) (u := .ref q.1) (by unfold VR;exact⟨q,hq,rfl⟩) hloc λs₄ Po O0 F₄ k₄ => ?_
 have Re:=(X.trans z_.toStep).trans O0
 refine TJ (H.ex (b₀::bs) (C.mark X.fs hq) NN Po F₄ (AM hn hres)) (λfl s' h=>hR _ _ ?_) λe s' h => ?_
 ·obtain⟨p',σ',ρ',h1,h2,h3,h4,h5,h6⟩:=h;exact jT h2 h5 hky (by(refine b_ h3.fs ?_);exact hloc) λs5 S5 T5 F5 _=>hQ _ _ (nR hres hn h1 S5 (Re.trans (h3.trans T5)) hx ⟨λz=>(by cases z),F5⟩ (h6.step T5))
 ·obtain⟨σ',ρ',q',h1,h2,h3,h4,he,l,F',_⟩:=h;have hX:=Re.trans h3
  refine b_ he ?_
  refine dN h2 h4 (((.of C N:Frs A env c_ fr).step hX.fs).mark _) λs5 S5 T5 t5 => ?_
  refine jT S5 (F'.step T5) hky (by(refine b_ h3.fs ?_);exact hloc:env.locals∉ρ'.fs) λs6 S6 T6 F6 k6 => ?_
  exact xk S6 h4 (t5.step k6 (λz=>((S5.I_ q' h4).2 q'.1 (.inl rfl)).1 (z▸F'.loc):q'.1≠env.locals)) _ λs7 S7 T7=>hE _ _ ⟨σ',ρ',q',ma hres h1,S7,hX.trans (T5.toStep.trans (T6.trans T7.toStep)),h4,rfl,_,F6.step T7,λz=>by cases z⟩
theorem sj(H:Sound B I n)(G:Glob B)(Mt:nY B)(C:AC A c_ fr n)(N:En A env sc c_ fr)(hx:c_.x=Zk){nm:Option Tq}{b₀:T9}{bs:List T9}{res:R (Fl×LE)}(hn:res ≠ .no){c:Tc}{k:Int}(hσ:σ.x=Zj (c,k))
  (hres:res=ez sc nm (I.ex (b₀::bs) sc (ag nm le λx=>aR le x .exc) σ)) (hq:ρ.x=Zj q) (hs:List Uk):∀ {s:S9},cx B.T sc hs c=Zj (nm,b₀::bs)->SR B ρ fr σ s->Step B c_ fr s₀ ρ s->Fm B env sc le ρ fr s.heap->
  wpAny B.M A (handleBy (.ref q.1) env hs) (Pw B env sc c_ fr s₀ res) (Ou B env sc le Zn c_ fr s₀ res) s:=by
 have Rf:Frs A env c_ fr := .of C N
 induction hs with
 | nil=>intro s hf;exact nn hf
 | cons h r IH=>
  intro s hf S X F;obtain⟨x,kc,hkx,hg,hcase⟩:=kn hf;have tk (t:Nat):=dR.toks B ρ fr s t
  cases hcase with
  | miss p n body pos eh ht hf'=>
   refine b_ eh ?_
   exact Zb (Yy (jx G Mt N.ok hkx hg ht hσ hq S F λt=>IH hf' (S.tok t) (X.trans (tk t).toStep) (F.step (tk t)))) (by intro z;cases z)
  | hit p pos eh ht Sl=>
   refine b_ eh ?_
   cases nm with
   | none=>exact Zb (Yy (jx G Mt N.ok hkx hg ht hσ hq S F λt=>tV H C N hx hn hres hq (S.tok t) (X.trans (tk t).toStep) (F.step (tk t)) (λ_ _ h=>h) λx s' h=>za (Rf.mark _) h)) (by intro z;cases z)
   | some y=>exact Zb (Yy (jx G Mt N.ok hkx hg ht hσ hq S F λt=>Di H C N hx hn hres (Sl y rfl) hq (S.tok t) (X.trans (tk t).toStep) (F.step (tk t)) (λ_ _ h=>h) (λ_ _ h=>h) λx s' h=>za (Rf.mark _) h)) (by intro z;cases z)
end
end
section
open PySem PySem.W PyProof.Rows PyProof
section
variable{α β:Type}{B:Base}{I:It}{A A₁ A₂:TV}{ρ ρ' M_ c_ dk:e_}{fr fr' OL:List Tc}{σ σ₁:VS}{s s' s'' s₀ s₁:S9}{n:Nat}{E:SX->S9->Prop}{env:WD}{sc h_:Tz}{le le':LE}{it:Tc}{qk:Bool}{q:Tc×Tc}
theorem sD(H:Sound B I n)(G:Glob B)(Mt:nY B)(C:AC A c_ fr n)(N:En A env sc c_ fr)(hx:c_.x=Zk){res:R (Fl×LE)}(hn:res ≠ .no)(S:SR B ρ fr σ s)(hq:ρ.x=Zj q)(X:Step B c_ fr s₀ ρ s)(F:Fm B env sc le ρ fr s.heap){hs:List Uk}
  (hr:res=vk B.T I hs sc le σ):wpAny B.M A (noteFrame (.ref q.1) env) (λ_ s₂=>wpAny B.M A (setFlight (.ref q.1) Zk) (λ_ s₃=>wpAny B.M A (handleBy (.ref q.1) env hs) (Pw B env sc c_ fr s₀ res) (Ou B env sc le Zn c_ fr s₀ res) s₃) (Ou B env sc le Zn c_ fr s₀ res) s₂) (Ou B env sc le Zn c_ fr s₀ res) s:=by
 obtain⟨⟨c,k⟩,hcx,hr1⟩:=aU hr hn;obtain⟨⟨nm,b⟩,hf,hr2⟩:=aU hr1 hn;obtain⟨hb,OV⟩:=hF hr2 hn;have Rf:Frs A env ρ fr:=(Frs.of C N).step X.fs
 cases b with
 | nil=>exact Ti hb
 | cons b₀ bs=>exact dN S hq Rf λs₂ S₂ T₂ t₂=>bJ S₂ hq Zk λs₃ H_ z_ _=>sj H G Mt C N hx hn hcx OV hq hs hf H_ (X.trans (T₂.trans z_).toStep) ((F.step T₂).step z_)
theorem zm(H:Sound B I n)(G:Glob B)(Mt:nY B)(C:AC A ρ fr n)(N:En A env sc ρ fr)(S:SR B ρ fr σ s)(F:Fm B env sc le ρ fr s.heap)(body:List T9)(hs:List Uk)(orelse fin:List T9)(pos:Vw) :
  Px B A env sc le Zn ρ fr s (ER B.T I body hs orelse fin sc le σ) (exec (.Try body hs orelse fin pos) env) := .mk λres hr hn=>by
 obtain⟨hb,hr1⟩:=bv hr hn;obtain⟨b1,hb⟩:=aO hb;obtain⟨b2,hb⟩:=aO hb;refine b_ (bu b1) ?_;refine b_ (bu b2) ?_
 obtain⟨hh,hr2⟩:=hF hr1 hn;obtain⟨hc,OV⟩:=gC hr2 hn;cases hs with
 | nil=>exact Ti hh
 | cons h hs=>
  refine wpAny_Try_except (TJ (H.ex body C N S F λz=>hn (by(refine b_ OV ?_;refine b_ z ?_);rfl)) (λfl s' h => ?_) λe s' h => ?_)
  ·obtain⟨⟨f,le'⟩,σ',ρ',h1,h2,h3,h4,h5,h6⟩:=h;rw[h1]at OV;have fin:Pw B env sc ρ fr s res fl s':=⟨(f,le'),σ',ρ',OV,h2,h3,h4,h5,h6⟩
   cases fl with
   | next=>exact V8 fin
   | _=>exact fin
  ·obtain⟨σ',ρ',q,h1,h2,h3,h4,he,l,F',hl⟩:=h;rw[h1]at OV;have el:=hl ((aO hb).1 :)
   subst el;exact he▸sD H G Mt C N (S.calm hc :) hn h2 h4 h3 F' OV
end
end
section
open PySem PySem.W PyProof.Rows PyProof
def pT(B:Base):Prop:=∀ {c:Tc} {kc:Cl},B.T.cl c=Zj kc->∀ {A:TV} {ρ:e_} {fr:List Tc} {σ:VS} {s:S9} {E:SX->S9->Prop} {Q:Keeper->S9->Prop},SR B ρ fr σ s->(∀ k,Q k s)->wpAny B.M A (keeperOf (.ref c)) Q E s
def pS(B:Base):Prop:=∀ {c:Tc} {kc:Cl} {k:Ek} {vs:List V} {us:List SX} {i:Int},B.T.cl c=Zj kc->kc.exc=Zj k->ua k vs=Zj i->∀ {A:TV} {ρ:e_} {fr:List Tc} {n:Nat} {σ:VS} {s:S9} {E:SX->S9->Prop} {Q:SX->S9->Prop},
 AC A ρ fr n->(∀ b∈fr,b∉ρ.fs)->SR B ρ fr σ s->ρ.x=Zk->k_ B ρ s.heap (aj ρ fr) vs us->
 (∀ s' q,SR B { ρ with x:=Zj q } fr ⟨σ.o,Zj (c,i),σ.cap⟩ s'->dR B ρ fr s { ρ with x:=Zj q } s'->Q (.ref q.1) s')->wpAny B.M A (call (.ref c) us) Q E s
def pN(B:Base):Prop:=∀ {A:TV} {fr:List Tc} {s:S9} {env:WD} {x:Xk SX} {E:SX->S9->Prop} {Q:Flow->S9->Prop},
 wpAny B.M A x (λv s'=>X3 λρ' σ' q=>A5 (v = .ref q.1) (SR B ρ' fr σ' s') (ρ'.x=Zj q) ((A.handled=Zk\/A.handled=Zj (.ref q.1))) (∀ s'',SR B ρ' fr σ' s''->dR B ρ' fr s' ρ' s''->E (.ref q.1) s'')) E s->
 wpAny B.M A (raiseStmt env (Zj x) Zk) Q E s
section
variable{α β:Type}{B:Base}{I:It}{A A₁ A₂:TV}{ρ ρ' M_ c_ dk:e_}{fr fr' OL:List Tc}{σ σ₁:VS}{s s' s'' s₀ s₁:S9}{n:Nat}{E:SX->S9->Prop}{env:WD}{sc h_:Tz}{le le':LE}{it:Tc}{qk:Bool}{q:Tc×Tc}
theorem GR{v:V}(h:Nk v=Zm):v = .exc:=by
 cases v<;>first|rfl|cases h
theorem xN(H:Sound B I n)(G:Glob B)(Ke:pT B)(Mk:pS B)(C:AC A ρ fr n)(N:En A env sc ρ fr)(S:SR B ρ fr σ s)(F:Fm B env sc le ρ fr s.heap){res:R (Fl×LE)}(hn:res ≠ .no){x:Tq}{p cp pos:Vw}{as:List Expr}{v:V}(hv:ea B.T x sc le=Zj v)(hf:bH 20 as=Zm)
  (hr:res=newX B.T I v as sc le σ):wpAny B.M A (do let v <- eval (.Call (.Name x p) as [] cp) env;standAt pos;pure v) (λv s'=>X3 λρ' σ' q=>A5 (v = .ref q.1) (SR B ρ' fr σ' s') (ρ'.x=Zj q) ((A.handled=Zk\/A.handled=Zj (.ref q.1))) (∀ s'',SR B ρ' fr σ' s''->dR B ρ' fr s' ρ' s''->Ou B env sc le Zn ρ fr s res (.ref q.1) s''))
   (Ou B env sc le Zn ρ fr s res) s:=by
 obtain⟨c,hc,hr1⟩:=aU hr hn;obtain⟨k,hk,hr2⟩:=aU hr1 hn;obtain⟨kc,hcl,hkc⟩:=aD hk;refine S8 ?_
 refine b_ (arm_eval_Call_Name' ..) ?_
 refine S8 (i8 G S F N.ok hv p λu rv => ?_)
 rw[wr hc]at rv;unfold VR at rv;refine b_ rv.1 ?_
 refine dP (eN env cp hf).1 ?_
 refine(H.es as cp C N S F).H' (.refl ..) (λ_=>F) hr2 hn λvs σ₂ w_ us s₂ S₂ T₂ o_ x₂ r₂ e₂ => ?_
 obtain⟨hc,e₃⟩:=gC e₂ hn;obtain⟨i,hi,e₄⟩:=aU e₃ hn;have hx:=S₂.calm hc
 refine⟨λQ' q'=>Ke hcl S₂ q',Mk hcl hkc hi (C.to o_ x₂) (N.to o_).apart S₂ hx r₂ λs₃ q H_ z_=>S8 (Um (Tg ?_))⟩
 exact⟨_,_,q,rfl,H_,rfl,.inl (by(refine b_ C.handled ?_;refine b_ (x₂.symm.trans hx) ?_);rfl),λs₄ Po O0=>⟨_,_,q,e₄,Po,T₂.trans (z_.trans O0).toStep,rfl,rfl,le,(F.step o_).step (z_.trans O0),λz=>by cases z⟩⟩
theorem xI(G:Glob B)(C:AC A ρ fr n)(N:En A env sc ρ fr)(S:SR B ρ fr σ s)(F:Fm B env sc le ρ fr s.heap){res:R (Fl×LE)}{x:Tq}{p pos:Vw}(hv:ea B.T x sc le=Zj .exc)
  (hr:res = .exc σ):wpAny B.M A (do let v <- eval (.Name x p) env;standAt pos;pure v) (λv s'=>X3 λρ' σ' q=>A5 (v = .ref q.1) (SR B ρ' fr σ' s') (ρ'.x=Zj q) ((A.handled=Zk\/A.handled=Zj (.ref q.1))) (∀ s'',SR B ρ' fr σ' s''->dR B ρ' fr s' ρ' s''->Ou B env sc le Zn ρ fr s res (.ref q.1) s''))
   (Ou B env sc le Zn ρ fr s res) s:=by
 refine S8 (i8 G S F N.ok hv p λu r=>S8 (Um (Tg ?_)))
 unfold VR at r;obtain⟨q,hq,eu⟩:=r
 exact⟨ρ,σ,q,eu,S,hq,.inr (by(refine b_ C.handled ?_;refine b_ hq ?_);rfl),λs₂ S₂ T₂=>⟨σ,ρ,q,hr,S₂,T₂.toStep,hq,rfl,le,F.step T₂,λz=>by cases z⟩⟩
theorem t8(H:Sound B I n)(G:Glob B)(Ke:pT B)(Mk:pS B)(Th:pN B)(C:AC A ρ fr n)(N:En A env sc ρ fr)(S:SR B ρ fr σ s)(F:Fm B env sc le ρ fr s.heap)(e:Expr)(pos:Vw) :
  Px B A env sc le Zn ρ fr s (kF B.T I e sc le σ) (exec (.Raise (Zj e) Zk pos) env) := .mk λres hr hn=>by
 refine b_ (arm_exec_Raise ..) ?_
 refine S8 (Um ?_)
 refine Th (x:=do let v <- eval e env;standAt pos;pure v) (fr:=fr) ?_
 cases hc:nh e with
 | some p=>
  rw[show kF B.T I e sc le σ=ag (nh e) _ _ from rfl,hc]at hr
  obtain⟨f,as,ks,cp⟩:=p;obtain⟨x,hx,hr1⟩:=aU hr hn;obtain⟨hk,hr2⟩:=bv hr1 hn;obtain⟨hf,OV⟩:=bv hr2 hn;obtain⟨v,hv,PT⟩:=aU OV hn;refine b_ ((DP e).of hc) ?_;refine b_ (bu hk) ?_;refine b_ ((fK f).of hx) ?_
  exact xN H G Ke Mk C N S F hn hv hf PT
 | none=>
  rw[show kF B.T I e sc le σ=ag (nh e) _ _ from rfl,hc]at hr
  obtain⟨x,hx,hr1⟩:=aU hr hn;obtain⟨v,hv,hr2⟩:=aU hr1 hn;obtain⟨hi,OV⟩:=bv hr2 hn;refine b_ ((fK e).of hx) ?_
  exact xI G C N S F (GR hi▸hv) OV
end
end
section
open PySem PySem.W PyProof.Rows PyProof
theorem fQ{p:UW}(h:bL p=Zm):p.posonlyargs=[]/\p.vararg=Zk/\p.kwonlyargs=[]/\p.kwarg=Zk:=by
 obtain⟨h1,h⟩:=jM h;obtain⟨h2,h⟩:=jM h;obtain⟨h3,h4⟩:=jM h
 exact⟨bu h1,Wb.mp h2,bu h3,Wb.mp h4⟩
def Pg(s:S9)(v:SX)(ds:List SX):Prop:=(v = .none/\ds=[])\/X4 λT o items n=>A4 (v = .ref T) (s.heap.get? T=Zj o) (o.data = .seq items n) (items.toList=ds)
theorem Pg.read{s:S9}{v:SX}{ds:List SX}(h:Pg s v ds){M:Ze}{A:TV}{E:SX->S9->Prop}{Q:Option (Array SX)->S9->Prop}(q:∀ r,(r.getD #[]).toList=ds->Q r s):wpAny M A (seqItems? v) Q E s:=by
 rcases h with ⟨rfl,rfl⟩|⟨T,o,items,n,rfl,ho,hd,e⟩
 ·exact Tg (q Zk rfl)
 ·exact wpAny_seqItems ho hd (q (Zj items) e)
section
variable{α:Type}
theorem ik:∀ {xs:List Tq} {us:List α},us.length<=xs.length->∀ x∈xs.take us.length,(Vo x (xs.zip us)).isSome=Zm
 | [],us,h,x,hx=>by simp at hx
 | y::xs,[],h,x,hx=>by simp at hx
 | y::xs,u::us,h,x,hx=>by
  refine b_ Xj ?_;refine b_ Uc ?_
  cases e:x==y with
  | true=>rfl
  | false=>
   rw[Ug,List.take_succ_cons]at hx;rcases Ub.mp hx with rfl|hx
   ·simp at e
   ·exact ik (by simpa using h) x hx
theorem gZ:∀ {xs:List Tq} {us:List α},xs.Nodup->(xs.filterMap λn=>(Vo n (xs.zip us)).map (n,·))=xs.zip us
 | [],us,_=>by simp
 | y::xs,[],_=>by simp
 | y::xs,u::us,h=>by
  (refine b_ (Xj ..) ?_;refine b_ (Yv ..) ?_;try (with_reducible rfl))
  rw[Uc,show(y==y)=Zm by simp]
  simp only[Xz]
  congr 1
  have key:∀ (l:List Tq),y∉l->(l.filterMap λn=>(Vo n ((y,u)::xs.zip us)).map (n,·))=l.filterMap λn=>(Vo n (xs.zip us)).map (n,·):=by
   intro l hl
   induction l with
   | nil=>rfl
   | cons n l ih=>
    refine b_ Yv ?_;refine b_ Yv ?_;refine b_ Uc ?_;refine b_ (show(n==y)=Zn by simpa using λe:n=y=>hl (e▸Uo)) ?_;exact b_ (ih λq=>hl (T8 _ q)) rfl
  exact(key xs ((Vk.mp h).1 :)).trans (gZ (Vk.mp h).2)
theorem qN:∀ {xs:List Tq} {us:List α} {x:Tq},x∉xs->Vo x (xs.zip us)=Zk
 | [],us,x,h=>by simp
 | y::xs,[],x,h=>by simp
 | y::xs,u::us,x,h=>by
  refine b_ Xj ?_;refine b_ Uc ?_;refine b_ (show(x==y)=Zn by simpa using λe:x=y=>h (e▸Uo)) ?_
  exact qN λq=>h (T8 _ q)
end
theorem jG{M:Ze}{A:TV}{s:S9}{E:SX->S9->Prop}:∀ {l:List (Tq×SX)} {sl:List (Tq×SX)} {Q:List (Tq×SX)->S9->Prop} (f:Tq×SX->List (Tq×SX)->Xk (ForInStep (List (Tq×SX))))
  (_:∀ n d sl,f (n,d) sl=if (Vo n sl).isNone=Zm then pure (.yield (sl++[(n,d)])) else pure (.yield sl)),
  (((∀ x∈l,(Vo x.1 sl).isSome=Zm)/\Q sl s)\/((∀ x∈l,Vo x.1 sl=Zk)/\(l.map (·.1)).Nodup/\Q (sl++l) s))->wpAny M A (forIn l sl f) Q E s
 | [],sl,Q,f,hf,h=>by
  refine b_ List.forIn_nil ?_
  rcases h with ⟨_,q⟩|⟨_,_,q⟩
  ·exact Tg q
  ·rw[U8]at q;exact Tg q
 | (n,d)::l,sl,Q,f,hf,h=>by
  refine b_ (XS ..) ?_;refine b_ (hf ..) ?_
  rcases h with ⟨h1,q⟩|⟨h1,h2,q⟩
  ·(refine b_ (if_neg (by have:=h1 (n,d) Uo;rw[Option.isSome_iff_ne_none]at this;simpa using this)) ?_)
   exact S8 (Tg (jG f hf (.inl ⟨λx hx=>h1 x (T8 _ hx),q⟩)))
  ·rw[if_pos (by have:=h1 (n,d) Uo;rw[this];rfl)]
   rw[UJ]at h2;obtain⟨h3,h4⟩:=Vk.mp h2;refine S8 (Tg (jG f hf (.inr ⟨λx hx => ?_,h4,by(refine b_ (Vs ..) ?_);exact q⟩)))
   have hb:=h1 x (T8 _ hx)
   clear q h1 h2
   induction sl with
   | nil=>(refine b_ (XK ..) ?_;refine b_ (Uc ..) ?_;refine b_ (show(x.1==n)=Zn by simpa using (λe=>h3 (e▸Yw (f:=(·.1)) hx):x.1≠n) ..) ?_);rfl
   | cons p sl ih=>
    obtain⟨y,v⟩:=p;refine b_ Wg ?_;refine b_ Uc ?_
    rw[Uc]at hb;cases e:x.1==y with
    | true=>rw[e]at hb;cases hb
    | false=>rw[e]at hb;exact ih hb
theorem sJ{M:Ze}{A:TV}{s:S9}{E:SX->S9->Prop}{l sl z:List (Tq×SX)}{Q:List (Tq×SX)->S9->Prop}{f:Tq×SX->List (Tq×SX)->Xk (ForInStep (List (Tq×SX)))}
  (h:((∀ x∈l,(Vo x.1 sl).isSome=Zm)/\sl=z)\/((∀ x∈l,Vo x.1 sl=Zk)/\(l.map (·.1)).Nodup/\sl++l=z)) (q:Q z s)
  (hf:∀ n d sl,f (n,d) sl=if (Vo n sl).isNone=Zm then pure (.yield (sl++[(n,d)])) else pure (.yield sl)):wpAny M A (forIn l sl f) Q E s:=
 jG f hf (by
  rcases h with ⟨a,rfl⟩|⟨a,b,rfl⟩
  ·exact .inl ⟨a,q⟩
  ·exact .inr ⟨a,b,q⟩)
section
variable{names:List Tq}{us ds ws:List SX}
theorem xS(hw:(us.length=names.length/\ws=us)\/(us.length+ds.length=names.length/\ws=us++ds)):(names.take (names.length - ds.length)).filter (λn=>(Vo n (names.zip us)).isNone)=[]:=by
 rw[List.filter_eq_nil_iff];intro x hx;have Rg:names.length - ds.length<=us.length/\us.length<=names.length:=by
  rcases hw with ⟨h,_⟩|⟨h,_⟩
  ·exact⟨h▸YJ ..,VN h⟩
  ·exact⟨VN (Nat.sub_eq_of_eq_add h.symm),h▸TX ..⟩
 clear hw
 have:x∈names.take us.length:=by
  rw[List.mem_take_iff_getElem]at hx ⊢;obtain⟨i,hi,e⟩:=hx
  exact⟨i,Nat.lt_min.mpr ⟨Ww (Nat.lt_min.mp hi).1 Rg.1,(Nat.lt_min.mp hi).2⟩,e⟩
 have:=ik Rg.2 x this
 rw[Option.isSome_iff_ne_none]at this
 simpa using this
theorem ug(hn:names.Nodup)(hw:(us.length=names.length/\ws=us)\/(us.length+ds.length=names.length/\ws=us++ds)) :
  ((∀ x∈(names.drop (names.length - ds.length)).zip ds,(Vo x.1 (names.zip us)).isSome=Zm)/\names.zip us=names.zip ws) \/
   ((∀ x∈(names.drop (names.length - ds.length)).zip ds,Vo x.1 (names.zip us)=Zk)/\(((names.drop (names.length - ds.length)).zip ds).map (·.1)).Nodup/\names.zip us++(names.drop (names.length - ds.length)).zip ds=names.zip ws):=by
 rcases hw with ⟨hl,rfl⟩|⟨hl,rfl⟩
 ·exact .inl ⟨λx hx=>ik (by exact VN hl) x.1 (by rw[hl,List.take_length];exact W3 (List.of_mem_zip hx).1),rfl⟩
 ·rw[show names.length - ds.length=us.length by exact Eq.symm (Nat.eq_sub_of_add_eq hl)]
  have hz:names.zip us=(names.take us.length).zip us/\names.zip (us++ds)=(names.take us.length).zip us++(names.drop us.length).zip ds:=by
   constructor
   ·conv=>lhs;rw[<- WR us.length names,show us=us++[]by simp,List.zip_append (by simp;lia)]
    simp
   ·conv=>lhs;rw[<- WR us.length names]
    rw[List.zip_append (by simp;lia)]
  rw[<- WR us.length names]at hn;obtain⟨n1,n2,n3⟩:=List.nodup_append.mp hn;rw[hz.1,hz.2];exact .inr ⟨λx hx=>qN λh=>n3 _ h _ (List.of_mem_zip hx).1 rfl,by rw[List.map_fst_zip (by simp;lia)];exact n2,rfl⟩
end
theorem Jl{a n:Nat}{b:Bool}(h:a<=n):decide ((decide (a > n)&&b)=Zm)=Zn:=by(refine b_ (show decide (a > n)=Zn from decide_eq_false (Nat.not_lt.mpr h)) ?_);rfl
theorem Aa{α:Type}{l:List α}(h:l=[]):decide ((!l.isEmpty)=Zm)=Zn:=by(refine b_ h ?_);rfl
theorem ya{s:S9}{nm qn:Tq}{ar:List Arg}{Rh:List (Option Expr)}{Ri:List Expr}{bd:Xg}{sc:Tz}{gl:Tc}{clo:List (Tq×Tc)}{df kd doc pm:SX}{an:Option Tc}{cd ct:SX}{bi:Tc}{us ds ws:List SX}(hd:Pg s df ds)
  (hn:(ar.map (·.arg)).Nodup) (hm:ds.length<=(ar.map (·.arg)).length) (hw:(us.length=(ar.map (·.arg)).length/\ws=us)\/(us.length+ds.length=(ar.map (·.arg)).length/\ws=us++ds)) :
  BindsTo s ⟨nm,qn,⟨[],ar,Zk,[],Rh,Zk,Ri⟩,bd,sc,gl,clo,df,kd,doc,pm,an,cd,ct,bi⟩ ⟨us,[]⟩ ((ar.map (·.arg)).zip ws):=λM A E Q q=>by
 unfold bindArgs;refine S8 (Tg (S8 (hd.read λr hr => ?_)))
 refine b_ hr ?_
 have mn:=xS hw
 have sf:=ug hn hw
 rw[<- (show ds.drop (ds.length - (ar.map (·.arg)).length)=ds by(refine b_ (Nat.sub_eq_zero_of_le hm) ?_);rfl)]at sf mn
 refine wpAny_ite_false (Jl (by rcases hw with ⟨h,_⟩|⟨h,_⟩<;>lia:us.length<=(ar.map (·.arg)).length)) (wpAny_ite_false (Aa mn) (S8 (sJ sf (S8 (Tg (wpAny_ite_false rfl (Tg ?_)))) λ_ _ _=>rfl)))
 show Q ((ar.map (λx:Arg=>x.arg)++[]).filterMap λn=>(Vo n ((ar.map λx:Arg=>x.arg).zip ws)).map (n,·)) s
 refine b_ (U8 ..) ?_;refine b_ (gZ hn ..) ?_
 exact q
theorem eG{s:S9}{fd:YG}(hp:bL fd.params=Zm){names:List Tq}(hnm:fd.params.args.map (·.arg)=names)(hn:names.Nodup){us ds ws:List SX}(hd:Pg s fd.defaults ds)(hm:ds.length<=names.length)
  (hw:(us.length=names.length/\ws=us)\/(us.length+ds.length=names.length/\ws=us++ds)):BindsTo s fd ⟨us,[]⟩ (names.zip ws):=by
 subst hnm;have hc:=λpo ar va ko Rh kw Ri (e:fd.params=⟨po,ar,va,ko,Rh,kw,Ri⟩)=>fQ (e▸hp)
 obtain⟨nm,qn,⟨po,ar,va,ko,Rh,kw,Ri⟩,bd,sc,gl,clo,df,kd,doc,pm,an,cd,ct,bi⟩:=fd;obtain⟨h1,h2,h3,h4⟩:=hc _ _ _ _ _ _ _ rfl;clear hc hp;cases (show po=[]from h1);cases (show va=Zk from h2);cases (show ko=[]from h3);cases (show kw=Zk from h4)
 exact ya hd hn hm hw
end
section
open PySem PySem.W PyProof.Rows PyProof
theorem eJ:∀ l:List Arg,bg l=l.map (·.arg)
 | []=>rfl
 | a::l=>by show a.arg::bg l=_;(refine b_ (eJ l) ?_);rfl
theorem xT(x y:Tq)(l:List Tq):kt x (y::l)=match aw y x with|true=>Zm|false=>kt x l:=by
 show @Uv (λ_=>Bool) (kt x l) Zm (aw y x)=_
 cases aw y x<;>rfl
theorem mj:∀ {l:List Tq} {x:Tq},kt x l=Zn->x∉l
 | [],x,_,h=>by cases h
 | y::l,x,e,h=>by
  rw[xT]at e;cases hs:aw y x with
  | true=>rw[hs]at e;cases e
  | false=>
   rw[hs]at e;rcases Ub.mp h with rfl|h
   ·exact jK hs rfl
   ·exact mj e h
theorem qM(ns:List (Tq×Tp))(x:Tq)(l:List Tq):dE ns (x::l)=ac (kt x l) Zn (match ah ns x with
 | some .local=>dE ns l
 | some .cell=>dE ns l
 | _=>Zn):=rfl
theorem gD{ns:List (Tq×Tp)}:∀ {l:List Tq},dE ns l=Zm->l.Nodup/\∀ x∈l,ah ns x=Zj .local\/ah ns x=Zj .cell
 | [],_=>⟨Xi,λ_ h=>by cases h⟩
 | x::l,h=>by
  rw[qM]at h;cases hm:kt x l with
  | true=>rw[hm]at h;cases h
  | false=>
   rw[hm,fJ]at h;have go:dE ns l=Zm->(ah ns x=Zj Tp.local\/ah ns x=Zj VL)->(x::l).Nodup/\∀ y∈x::l,ah ns y=Zj Tp.local\/ah ns y=Zj VL:=λh hk=>
    by obtain⟨h1,h2⟩:=gD h;exact⟨Vk.mpr ⟨mj hm,h1⟩,λy hy=>by
     rcases Ub.mp hy with rfl|hy
     ·exact hk
     ·exact h2 y hy⟩
   cases hk:ah ns x with
   | none=>rw[hk]at h;cases h
   | some k=>
    rw[hk]at h;cases k with
    | «local»=>exact go h (.inl hk)
    | cell=>exact go h (.inr hk)
    | _=>cases h
theorem eU:∀ (names:List (Tq×Tp)) (n:Nat) (a b:List (Tq×Tc)),cellsFrom n names (a++b)=cellsFrom n names a++b
 | [],_,_,_=>rfl
 | (x,k)::r,n,a,b=>by
  unfold cellsFrom
  split
  ·exact eU r (n+1) ((x,n)::a) b
  ·exact eU r n a b
theorem eY{lo:Nat}:∀ (names:List (Tq×Tp)) (h:Tr) (acc:List (Tq×Tc)),lo<=h.objs.size->(∀ n c,(n,c)∈acc->h.get? c=Zj { cls := .type "cell",data := .cell Zk }/\lo<=c)->
  ∀ n c,(n,c)∈cellsFrom h.objs.size names acc->(pushCells h names).get? c=Zj { cls := .type "cell",data := .cell Zk }/\lo<=c
 | [],h,acc,_,x=>x
 | (name,kind)::r,h,acc,hl,x=>by
  unfold pushCells cellsFrom
  split
  ·have:=eY (lo:=lo) r (h.push { cls := .type "cell",data := .cell Zk }) ((name,h.objs.size)::acc) (by(refine b_ (V2 ..) ?_);exact Nat.le_add_right_of_le hl) λn c hm=>by
    rcases Ub.mp hm with e|hm
    ·cases e;exact⟨Uw _ rfl,hl⟩
    ·exact⟨Tj _ (x n c hm).1,(x n c hm).2⟩
   rwa [V2]at this
  ·exact eY r h acc hl x
theorem eX:∀ (names:List (Tq×Tp)) (n:Nat) (acc:List (Tq×Tc)) (x:Tq) (c:Tc),(x,c)∈cellsFrom n names acc->(x,c)∈acc\/(x,VL)∈names
 | [],_,_,_,_,h => .inl h
 | (y,k)::r,n,acc,x,c,h=>by
  unfold cellsFrom at h
  split at h
  ·rename_i hk
   rcases eX r _ _ x c h with h|h
   ·rcases Ub.mp h with e|h
    ·cases e
     have:k = .cell:=by cases k<;>first|rfl|cases hk
     subst this;exact .inr Uo
    ·exact .inl h
   ·exact .inr (T8 _ h)
  ·rcases eX r _ _ x c h with h|h
   ·exact .inl h
   ·exact .inr (T8 _ h)
theorem eT:∀ (names:List (Tq×Tp)) (n:Nat) (acc:List (Tq×Tc)) (x:Tq),(x,VL)∈names\/(∃ c,acc.lookup x=Zj c)->∃ c,(cellsFrom n names acc).lookup x=Zj c
 | [],_,_,_,h=>by
  rcases h with h|h
  ·cases h
  ·exact h
 | (y,k)::r,n,acc,x,h=>by
  unfold cellsFrom
  split
  ·rename_i hk
   refine eT r _ _ x ?_
   rcases h with h|⟨c,h⟩
   ·rcases Ub.mp h with e|h
    ·cases e;exact .inr ⟨n,by simp [Uc]⟩
    ·exact .inl h
   ·refine .inr ?_
    refine b_ Uc ?_
    cases x==y with
    | true=>exact⟨_,rfl⟩
    | false=>exact⟨c,h⟩
  ·rename_i hk
   refine eT r _ _ x ?_
   rcases h with h|h
   ·rcases Ub.mp h with e|h
    ·cases e;exact absurd rfl hk
    ·exact .inl h
   ·exact .inr h
theorem nB:∀ {l r:LE} {x:Tq},ak (l++r) x=match ak l x with|some v=>Zj v|none=>ak r x
 | [],r,x=>rfl
 | (y,v)::l,r,x=>by
  refine b_ (Wg ..) ?_;refine b_ (aG ..) ?_;refine b_ (aG ..) ?_
  cases aw y x with
  | true=>rfl
  | false=>exact nB
theorem nw:∀ {l:LE} {x:Tq} {v:V},ak l x=Zk->aR l x v=l++[(x,v)]
 | [],x,v,_=>rfl
 | (y,u)::l,x,v,h=>by
  rw[aG]at h;refine b_ (hH ..) ?_
  cases hs:aw y x with
  | true=>rw[hs]at h;cases h
  | false=>rw[hs]at h;show(y,u)::aR l x v=_;(refine b_ (nw h ..) ?_);rfl
section
variable{α β:Type}{B:Base}{I:It}{A A₁ A₂:TV}{ρ ρ' M_ c_ dk:e_}{fr fr' OL:List Tc}{σ σ₁:VS}{s s' s'' s₀ s₁:S9}{n:Nat}{E:SX->S9->Prop}{env:WD}{sc h_:Tz}{le le':LE}{it:Tc}{qk:Bool}{q:Tc×Tc}
theorem qQ(hap:∀ b∈fr,b∉ρ.fs)(f:Tq×SX->PUnit->Xk (ForInStep PUnit))(hf:∀ n v u,f (n,v) u=(do storeName env n v;pure (.yield ⟨⟩))):∀ (l:LE) (us:List SX) {le:LE} {s:S9} {Q:PUnit->S9->Prop},SR B ρ fr σ s->Fm B env sc le ρ fr s.heap->k_ B ρ s.heap (aj ρ fr) (l.map (·.2)) us->(l.map (·.1)).Nodup->
  (∀ x∈l.map (·.1),ak le x=Zk/\(ah sc.names x=Zj .local\/ah sc.names x=Zj .cell))->
  (∀ s',SR B ρ fr σ s'->Step B ρ fr s ρ s'->Fm B env sc (le++l) ρ fr s'.heap->Q ⟨⟩ s')->wpAny B.M A (forIn ((l.map (·.1)).zip us) ⟨⟩ f) Q E s
 | [],us,le,s,Q,S,F,r,_,_,q=>by
  refine b_ List.map_nil ?_;refine b_ List.zip_nil_left ?_;refine b_ List.forIn_nil ?_
  rw[U8]at q;exact Tg (q s S (.refl ..) F)
 | (x,v)::l,us,le,s,Q,S,F,r,hn,hk,q=>by
  have r':k_ B ρ s.heap (aj ρ fr) (v::l.map (·.2)) us:=r
  unfold k_ at r';obtain⟨u,us',rfl,r1,r2⟩:=r';rw[UJ]at hn hk;obtain⟨hn1,hn2⟩:=Vk.mp hn;obtain⟨k1,k2⟩:=hk x Uo;refine b_ (UJ ..) ?_;refine b_ (Xj ..) ?_;refine b_ (XS ..) ?_;refine b_ (hf ..) ?_
  have hb:jR sc x v le=Zj (le++[(x,v)]):=by
   refine A' (nw (v:=v) k1) ?_
   unfold jR;rcases k2 with h|h
   ·(exact b_ h rfl)
   ·(refine b_ h ?_;exact b_ k1 rfl)
  refine S8 (S8 (ly S F hb r1 hap λs₁ S₁ T₁ F₁=>Tg ?_))
  refine qQ hap f hf l us' S₁ F₁ (k_.mono T₁.goes T₁.still _ _ r2) hn2 (λy hy=>⟨?_,(hk y (T8 _ hy)).2⟩) λs₂ S₂ T₂ F₂=>q s₂ S₂ (T₁.trans T₂) (by rw[Vs]at F₂;exact F₂)
  refine b_ nB ?_;refine b_ ((hk y (T8 _ hy)).1) ?_
  show ak ((x,v)::[]) y=Zk
  rw[aG,aV (λe:x=y=>hn1 (by rw[e];exact hy))];rfl
structure P5 (B:Base) (ρ:e_) (fr:List Tc) (s:S9) (ρ':e_) (fr':List Tc) (s':S9):Prop where
 goes:v_ ρ ρ'
 still:Still s.heap (aj ρ fr) s'.heap (aj ρ' fr')
 cells:Cells s.heap s'.heap
 fs:ρ'.fs=fr++ρ.fs
 keep:∀ b,b∈fr\/b∈ρ.fs->∀ o,s.heap.get? b=Zj o->∃ sl,s'.heap.get? b=Zj { o with slots:=sl }
 x:ρ'.x=ρ.x
theorem P5.step(X:P5 B ρ fr s dk fr' s₁)(T:Step B dk fr' s₁ ρ' s')(hx:ρ'.x=dk.x):P5 B ρ fr s ρ' fr' s':=
 ⟨X.goes.trans T.goes,X.still.trans T.still,X.cells.trans T.cells,T.fs.trans X.fs,λb hb o e=>by
  obtain⟨sl,h⟩:=X.keep b hb o e;obtain⟨sl',h'⟩:=T.Pl b (by(refine b_ X.fs ?_);rcases hb with hb|hb;exact W4 _ hb;exact List.mem_append_right _ hb) _ h
  exact⟨sl',h'⟩,hx.trans X.x⟩
noncomputable def e_.back(ρ:e_)(fs:List Tc):e_:={ ρ with fs:=fs }
theorem qe{OS:List Tc}(S:SR B dk fr' σ s₁)(h1:∀ b∈OS,b∈dk.fs)(X:v_ ρ dk)(hst:Still s.heap (aj ρ OS) s₁.heap (aj dk fr'))(hc:Cells s.heap s₁.heap)(hfs:dk.fs=OS++ρ.fs)
  (hk:∀ b,b∈OS\/b∈ρ.fs->∀ o,s.heap.get? b=Zj o->∃ sl,s₁.heap.get? b=Zj { o with slots:=sl }) :
  SR B (dk.back ρ.fs) OS σ s₁/\dR B ρ OS s (dk.back ρ.fs) s₁/\Still s₁.heap (aj dk fr') s₁.heap (aj (dk.back ρ.fs) OS):=by
 obtain⟨S',st⟩:=S.Pn ρ.fs OS (s':=s₁) (λ_ _ e=>e) rfl rfl λb hb => .inl (.inr (by(refine b_ hfs ?_);rcases hb with hb|hb;exact W4 _ hb;exact List.mem_append_right _ hb))
 exact⟨S',⟨⟨⟨X.m,X.x⟩,hst.trans st,hc,rfl,λb hb o e=>hk b (.inr hb) o e⟩,λb hb o e=>hk b (.inl hb) o e⟩,st⟩
end
end
section
open PySem PySem.W PyProof.Rows PyProof
section
variable{prog:VF}{w:V1}{A:TV}{s:S9}{R:Result->S9->Prop}
theorem f4{a:Tc}{args:Args}{o:V3}{fd:YG}{body:List T9}{q:Tq}(hroom:A.depth < recursionLimit)
  (ho:s.heap.get? a=Zj o) (hd:o.data = .func fd) (hco:fd.scope.isCoroutine=Zn) (hgen:fd.scope.isGenerator=Zn) (hbody:fd.body = .stmts body) (hcd:s.heap.CodeRec fd.code q)
  (h:wpAny (model prog w) A.in1 (bindArgs fd args) (λbinds s₁=>
   wpAny (model prog w) A.in1 (newFunctionEnv fd.scope fd.globals fd.closure binds (q++".<locals>.") (Zj a) fd.code Zk fd.builtins)
    (λenv s₂=>s₂.heap.NoLimit/\codeAny (model prog w) A (.func body env) R s₂) (λe s'=>R (.error e) s') s₁) (λe s'=>R (.error e) s') s) :
  codeAny (model prog w) A (.call (.ref a) args) R s:=by
 refine codeAny_of_tree ?_
 show wpAny _ A.in1 (callAny (.ref a) args) _ _ s
 unfold callAny;refine S8 (Yo ho ?_)
 obtain⟨c,oc,vs,tq,hc,hoc,hdc,hq⟩:=hcd;rw[hc]at h
 simp only[hd,callFunction,hco,hgen,hbody,hc]
 refine S8 (m:=field (.ref c) 1) (Vg hoc hdc hq (S8 (Tg ?_)))
 refine S8 (TJ h (λbinds s₁ h₁=>S8 (TJ h₁ (λenv s₂ h₂ => ?_) λ_ _ x=>x)) λ_ _ x=>x)
 exact S8 (wpAny_enterFrame h₂.1 hroom (Tg ⟨rfl,h₂.2⟩))
end
section
variable{α β:Type}{B:Base}{I:It}{A A₁ A₂:TV}{ρ ρ' M_ c_ dk:e_}{fr fr' OL:List Tc}{σ σ₁:VS}{s s' s'' s₀ s₁:S9}{n:Nat}{E:SX->S9->Prop}{env:WD}{sc h_:Tz}{le le':LE}{it:Tc}{qk:Bool}{q:Tc×Tc}
theorem Bf(S:SR B ρ fr σ s)(ho:dm sc=Zm){cap l:LE}{closure:List (Tq×Tc)}{qual:Tq}{func:Option Tc}{code:SX}{us:List SX}
  (hfree:∀ x v,ak cap x=Zj v->ah sc.names x=Zj .free)
  (hcap:∀ x v,ak cap x=Zj v->X3 λc oc rv=>A5 (closure.lookup x=Zj c) (s.heap.get? c=Zj oc) (oc.cls = .type "cell") (oc.data = .cell (Zj rv)) (VR B ρ s.heap (aj ρ fr) v rv))
  (P6:∀ x c,closure.lookup x=Zj c->∃ v,ak cap x=Zj v) (hclo:∀ x y c,closure.lookup x=Zj c->closure.lookup y=Zj c->x=y)
  (hnest:dz sc=Zm->X2 λc P=>code = .ref c/\td B c P)
  (r:k_ B ρ s.heap (aj ρ fr) (l.map (·.2)) us) (hnd:(l.map (·.1)).Nodup) (hk:∀ x∈l.map (·.1),ah sc.names x=Zj .local\/ah sc.names x=Zj .cell) {Q:WD->S9->Prop}
  (k:∀ env ρ' fr' s' L,env.scope=sc->env.frame=Zj L->L∈fr'->SR B ρ' fr' σ s'->Fm B env sc (cap++l) ρ' fr' s'.heap->P5 B ρ fr s ρ' fr' s'->(∀ b∈fr',b∉ρ'.fs)->Q env s') :
  wpAny B.M A (newFunctionEnv sc mainGlobals closure ((l.map (·.1)).zip us) qual func code Zk builtinsNs) Q E s:=by
 obtain⟨o1,o2,o3,o4⟩:=eK ho
 simp only[newFunctionEnv,Option.isSome_none,Wv,if_false]
 refine S8 (wpAny_alloc ?_)
 refine S8 (wpAny_layCells _ (λname kind cells=>by cases hkc:kind==VL<;>simp [hkc]) _ _ _ _ ?_)
 rw[show({ s with heap:=s.heap.push { cls := .type "frame",data := .dict #[] } }:S9).heap.objs.size=s.heap.objs.size+1 from V2 ..]
 have Sm:cellsFrom (s.heap.objs.size+1) sc.names closure=cellsFrom (s.heap.objs.size+1) sc.names []++closure:=eU sc.names _ [] closure
 refine b_ Sm ?_
 have hsz:(s.heap.push { cls := .type "frame",data := .dict #[] }).objs.size=s.heap.objs.size+1:=V2 ..
 have hnew:∀ x c,(x,c)∈cellsFrom (s.heap.objs.size+1) sc.names []->(pushCells (s.heap.push { cls := .type "frame",data := .dict #[] }) sc.names).get? c=Zj { cls := .type "cell",data := .cell Zk }/\s.heap.objs.size+1<=c:=by
  have:=eY (lo:=s.heap.objs.size+1) sc.names (s.heap.push { cls := .type "frame",data := .dict #[] }) [] (by(refine b_ hsz ?_);exact UG _) (λ_ _ h=>by cases h)
  rwa [hsz]at this
 have Qx:(cellsFrom (s.heap.objs.size+1) sc.names []).Pairwise λx y=>x.2≠y.2:=by
  have:=(cellsFrom_ok sc.names (s.heap.push { cls := .type "frame",data := .dict #[] }) (s.heap.objs.size+1) [] ⟨λ_ _ hm=>(nomatch hm),List.Pairwise.nil⟩ (by(refine b_ hsz ?_);exact UG _)).apart
  rwa [hsz]at this
 have hmem:∀ x c,(x,c)∈cellsFrom (s.heap.objs.size+1) sc.names []->(x,VL)∈sc.names:=λx c h=>by
  rcases eX _ _ _ _ _ h with h|h
  ·cases h
  ·exact h
 have hhas:∀ x,(x,VL)∈sc.names->∃ c,(cellsFrom (s.heap.objs.size+1) sc.names []).lookup x=Zj c:=λx h=>eT _ _ _ _ (.inl h)
 generalize hown:cellsFrom (s.heap.objs.size+1) sc.names []=own at hnew Qx hmem hhas ⊢
 have hkeep:∀ b o,s.heap.get? b=Zj o->(pushCells (s.heap.push { cls := .type "frame",data := .dict #[] }) sc.names).get? b=Zj o:=λb o e=>pushCells_keeps _ _ b o (Tj _ e)
 have hL:(pushCells (s.heap.push { cls := .type "frame",data := .dict #[] }) sc.names).get? s.heap.objs.size=Zj { cls := .type "frame",data := .dict #[] }:=pushCells_keeps _ _ _ _ (Uw _ rfl)
 have hns:(pushCells (s.heap.push { cls := .type "frame",data := .dict #[] }) sc.names).Ns s.heap.objs.size λ_=>Zk:=(Tr.Ns.new s.heap (.type "frame")).keeps (pushCells_keeps _ _)
 generalize hh₁:pushCells (s.heap.push { cls := .type "frame",data := .dict #[] }) sc.names=h₁ at hnew hkeep hL hns ⊢
 have hfr:∀ b∈s.heap.objs.size::own.map (·.2),s.heap.get? b=Zk/\∃ o,h₁.get? b=Zj o/\∀ vs,o.data ≠ .fields vs:=λb hb=>by
  rcases Ub.mp hb with rfl|hb
  ·exact⟨U6 (UG _),_,hL,λvs h=>by cases h⟩
  ·obtain⟨⟨x,c⟩,hm,rfl⟩:=Xd.mp hb;obtain⟨h1,h2⟩:=hnew x c hm
   exact⟨U6 (Te (Xn _) h2),_,h1,λvs h=>by cases h⟩
 obtain⟨S₁,Rj⟩:=S.Pn (s':={ s with heap:=h₁ }) (fr++ρ.fs) (s.heap.objs.size::own.map (·.2)) hkeep rfl rfl λb hb=>by
  rcases hb with hb|hb
  ·exact .inr (hfr b hb)
  ·rcases Ws.mp hb with hb|hb
   ·exact .inl (.inl hb)
   ·exact .inl (.inr hb)
 have hap':∀ b∈s.heap.objs.size::own.map (·.2),b∉fr++ρ.fs:=λb hb h=>by
  obtain⟨_,o,ho,_⟩:=S.frB b (Ws.mp h);rw[(hfr b hb).1]at ho;cases ho
 have X:P5 B ρ fr s { ρ with fs:=fr++ρ.fs } (s.heap.objs.size::own.map (·.2)) { s with heap:=h₁ }:=
  ⟨⟨λ_ _ h => .inl h,λ_ h=>h⟩,Rj,⟨⟨λb o v e _ _=>⟨o,hkeep b o e,rfl,rfl⟩⟩,λb o ts e _ _=>hkeep b o e⟩,rfl,λb _ o e=>⟨o.slots,hkeep b o e⟩,rfl⟩
 have look:∀ x c,(own++closure).lookup x=Zj c->own.lookup x=Zj c\/((∀ c',own.lookup x≠Zj c')/\closure.lookup x=Zj c):=λx c h=>by
  have key:∀ l:List (Tq×Tc),(l++closure).lookup x=Zj c->l.lookup x=Zj c\/((∀ c',l.lookup x≠Zj c')/\closure.lookup x=Zj c):=λl=>by
   induction l with
   | nil=>exact λh => .inr ⟨λc' h=>(by cases h),h⟩
   | cons p l ih=>
    obtain⟨y,d⟩:=p;refine b_ Wg ?_;refine b_ Uc ?_;refine b_ Uc ?_
    cases x==y with
    | true=>exact .inl
    | false=>exact ih
  exact key own h
 have Rk:∀ x c,own.lookup x=Zj c->(own++closure).lookup x=Zj c:=λx c h=>by
  have key:∀ l:List (Tq×Tc),l.lookup x=Zj c->(l++closure).lookup x=Zj c:=λl=>by
   induction l with
   | nil=>exact λh=>by cases h
   | cons p l ih=>
    obtain⟨y,d⟩:=p;refine b_ Wg ?_;refine b_ Uc ?_;refine b_ Uc ?_
    cases x==y with
    | true=>exact id
    | false=>exact ih
  exact key own h
 have Rl:∀ x,(∀ c,own.lookup x≠Zj c)->(own++closure).lookup x=closure.lookup x:=λx h=>by
  have key:∀ l:List (Tq×Tc),(∀ c,l.lookup x≠Zj c)->(l++closure).lookup x=closure.lookup x:=λl=>by
   induction l with
   | nil=>exact λ_=>rfl
   | cons p l ih=>
    obtain⟨y,d⟩:=p;intro h;rw[Uc]at h;refine b_ Wg ?_;refine b_ Uc ?_
    cases he:x==y with
    | true=>rw[he]at h;exact absurd rfl (h d)
    | false=>rw[he]at h;exact ih h
  exact key own h
 have noOwn:∀ x,ah sc.names x=Zj .free->∀ c,own.lookup x≠Zj c:=λx hx c h=>by
  have:=fG o4 (hmem x c (mem_of_lookup h))
  rw[hx]at this;cases this
 have P7:∀ x c,closure.lookup x=Zj c->c < s.heap.objs.size:=λx c h=>by
  obtain⟨v,hv⟩:=P6 x c h;obtain⟨c',oc,rv,h1,h2,_⟩:=hcap x v hv;rw[h]at h1;cases h1;exact Vr h2
 have F₁:Fm B (newEnv sc s.heap.objs.size mainGlobals (own++closure) qual func code Zk builtinsNs) sc cap { ρ with fs:=fr++ρ.fs } (s.heap.objs.size::own.map (·.2)) h₁:=by
  refine⟨o1,rfl,rfl,λx k h => .inl ((cZ _ _).symm.trans h),Uo,⟨_,hns,λx v hx hkx => ?_⟩,λx v hx _ => ?_,λx hx hkx => ?_,λx y c hx hy => ?_,hnest⟩
  ·rw[hfree x v hx]at hkx;cases hkx
  ·obtain⟨c,oc,rv,h1,h2,h3,h4,h5⟩:=hcap x v hx
   exact⟨c,oc,rv,(Rl x (noOwn x (hfree x v hx))).trans h1,hkeep _ _ h2,h3,h4,h5.mono X.goes X.still⟩
  ·obtain⟨c,hc⟩:=hhas x (cr hkx);obtain⟨h1,h2⟩:=hnew x c (mem_of_lookup hc)
   exact⟨c,_,Rk x c hc,h1,rfl,rfl,T8 _ (Yw (f:=(·.2)) (mem_of_lookup hc)),λe=>by
    exact absurd ((e:c=s.heap.objs.size)▸h2) (Nat.not_succ_le_self _)⟩
  ·rcases look x c hx with h|⟨_,h⟩<;>rcases look y c hy with h'|⟨_,h'⟩
   ·exact name_of_addr Qx (mem_of_lookup h) (mem_of_lookup h')
   ·exact absurd (hnew x c (mem_of_lookup h)).2 (Nat.lt_asymm (P7 y c h'))
   ·exact absurd (hnew y c (mem_of_lookup h')).2 (Nat.lt_asymm (P7 x c h))
   ·exact hclo x y c h h'
 refine S8 (qQ (B:=B) (env:=newEnv sc s.heap.objs.size mainGlobals (own++closure) qual func code Zk builtinsNs) (ρ:={ ρ with fs:=fr++ρ.fs }) (fr:=s.heap.objs.size::own.map (·.2)) (s:={ s with heap:=h₁ }) hap' _ (λ_ _ _=>rfl) l us S₁ F₁ (k_.mono X.goes X.still _ _ r) hnd (λx hx=>⟨?_,hk x hx⟩) λs₂ S₂ T₂ F₂=>Tg ?_)
 ·cases hc:ak cap x with
  | none=>rfl
  | some v=>have:=hfree x v hc;rcases hk x hx with h|h<;>(rw[h]at this;cases this)
 ·exact k _ _ _ s₂ s.heap.objs.size rfl rfl Uo S₂ F₂ (X.step T₂ rfl) hap'
theorem uP(H:Sound B I n)(hlim:B.h₀.NoLimit)(C:AC A ρ fr (n+1))(S:SR B ρ fr σ s){a:Tc}{o:V3}{fd:YG}{body:List T9}{cap l:LE}{us ws:List SX}
  (hga:s.heap.get? a=Zj o) (hd:o.data = .func fd) (hcd:∃ q,s.heap.CodeRec fd.code q) (hbody:fd.body = .stmts body) (hsc:fd.scope=sc) (hg:fd.globals=mainGlobals) (hb:fd.builtins=builtinsNs)
  (hbind:BindsTo s fd ⟨us,[]⟩ ((l.map (·.1)).zip ws)) (ho:dm sc=Zm)
  (hfree:∀ x v,ak cap x=Zj v->ah sc.names x=Zj .free)
  (hcap:∀ x v,ak cap x=Zj v->X3 λc oc rv=>A5 (fd.closure.lookup x=Zj c) (s.heap.get? c=Zj oc) (oc.cls = .type "cell") (oc.data = .cell (Zj rv)) (VR B ρ s.heap (aj ρ fr) v rv))
  (P6:∀ x c,fd.closure.lookup x=Zj c->∃ v,ak cap x=Zj v) (hclo:∀ x y c,fd.closure.lookup x=Zj c->fd.closure.lookup y=Zj c->x=y)
  (hnest:dz sc=Zm->X2 λc P=>fd.code = .ref c/\td B c P)
  (r:k_ B ρ s.heap (aj ρ fr) (l.map (·.2)) ws) (hnd:(l.map (·.1)).Nodup) (hk:∀ x∈l.map (·.1),ah sc.names x=Zj .local\/ah sc.names x=Zj .cell) :
  Wp B A ρ fr s (cD I body sc (cap++l) σ) (call (.ref a) us) (aM B fr):=by
 refine Wp.of λhn => ?_
 obtain⟨o1,o2,o3,o4⟩:=eK ho;subst hsc;obtain⟨qn,hcd⟩:=hcd;have RM:=C.depth
 refine wpAny_call (f4 (by show A.depth < 1000;lia) hga hd o3 o2 hbody hcd (hbind _ _ _ _ ?_))
 refine b_ hg ?_;refine b_ hb ?_
 refine Bf S ho hfree hcap P6 hclo hnest r hnd hk λenv dk PK s₁ L hes hef hL S₁ F₁ X₁ QH=>⟨?_,codeAny_func ?_⟩
 ·exact hlim.at λo e=>S₁.base.stat o e
 obtain⟨fl,hfl,hfr⟩:=C.frames;have CC:AC (A.deeper env) dk PK n:=by
  refine⟨⟨env::fl,by show A.frames.map _=_;(refine b_ hfl ?_);rfl,λe he => ?_⟩,by show A.depth+1+n<=500;lia,?_,C.guards,by(refine b_ X₁.x ?_);exact C.handled⟩
  ·rcases Ub.mp he with rfl|he
   ·exact⟨by(refine b_ hes ?_;refine b_ o1 ?_);simp,L,hef,.inl hL⟩
   ·obtain⟨h1,L',h2,h3⟩:=hfr e he
    exact⟨h1,L',h2,.inr (by(refine b_ X₁.fs ?_);exact Ws.mpr h3)⟩
  ·show A.units+3+8*n<=8000
   have:=C.units;lia
 have NN:En (A.deeper env) env fd.scope dk PK:=⟨o4,QH,env,fl,L,by show A.frames.map _=_;(refine b_ hfl ?_);rfl,rfl,hef,hL⟩
 have hn1:I.ex body fd.scope (cap++l) σ ≠ .no:=λz=>hn (by unfold cD;(refine b_ z ?_);rfl)
 refine TJ (H.ex body CC NN S₁ F₁ hn1) (λf s₂ h => ?_) λe s₂ h => ?_
 ·obtain⟨⟨vf,le'⟩,σ₂,w_,h1,h2,h3,h4,h5,h6⟩:=h;have hres:cD I body fd.scope (cap++l) σ=br (len σ.o) (vf,le') σ₂:=by unfold cD;(refine b_ h1 ?_);rfl
  have O_:=X₁.step h3 h4
  obtain⟨H_,z_,Rm⟩:=qe (OS:=fr) h2 (λb hb=>by(refine b_ O_.fs ?_);exact W4 _ hb) O_.goes O_.still O_.cells O_.fs O_.keep
  have fin:∀ {v:V} {u:SX},VR B w_ s₂.heap (aj w_ PK) v u->br (len σ.o) (vf,le') σ₂=cz (len σ.o) v σ₂->QP B ρ fr s (cD I body fd.scope (cap++l) σ) (aM B fr) u s₂:=λ{v u} rv e=>by
   obtain⟨v',σ',ρ',g1,g2,g3,g4,g5⟩:=mx H_ z_ (by(refine b_ (aJ ..) ?_);exact S.len:ρ.m.length=len σ.o) (VR.mono (show v_ w_ (w_.back ρ.fs) from⟨λ_ _ h => .inl h,λ_ h=>h⟩) Rm _ _ rv:VR B (w_.back ρ.fs) s₂.heap (aj (w_.back ρ.fs) fr) v u)
   exact⟨v',σ',ρ',by(refine b_ hres ?_;refine b_ e ?_;exact b_ g1 rfl),g2,g3,g4.trans O_.x,g5⟩
  cases vf with
  | ret v=>
   obtain⟨u,rfl,rv⟩:=h6;exact fin rv rfl
  | next=>
   have:f = .next:=h6
   subst this;exact fin (v := .d .none) (u := .none) (M'.mpr rfl) rfl
  | brk=>exact absurd hres hn
  | cont=>exact absurd hres hn
 ·obtain⟨σ₂,w_,q,h1,h2,h3,h4,rfl,_⟩:=h;refine tU h2 h4 ((.of CC NN:Frs (A.deeper env) env dk PK).step h3.fs) λs₃ H_ z_ _ => ?_
  have T:=h3.trans z_.toStep
  have hfs:w_.fs=fr++ρ.fs:=T.fs.trans X₁.fs
  obtain⟨Po,O0,st₄⟩:=qe (OS:=fr) H_ (λb hb=>by(refine b_ hfs ?_);exact W4 _ hb) (X₁.goes.trans T.goes:v_ ρ w_) (X₁.still.trans T.still) (X₁.cells.trans T.cells) hfs λb hb o e=>by
   obtain⟨sl,h⟩:=X₁.keep b hb o e;obtain⟨sl',h'⟩:=T.Pl b (by(refine b_ X₁.fs ?_);exact Ws.mpr hb) _ h
   exact⟨sl',h'⟩
  exact⟨σ₂,_,q,(by unfold cD;(refine b_ h1 ?_);rfl:cD I body fd.scope (cap++l) σ = .exc σ₂),Po,O0,h4,rfl⟩
end
end
section
open PySem PySem.W PyProof.Rows PyProof
def Rq(B:Base)(v:SX)(ds:List V):Prop:=(v = .none/\ds=[])\/X5 λT o items n xs=>A6 (v = .ref T) (B.h₀.get? T=Zj o) (o.cls = .type "tuple") (o.data = .seq items n) (ds=fL xs) (PRs B B.h₀ (λ_=>False) xs items.toList)
structure PD (B:Base) (a:Tc) (fn:Fn):Prop where
 ex:X2 λo fd=>A7 (B.h₀.get? a=Zj o) (o.cls = .type "function") (o.data = .func fd) (Ot B.h₀ (λ_=>False) fd.code) (bL fd.params=Zm) (bg fd.params.args=fn.params) (A7 (fd.body = .stmts fn.body) (fd.scope=fn.scope) (fd.globals=mainGlobals) (fd.builtins=builtinsNs) (fd.closure=[]) ((dz fn.scope=Zm->X2 λc P=>fd.code = .ref c/\td B c P)) (Rq B fd.defaults fn.Pd))
 scope:dm fn.scope=Zm
 QZ:dE fn.scope.names fn.params=Zm
 few:fn.Pd.length<=fn.params.length
def Iv(B:Base):Prop:=∀ a fn,B.T.fn a=Zj fn->PD B a fn
def sM(B:Base)(Sp:eR)(N:Nat):Prop:=∀ {a:Tc} {sp:List V->VS->R V},Sp a=Zj sp->(∃ fn,B.T.fn a=Zj fn)/\∀ {A ρ fr σ s} {as:List V} {us:List SX},AC A ρ fr N->(∀ b∈fr,b∉ρ.fs)->SR B ρ fr σ s->k_ B ρ s.heap (aj ρ fr) as us->Wp B A ρ fr s (sp as σ) (call (.ref a) us) (aM B fr)
theorem kJ{xs:List Tq}:∀ {vs:List V} {le:LE},pu xs vs=Zj le->le.map (·.1)=xs/\le.map (·.2)=vs:=by
 induction xs with
 | nil=>
  intro vs le h;obtain⟨h1,h⟩:=cQ h;refine b_ (bu h1) ?_;refine A' (Tf h) ?_
  exact⟨rfl,rfl⟩
 | cons x xs IH=>
  intro vs le h;obtain⟨p,hp,h⟩:=aD h;obtain⟨l,hl,h⟩:=aD h;obtain⟨h1,h2⟩:=IH hl;refine b_ (iX hp) ?_;refine A' (Tf h) ?_;refine A' h1 ?_;refine A' h2 ?_
  exact⟨rfl,rfl⟩
theorem qX{xs:List Tq}{vs:List V}{le:LE}(h:pu xs vs=Zj le):vs.length=xs.length:=by
 obtain⟨h1,h2⟩:=kJ h;refine A' (h1 ..) ?_;refine A' (h2 ..) ?_;refine b_ (Vl ..) ?_;exact b_ (Vl ..) rfl
section
variable{B:Base}{ρ:e_}{fr:List Tc}{σ:VS}{s:S9}{h:Tr}{ow:Tc->Prop}
theorem wj:∀ {xs:List SQ} {us:List SX},PRs B h ow xs us->k_ B ρ h ow (fL xs) us
 | [],us,r=>by unfold PRs at r;unfold fL k_;exact r
 | x::xs,us,r=>by
  unfold PRs at r;obtain⟨u,us',rfl,h1,h2⟩:=r;unfold fL k_
  exact⟨u,us',rfl,by unfold VR;exact h1,wj h2⟩
theorem Rq.now{v:SX}{ds:List V}(D:Rq B v ds)(S:SR B ρ fr σ s):∃ ws,Pg s v ws/\k_ B ρ s.heap (aj ρ fr) ds ws:=by
 rcases D with ⟨rfl,rfl⟩|⟨T,o,items,n,xs,rfl,ho,hc,hd,rfl,hr⟩
 ·exact⟨[],.inl ⟨rfl,rfl⟩,by unfold k_;rfl⟩
 ·exact⟨items.toList,.inr ⟨T,o,items,n,rfl,S.O2 ho (by(refine b_ hc ?_);simp),hd,rfl⟩,wj (PRs.mono S.PB _ _ hr)⟩
theorem Ot.rec'{h:Tr}{ow:Tc->Prop}{cd:SX}(r:Ot h ow cd):∃ q,h.CodeRec cd q:=by obtain⟨q,hq⟩:=r;exact⟨q,hq.rec'⟩
end
section
variable{α β:Type}{B:Base}{I:It}{A A₁ A₂:TV}{ρ ρ' M_ c_ dk:e_}{fr fr' OL:List Tc}{σ σ₁:VS}{s s' s'' s₀ s₁:S9}{n:Nat}{E:SX->S9->Prop}{env:WD}{sc h_:Tz}{le le':LE}{it:Tc}{qk:Bool}{q:Tc×Tc}
theorem wW(H:Sound B I n)(Fa:Facts B)(C:AC A ρ fr (n+1))(S:SR B ρ fr σ s){a:Tc}{fn:Fn}(X:PD B a fn){as:List V}{us:List SX}(r:k_ B ρ s.heap (aj ρ fr) as us) :
  Wp B A ρ fr s (gr I fn as σ) (call (.ref a) us) (aM B fr):=by
 obtain⟨⟨o,fd,ho,hc,hd,hcd,hpa,hnm,hbody,hsc,hg,hb,hcl,hnest,hdf⟩,h1,h2,h3⟩:=X;have ho':=S.O2 ho (by(refine b_ hc ?_);simp)
 obtain⟨p1,p2⟩:=gD h2;obtain⟨ds,d1,d2⟩:=hdf.now S;have hdl:ds.length=fn.Pd.length:=cn d2
 have Sn:us.length=as.length:=cn r
 have hnm':fd.params.args.map (·.arg)=fn.params:=by(refine A' (eJ ..) ?_);exact hnm
 have go:∀ {l:LE} {ws:List SX},l.map (·.1)=fn.params->k_ B ρ s.heap (aj ρ fr) (l.map (·.2)) ws->BindsTo s fd ⟨us,[]⟩ (fn.params.zip ws)->Wp B A ρ fr s (cD I fn.body fn.scope l σ) (call (.ref a) us) (aM B fr):=λ{l ws} e1 e2 e3=>
  uP (cap:=[]) H Fa.lim C S ho' hd ((hcd.mono S.PB).rec' :) hbody hsc hg hb (by(refine b_ e1 ?_);exact e3) h1 (λx v h=>by cases h) (λx v h=>by cases h) (λx c h=>by rw[hcl]at h;cases h) (λx y c h=>by rw[hcl]at h;cases h) hnest e2 (by(refine b_ e1 ?_);exact p1) (by(refine b_ e1 ?_);exact p2)
 show Wp B A ρ fr s (ag (pu fn.params as) _ _) _ _
 cases hz:pu fn.params as with
 | some le=>
  obtain⟨z1,z2⟩:=kJ hz;exact go z1 (by(refine b_ z2 ?_);exact r) (eG hpa hnm' p1 d1 (by exact le_of_eq_of_le hdl h3) (.inl ⟨Sn.trans (qX hz),rfl⟩))
 | none=>
  refine au λle hz => ?_
  obtain⟨z1,z2⟩:=kJ hz;have e2:=qX hz
  rw[Ut]at e2;exact go z1 (by(refine b_ z2 ?_);exact fD r d2) (eG hpa hnm' p1 d1 (by exact le_of_eq_of_le hdl h3) (.inr ⟨by lia,rfl⟩))
theorem rM{i:Nat}{p:UW×List T9×Tz×LE}(h:Fw σ i=Zj p):σ.get i=Zj (.clo p.1 p.2.1 p.2.2.1 p.2.2.2):=by
 obtain⟨o,ho,h⟩:=aD h;cases o with
 | clo a b sc cap=>cases h;exact ho
 | _=>exact nn h
theorem tG(H:Sound B I n)(Fa:Facts B)(C:AC A ρ fr (n+1))(S:SR B ρ fr σ s){i:Nat}{u:SX}(ru:VR B ρ s.heap (aj ρ fr) (.ref i) u){as:List V}{us:List SX}(r:k_ B ρ s.heap (aj ρ fr) as us) :
  Wp B A ρ fr s (pH I i as σ) (call u us) (aM B fr):=au λ⟨a,b,sc,cap⟩ hc=>by
 obtain⟨p,hp,ro⟩:=S.at (rM hc) (λh=>by cases h)
 refine b_ (aH hp ru) ?_
 obtain⟨_,o,fd,ho,hc,hd,hcd,⟨m1,m2,m3,m4,m5,m6,m7,K⟩,hv⟩:=ro;refine au λl hz => ?_
 obtain⟨z1,z2⟩:=kJ hz;obtain⟨n1,n2⟩:=fO K.ok;obtain⟨p1,p2⟩:=gD K.QZ;exact uP (cap:=cap) (ws:=us) H Fa.lim C S ho hd hcd.rec' m2 m3 m4 m5 (by(refine b_ (z1 ..) ?_;try (with_reducible rfl));exact eG (ds:=[]) (by(refine b_ (m1 ..) ?_;try (with_reducible rfl));exact K.args) (by(refine b_ (m1 ..) ?_;refine A' (eJ ..) ?_;try (with_reducible rfl))) p1 (.inl ⟨m6,rfl⟩) (U4 _) (.inl ⟨((cn r).trans ((by(refine A' (z2 ..) ?_;refine b_ (Vl ..) ?_;try (with_reducible rfl)):as.length=l.length).trans (by(refine A' (z1 ..) ?_;refine b_ (Vl ..) ?_;try (with_reducible rfl)))):us.length=(bg a.args).length),rfl⟩)) n2 K.free hv K.only K.apart (λh=>by rw[n1]at h;cases h) (by(refine b_ (z2 ..) ?_;try (with_reducible rfl));exact r) (by(refine b_ (z1 ..) ?_;try (with_reducible rfl));exact p1) (by(refine b_ (z1 ..) ?_;try (with_reducible rfl));exact p2)
theorem AC.make(C:AC A ρ fr (n+1))(c:Tc)(us:List SX):AC (A.under (.builtin "type.__call__" ⟨.ref c::us,[]⟩)) ρ fr n:=by
 have g:(Y4 "type.__call__" ⟨.ref c::us,[]⟩).guards=[]:=by
  unfold Code.guards;rw[if_neg]
  show ¬ (guardIds.contains "type.__call__"=Zm)
  decide
 refine⟨?_,?_,?_,?_,C.handled⟩
 ·obtain⟨l,h,r⟩:=C.frames
  exact⟨l,by show pushEnvs [] A.frames=_;exact h,r⟩
 ·have w:(Y4 "type.__call__" ⟨.ref c::us,[]⟩).weight=1:=rfl
  show A.depth+_+n<=500
  refine b_ w ?_
  have:=C.depth;lia
 ·show A.units+1+8*n<=8000
  have:=C.units;lia
 ·show pushGuards (Y4 "type.__call__" ⟨.ref c::us,[]⟩).guards A.guards=Zj []
  (refine b_ g ?_);exact C.guards
theorem xz(H:Sound B I n)(Fa:Facts B)(C:AC A ρ fr (n+1))(hap:∀ b∈fr,b∉ρ.fs)(S:SR B ρ fr σ s){c:Tc}{kc:Cl}(hcl:B.T.cl c=Zj kc){as:List V}{us:List SX}(r:k_ B ρ s.heap (aj ρ fr) as us) :
  Wp B A ρ fr s (oA I c kc as σ) (call (.ref c) us) (aM B fr):=aF λhex=>au λf hf => .of λhn=>by
 obtain⟨N,mN,X,hN,g1,g2,g3,g4,g5,g6⟩:=(Fa.cls c _ hcl hex).ex;obtain⟨i1,of,fdf,i2,i3,i4⟩:=g6 f hf;have X':=gL S X hN
 obtain⟨nm,q',bs,sn,sub,col,dd,k0,k1,k2,k3,k5,hC⟩:=X'.obj;have hf':=S.O2 i2 (by(refine b_ i3 ?_);simp)
 have hns:=X'.ns
 obtain⟨hp,g,d,tk,os⟩:=s;refine wpAny_call_obj_init PySem.F.objNew hC hns i1 hf' i3 λh' x dx hm => ?_
 obtain⟨o,ho,hoc,hnc,hd⟩:=hm.inst;have hd':dx≠x/\h'.Ns1 dx λ_=>Zk:=by
  rcases hd with ⟨hn0,_⟩|⟨d',hd',hne,hns⟩
  ·exact nn (hn0.symm.trans (hm.dict o ho))
  ·cases (hm.dict o ho).symm.trans hd'
   exact⟨hne,hns⟩
 obtain⟨S₁,T₁⟩:=S.add (s':={ heap:=h',gens:=g,drawn:=d,toks:=tk,os:=os }) (p:=(x,[dx])) (O' := .inst c [])
  (λb hb=>by
   rcases hb with rfl|hb
   ·exact hm.newX
   ·rcases Ub.mp hb with rfl|hb
    ·exact hm.newD
    ·cases hb) hm.keeps rfl rfl (λG St Ce=>⟨dx,_,o,rfl,ho,hoc,hnc,hm.dict o ho,hd'.1,hd'.2,λy=>rfl,U4 _,_,hcl,hex⟩) trivial
 have hv:VR B (ρ.add (x,[dx])) h' (aj (ρ.add (x,[dx])) fr) (.ref (len σ.o)) (.ref x):=by
  unfold VR;refine .inl ⟨(x,[dx]),?_,rfl⟩
  refine b_ (aJ ..) ?_;refine A' (S.len ..) ?_
  exact gF ρ _
 have ras:k_ B (ρ.add (x,[dx])) h' (aj (ρ.add (x,[dx])) fr) (.ref (len σ.o)::as) (.ref x::us):=by
  unfold k_
  exact⟨_,_,rfl,hv,k_.mono T₁.goes T₁.still _ _ r⟩
 refine(H.cl ((C.make c us).step rfl rfl:AC (A.under (.builtin "type.__call__" ⟨.ref c::us,[]⟩)) (ρ.add (x,[dx])) fr n) hap S₁ (by unfold VR;exact⟨rfl,rfl⟩:VR B (ρ.add (x,[dx])) h' (aj (ρ.add (x,[dx])) fr) (.val (.ref f)) (.ref f)) ras).step T₁ rfl hn λw σ₂ w_ u s₂ S₂ T₂ o_ x₂ r₂ e₂ => ?_
 obtain⟨y,hy,e₂⟩:=aU e₂ hn;obtain⟨hy0,e₂⟩:=bv e₂ hn;rw[ca hy,iJ hy0]at r₂
 exact⟨M'.mp r₂,⟨_,_,w_,e₂,S₂,T₂,x₂,VR.mono o_.goes o_.still _ _ hv⟩⟩
end
end
section
open PySem PySem.W PyProof.Rows PyProof
theorem tC{pos:Vw}{a b:Int}{c v:SX}:∀ {l:List SX},TriplesOk l->codeAmong pos (l++[rawInt a,rawInt b,c])=Zj v->codeAmong pos l=Zj v\/v=c:=λ{l} h e=>by
 fun_induction TriplesOk l with
 | case1=>
  simp only[XK,rawInt,codeAmong]at e
  split at e
  ·cases e;exact .inr rfl
  ·cases e
 | case2 x t y u z rest ih=>
  simp only[Wg,codeAmong]at e ⊢
  split at e
  ·rename_i hc;(refine b_ (if_pos hc) ?_);exact .inl e
  ·rename_i hc;(refine b_ (if_neg hc) ?_);exact ih h e
 | case3 l h1 h2=>exact h.elim
def GP(B:Base):Prop:=X2 λbm o=>A6 (B.mg "__builtins__"=Zj (.ref bm)) (bm≠builtinsNs) (B.h₀.get? bm=Zj o) (o.cls = .type "module") (o.dict=Zj builtinsNs) (o.data = .plain)
section
variable{α β:Type}{B:Base}{I:It}{A A₁ A₂:TV}{ρ ρ' M_ c_ dk:e_}{fr fr' OL:List Tc}{σ σ₁:VS}{s s' s'' s₀ s₁:S9}{n:Nat}{E:SX->S9->Prop}{env:WD}{sc h_ fsc:Tz}{le le':LE}{it:Tc}{qk:Bool}{q:Tc×Tc}
section
variable{h h':Tr}{c P:Tc}{ps more:Array SX}{ow:Tc->Prop}(ht:h.TableAt c P ps)(hx:Tr.ExtBut P h h')
include ht
theorem rO{b:Tc}{o:V3}(e:h.get? b=Zj o)(hcl:o.cls ≠ .none):b≠P:=λz=>by
 rw[z,ht.2]at e;cases e;exact hcl rfl
include hx
theorem kh(ht':h'.TableAt c P (ps++more)):Still h ow h' ow:=
 ⟨λb o e _ hf=>hx b o (λz=>by rw[z,ht.2]at e;cases e;cases (show Zn=Zm from hf)) e,λb h => .inl h,λb o e => .inr (by
  by_cases z:b=P
  ·exact⟨_,z▸ht'.2⟩
  ·exact⟨o,hx b o z e⟩)⟩
theorem qr:Cells h h':=
 ⟨⟨λb o v e hcl hd=>⟨o,hx b o (λz=>by rw[z,ht.2]at e;cases e;cases hcl) e,rfl,rfl⟩⟩,λb o ts e hi hd=>hx b o (λz=>by rw[z,ht.2]at e;cases e;cases hi) e⟩
end
section
variable(hlim:B.h₀.NoLimit)(S:SR B ρ fr σ s){c P:Tc}(hN:td B c P){ps more:Array SX}(ht:s.heap.TableAt c P ps)(hx:Tr.ExtBut P s.heap s'.heap)(ht':s'.heap.TableAt c P (ps++more))
include S ht hx ht'
theorem xu(QI:s'.heap.IsCode c P (ps++more))(hent:∀ pos v,codeAmong pos (ps++more).toList=Zj v->codeAmong pos ps.toList=Zj v\/∀ ow:Tc->Prop,(∀ b,ow b->aj ρ fr b)->Ot s'.heap ow v)(c2 P2:Tc)(R4:td B c2 P2) :
  ∃ ps,A3 (s'.heap.IsCode c2 P2 ps) (s'.heap.TableAt c2 P2 ps) (∀ pos v,codeAmong pos ps.toList=Zj v->Ot s'.heap (aj ρ fr) v):=by
 have still:Still s.heap (aj ρ fr) s'.heap (aj ρ fr):=kh ht hx ht'
 obtain⟨ps2,h1,h2,h3⟩:=S.base.tabs c2 P2 R4;obtain⟨⟨RN,Sq,hc2,QJ,hd2,h11⟩,_⟩:=R4.2;have hcl:RN.cls ≠ .none:=by rw[QJ];exact λz=>nomatch z
 have hc2':s.heap.get? c2=Zj RN:=S.O2 hc2 (by rw[QJ];simp)
 have Qh:c2≠P:=rO ht hc2' hcl
 by_cases z:P2=P
 ·subst z;have eps:ps2=ps:=by
   have:=Tf (h2.2.symm.trans ht.2)
   cases this;rfl
  subst eps;obtain⟨_,_,a1,_,_,_,n,f⟩:=i9 h1;obtain⟨_,_,_,b',d',t',_,_⟩:=i9 QI
  refine⟨ps2++more,f _ _ _ _ (hx _ _ Qh a1) b' d' t' n,⟨⟨RN,Sq,hx _ _ Qh hc2',QJ,hd2,h11⟩,ht'.2⟩,λpos v e => ?_⟩
  rcases hent pos v e with h|h
  ·exact(h3 pos v h).mono still
  ·exact h _ λb hb=>hb
 ·exact⟨ps2,np (λo e=>hx _ o Qh e) (λo e=>hx _ o z e) h1,li (λo e=>hx _ o Qh e) (λo e=>hx _ o z e) h2,λpos v e=>(h3 pos v e).mono still⟩
include hlim hN
theorem SR.codes(QI:s'.heap.IsCode c P (ps++more))(hent:∀ pos v,codeAmong pos (ps++more).toList=Zj v->codeAmong pos ps.toList=Zj v\/∀ ow:Tc->Prop,(∀ b,ow b->aj ρ fr b)->Ot s'.heap ow v)(hg:s'.gens=s.gens)(hos:s'.os=s.os):SR B ρ fr σ s'/\dR B ρ fr s ρ s':=by
 have hP:=hN.2.2
 have nP:∀ b,aj ρ fr b->b≠P:=λb hb e=>by rw[e]at hb;exact S.old hP hb
 have still:Still s.heap (aj ρ fr) s'.heap (aj ρ fr):=kh ht hx ht'
 have cells:=qr ht hx
 have hPs:P≠cStatics:=λz=>by
  obtain⟨mc,⟨o,es,ep,h1,h2,_⟩,_⟩:=hlim;rw[<- z,hP]at h1;cases h1;cases h2
 refine⟨⟨S.len,λi p hp => ?_,S.gone,S.sep,S.L_,S.I_,λb hb => ?_,O4.mono S.exc λ_ _ q PQ e=>Pk.keep e (λo ho=>hx _ o (nP _ (.inr (.inl ⟨q,PQ,.inl rfl⟩))) ho) (λo ho=>hx _ o (nP _ (.inr (.inl ⟨q,PQ,.inr rfl⟩))) ho) λb o ts _ ho hcl _=>hx b o (rO ht ho (by rw[hcl];exact λz=>nomatch z)) ho,
  ⟨S.base.toOldK.step_table (c₀:=c) (ps₀:=#[]) hN.2 ht ht' hx hPs,xu S ht hx ht' QI hent,λo e=>hx _ o (Vd hPs) (S.base.stat o e)⟩,hg.trans S.gens,hos.trans S.os,S.cap,S.Os⟩,
  ⟨⟨.refl _,still,cells,rfl,λb hb o e=>⟨o.slots,hx b o (nP b (.inr (.inr (.inr hb)))) e⟩⟩,λb hb o e=>⟨o.slots,hx b o (nP b (.inr (.inr (.inl hb)))) e⟩⟩⟩
 ·obtain⟨o,ho,r⟩:=S.obj i p hp
  exact⟨o,ho,r.mono (.refl _) still cells.toCell1 o p λb x hb e=>hx b x (nP b (.inl ⟨i,p,hp,hb⟩)) e⟩
 ·obtain⟨h0,o,ho,hd⟩:=S.frB b hb
  exact⟨h0,o,hx b o (nP b (.inr (.inr hb.symm.symm))) ho,hd⟩
end
theorem ki(hlim:B.h₀.NoLimit)(S:SR B ρ fr σ s)(hca:tQ B env){pos:Vw}{fl:Nat}{nm qn:Tq}{p:UW}{body:Xg}{Q:SX->S9->Prop}
  (k:∀ cv s',SR B ρ fr σ s'->dR B ρ fr s ρ s'->Ot s'.heap (aj ρ fr) cv->Q cv s'):wpAny B.M A (functionCode env pos fl nm qn p fsc body) Q E s:=by
 obtain⟨c,P,he,hN⟩:=hca;obtain⟨ps,h1,h2,h3⟩:=S.base.tabs c P hN;cases hf:codeAmong pos ps.toList with
 | some v=>exact wpAny_functionCode_hit he h1 hf (k v s S (.refl ..) (h3 pos v hf))
 | none=>
  refine wpAny_functionCodeX he h1 h2 hf λc' h' tk hx hge hlt hic hrec htab hnew => ?_
  obtain⟨P',hP',_,⟨⟨oc,vc,hoc,hcc,_⟩,_⟩⟩:=hnew;have R5:∀ ow:Tc->Prop,(∀ b,ow b->aj ρ fr b)->Ot h' ow (.ref c'):=λow how=>by
   obtain⟨c2,o2,vs,t,e,g,d,x⟩:=hrec;cases e;have eo:=Tf (g.symm.trans hoc)
   subst eo
   exact⟨qn,c',o2,vs,t,rfl,λw=>S.OU (U6 hge) (how _ w),g,by(refine b_ hcc ?_);decide,d,x⟩
  obtain⟨S',T'⟩:=SR.codes (s':={ s with heap:=h',toks:=tk }) hlim S hN h2 hx htab hic (λpos' v e=>by
   obtain⟨_,_,_,_,_,htr,_,_⟩:=i9 h1;rcases tC htr (by simpa using e:codeAmong pos' (ps.toList++[rawInt pos.line,rawInt pos.col,.ref c'])=Zj v)with h|rfl
   ·exact .inl h
   ·exact .inr R5) rfl rfl
  exact k _ _ S' T' (R5 _ λb h=>h)
theorem nC{l:List (Tq×Tp)}{x:Tq}{v:V}:ak (gi l le) x=Zj v->(x,Tp.free)∈l/\ak le x=Zj v:=by
 induction l with
 | nil=>exact λh=>nn h
 | cons p l ih=>
  obtain⟨y,k⟩:=p;intro h;have tl:=λh=>(ih h).imp_left (T8 (y,k))
  cases k with
  | free=>
   have h:ak (ag (ak le y) (gi l le) λu=>(y,u)::gi l le) x=Zj v:=h
   cases hu:ak le y with
   | none=>rw[hu]at h;exact tl h
   | some u=>
    rw[hu]at h;have h:ac (aw y x) (Zj u) (ak (gi l le) x)=Zj v:=h
    cases hs:aw y x with
    | true=>rw[hs]at h;cases h;rw[g_.mp hs]at hu ⊢;exact⟨.head _,hu⟩
    | false=>rw[hs]at h;exact tl h
  | _=>exact tl h
theorem wR{l:List (Tq×Tp)}{x:Tq}{v:V}(hv:ak le x=Zj v):(x,Tp.free)∈l->∃ w,ak (gi l le) x=Zj w:=by
 induction l with
 | nil=>exact λh=>absurd h Vn
 | cons p l ih=>
  obtain⟨y,k⟩:=p;intro h;cases k with
  | free=>
   show ∃ w,ak (ag (ak le y) (gi l le) λu=>(y,u)::gi l le) x=Zj w
   cases hu:ak le y with
   | none=>
    rcases Ub.mp h with e|h
    ·cases e;rw[hv]at hu;cases hu
    ·exact ih h
   | some u=>
    show ∃ w,ac (aw y x) (Zj u) (ak (gi l le) x)=Zj w
    cases hs:aw y x with
    | true=>exact⟨u,rfl⟩
    | false=>
     rcases Ub.mp h with e|h
     ·cases e;rw[aQ]at hs;cases hs
     ·exact ih h
  | _=>exact(Ub.mp h).elim (λe=>by cases e) ih
theorem q7(env:WD):∀ {l:List Arg},se l=Zm->annotationsOf l env=[]
 | [],_=>rfl
 | ⟨nm,an,p⟩::l,h=>by
  have h':ag an (se l) (λ_=>Zn)=Zm:=h
  cases an with
  | some _=>cases h'
  | none=>exact(show annotationsOf (⟨nm,Zk,p⟩::l) env=annotationsOf l env from rfl).trans (q7 env h')
theorem zs{a:UW}(h1:bL a=Zm)(h2:se a.args=Zm)(env:WD):annTrees a Zk env=[]:=by
 obtain⟨h3,h4,h5,h6⟩:=fQ h1;clear h1;obtain⟨po,ar,va,ko,Rh,kw,Ri⟩:=a;cases (show po=[]from h3);cases (show va=Zk from h4);cases (show ko=[]from h5);cases (show kw=Zk from h6)
 show annotationsOf (_++[]++[]++[]++[]) env++[]=[]
 simp only[U8]
 exact q7 env h2
theorem yc{a:UW}(h:um a=Zm):a.defaults=[]/\a.kw_defaults=[]:=by
 obtain⟨h1,h2⟩:=jM h
 exact⟨bu h2,bu h1⟩
theorem rE(Fa:Facts B)(G:Glob B)(Bm:GP B)(S:SR B ρ fr σ s)(F:Fm B env sc le ρ fr s.heap)(hca:tQ B env){nm:Tq}{a:UW}{body:List T9}{pos:Vw}{qn:Tq}{fl:Nat}
  (hok:cI fsc=Zm) (hpa:bL a=Zm) (hpo:dE fsc.names (bg a.args)=Zm) (hf:d8 sc.names le fsc.names=Zm) {Q:SX->S9->Prop}
  (k:∀ u s' ρ',SR B ρ' fr ⟨σ.o++[.clo a body fsc (gi fsc.names le)],σ.x,σ.cap⟩ s'->dR B ρ fr s ρ' s'->ρ'.x=ρ.x->VR B ρ' s'.heap (aj ρ' fr) (.ref (len σ.o)) u->Q u s') :
  wpAny B.M A (makeTail nm qn a (.stmts body) fsc env .none .none Zk pos fl) Q E s:=by
 obtain⟨cl,Sr,K⟩:=me F hf;obtain⟨bm,ob,b1,b2,b3,b4,b5,b6⟩:=Bm;unfold makeTail;refine b_ (Sr ..) ?_;refine b_ (pure_bind ..) ?_
 have go:∀ (ct:SX) (s₁:S9),SR B ρ fr σ s₁->dR B ρ fr s ρ s₁->wpAny B.M A (do
   let fd:YG:={ name:=nm,qualname:=qn,params:=a,body := .stmts body,scope:=fsc,globals:=env.globals,closure:=cl,closureTuple:=ct,code := <- functionCode env pos fl nm qn a fsc (.stmts body),builtins := <- builtinsFor env.globals env.builtins,defaults := .none,kwdefaults := .none,annotations:=Zk,pyModule:=(<- nsGet env.globals "__name__").getD .none,doc := <- match Xg.stmts body with | .stmts b=>(match docOf b with|some s=>mkText s|none=>pure .none) | .expr _=>pure .none }
   newObj (.type "function") (.func fd)) Q E s₁:=λct s₁ S₁ T₁=>by
  refine S8 (ki Fa.lim S₁ hca λcv s₂ S₂ T₂ hcv => ?_)
  have hg:s₂.heap.Ns env.globals B.mg:=by(refine b_ (F.globals ..) ?_);exact lw S₂ G.g.1 G.g.2
  refine S8 (wpAny_builtinsFor hg b1 b2 (S₂.O2 b3 (by(refine b_ (b4 ..) ?_);simp)) b4 b5 b6 ?_)
  refine S8 (wpAny_nsGet hg ?_)
  have fin:∀ (dv:SX) (tk:Nat),wpAny B.M A (newObj (.type "function") (.func { name:=nm,qualname:=qn,params:=a,body := .stmts body,scope:=fsc,globals:=env.globals,closure:=cl,closureTuple:=ct,code:=cv,builtins:=builtinsNs,defaults := .none,kwdefaults := .none,annotations:=Zk,pyModule:=(B.mg "__name__").getD .none,doc:=dv })) Q E { s₂ with toks:=tk }:=λdv tk=>by
   refine WY ?_ (by size_fits)
   have TT:=(T₁.trans T₂).tok tk
   obtain⟨ρ',k1,k2,k3,k4⟩:=tX (s':={ s₂ with heap:=s₂.heap.push { cls := .type "function",data := .func { name:=nm,qualname:=qn,params:=a,body := .stmts body,scope:=fsc,globals:=env.globals,closure:=cl,closureTuple:=ct,code:=cv,builtins:=builtinsNs,defaults := .none,kwdefaults := .none,annotations:=Zk,pyModule:=(B.mg "__name__").getD .none,doc:=dv } },toks:=tk })
    (O' := .clo a body fsc (gi fsc.names le)) (S₂.tok tk) (λb o e=>Tj _ e) rfl rfl trivial λρ' y_ Gs St Ce=>by
     refine⟨rfl,_,_,Uw _ rfl,rfl,rfl,hcv.mono St,⟨rfl,rfl,rfl,F.globals,rfl,rfl,rfl,hok,hpa,hpo,λx v hx => ?_,λx y c hx hy=>F.apart x y c (K.sub x c hx) (K.sub y c hy),λx c hx => ?_⟩,λx v hx => ?_⟩
     ·exact fG (hZ hok).2.2.2 (nC hx).1
     ·have hm:=K.only x c hx
      obtain⟨_,v,hv⟩:=fA hf x hm;exact wR hv hm
     ·obtain⟨hm,hv⟩:=nC hx;obtain⟨hkx,_⟩:=fA hf x hm;obtain⟨c,o,u,hc,ho,hcl,hd,Ss⟩:=F.cells x v hv hkx;obtain⟨c',hc'⟩:=K.all x hm
      have:=K.sub x c' hc'
      rw[hc]at this;cases this;obtain⟨o',e',k',d'⟩:=TT.cells.cells _ _ _ ho hcl hd;obtain⟨o2,e2,k2,d2⟩:=Ce.cells _ _ _ e' (k'.trans hcl) (d'.trans hd)
      exact⟨c,o2,u,hc',e2,k2.trans (k'.trans hcl),d2.trans (d'.trans hd),(Ss.mono TT.goes TT.still).mono Gs St⟩
   exact k _ _ ρ' k1 (TT.trans k2) k3 k4
  refine S8 ?_
  cases hdoc:docOf body with
  | none=>dsimp only;exact Tg (fin .none s₂.toks)
  | some t=>dsimp only;exact wpAny_mkText (fin _ _)
 cases hcl:cl.isEmpty with
 | true=>simp only[if_true];exact S8 (Tg (go _ s S (.refl ..)))
 | false=>
  simp only[Wv,if_false]
  refine S8 (wpAny_newTextTuple ?_)
  obtain⟨S₁,T₁⟩:=S.grow (s':={ s with heap:=s.heap.push { cls := .type "tuple",data := .seq ((cl.mergeSort λa b=>a.1.cps.toList<=b.1.cps.toList).map (.ref ·.2)).toArray } }) (λb o e=>Tj _ e) rfl rfl
  exact go _ _ S₁ T₁
end
end
section
open PySem PySem.W PyProof.Rows PyProof
structure Start (B:Base):Prop where
 fa:Facts B
 g:Glob B
 co:lt B
 mt:nY B
 ke:pT B
 make:pS B
 th:pN B
 bm:GP B
 fns:Iv B
section
variable{α β:Type}{B:Base}{I:It}{A A₁ A₂:TV}{ρ ρ' M_ c_ dk:e_}{fr fr' OL:List Tc}{σ σ₁:VS}{s s' s'' s₀ s₁:S9}{n N:Nat}{E:SX->S9->Prop}{env:WD}{sc h_ fsc:Tz}{le le':LE}{it:Tc}{qk:Bool}{q:Tc×Tc}{Sp:eR}
inductive Rn (nm:Tq) (a:UW) (dc:List Expr) (ret:Option Expr) (tp:List TypeParam) (fsc:Tz) (Pz:Option Tz) (bd:Tq) (sc:Tz) (le:LE):Prop
 | mk:dc=[]->ret=Zk->tp=[]->Pz=Zk->nm=bd->cI fsc=Zm->bL a=Zm->um a=Zm->se a.args=Zm->dE fsc.names (bg a.args)=Zm->dz sc=Zm->d8 sc.names le fsc.names=Zm->ah sc.names bd=Zj .local->Rn nm a dc ret tp fsc Pz bd sc le
theorem Bq{nm:Tq}{a:UW}{dc:List Expr}{ret:Option Expr}{tp:List TypeParam}{Pz:Option Tz}{bd:Tq}(h:Fj nm a dc ret tp fsc Pz bd sc le=Zm):Rn nm a dc ret tp fsc Pz bd sc le:=by
 obtain⟨h1,h⟩:=aO h;obtain⟨h2,h⟩:=aO h;obtain⟨h3,h⟩:=aO h;obtain⟨h4,h⟩:=aO h;obtain⟨h5,h⟩:=aO h;obtain⟨h6,h⟩:=aO h;obtain⟨h7,h⟩:=aO h;obtain⟨h8,h⟩:=aO h;obtain⟨h9,h⟩:=aO h;obtain⟨h10,h⟩:=aO h;obtain⟨h11,h⟩:=aO h;obtain⟨h12,h⟩:=aO h
 exact⟨bu h1,pK h2,bu h3,pK h4,g_.mp h10,h5,h6,h7,h8,h9,h11,h12,gO (aO h).1⟩
theorem zr(X:Start B)(C:AC A ρ fr n)(N:En A env sc ρ fr)(S:SR B ρ fr σ s)(F:Fm B env sc le ρ fr s.heap){nm:Tq}{a:UW}{b:List T9}{dc:List Expr}{ret:Option Expr}{tp:List TypeParam}{Pz:Option Tz}{bd:Tq}{pos:Vw} :
  Px B A env sc le Zn ρ fr s (E7 nm a b dc ret tp fsc Pz bd sc le σ) (exec (.FunctionDef nm a b dc ret tp fsc Pz bd pos) env) := .mk λres hr hn=>by
 obtain⟨hd,hr'⟩:=bv hr hn;obtain⟨rfl,rfl,rfl,rfl,rfl,hok,hpa,hnd,hna,hpo,hne,hf,hk⟩:=Bq hd;obtain⟨d1,d2⟩:=yc hnd;obtain⟨_,_,p3,_⟩:=fQ hpa;refine b_ (exec_def ..) ?_
 refine S8 (Um (S8 (Ua ?_)))
 refine b_ (defaultsOf_eq ..) ?_;refine b_ (d1 ..) ?_;refine b_ (d2 ..) ?_;refine b_ (zs hpa hna ..) ?_
 refine S8 (show wpAny B.M A (evalAll []) _ _ _ from wpAny_evalAll_nil ?_)
 refine S8 (Ua (show wpAny B.M A (evalAllOpt []) _ _ _ from Tg ?_))
 refine Ua (S8 (show wpAny B.M A (evalNamed []) _ _ _ from Tg ?_))
 refine b_ (makeFunction_eq ..) ?_;refine b_ (p3 ..) ?_
 simp only[List.zip_nil_left,List.filterMap_nil,List.isEmpty_nil,if_true,pure_bind]
 refine rE X.fa X.g X.bm S F (F.code hne) hok hpa hpo hf λu s₁ dk S₁ T₁ x₁ r₁ => ?_
 refine S8 (Um (S8 (Xo ?_)))
 refine gv S₁ (F.step T₁) hk r₁ (by(refine b_ T₁.fs ?_);exact N.apart _ F.loc) λs₂ S₂ T₂ F₂=>Tg ?_
 exact dh S₂ (T₁.toStep.trans T₂) x₁ hr' F₂ rfl
theorem zJ(H:Sound B I n)(X:Start B)(C:AC A ρ fr n)(N:En A env sc ρ fr)(S:SR B ρ fr σ s)(F:Fm B env sc le ρ fr s.heap)(e:Expr):Wp B A ρ fr s (FU B.T I e sc le σ) (eval e env) (aM B fr):=by
 cases e with
 | BoolOp op vs p=>exact qT H C N S F op vs p
 | BinOp l op r p=>exact zp H C N S F l op r p
 | UnaryOp op x p=>exact DB H C N S F op x p
 | IfExp t b o p=>exact Dt H C N S F t b o p
 | Dict ks vs p=>exact wZ H X.fa C N S F ks vs p
 | ListComp elt gs h_ p=>exact wM H C N S F elt gs p
 | Compare l ops rs p=>exact zk H C N S F l ops rs p
 | Call f as ks p=>exact yq H X.fa C N S F f as ks p
 | Constant c k p=>exact AI S c k p
 | Attribute o m p=>exact xC H X.fa X.co C N S F o m p
 | Subscript o i p=>exact BW H C N S F o i p
 | Name x p=>exact DD X.g S F N.ok x p
 | List es p=>exact ye H C N S F es p
 | Tuple es k p=>exact AX H C N S F es k p
 | _=>trivial
theorem Bc(H:Sound B I n)(X:Start B)(C:AC A ρ fr n)(N:En A env sc ρ fr)(S:SR B ρ fr σ s)(F:Fm B env sc le ρ fr s.heap)(st:T9):Px B A env sc le (Ab st) ρ fr s (aA B.T I st sc le σ) (exec st env):=by
 cases st with
 | FunctionDef nm a b dc ret tp fsc Pz bd pos=>exact zr X C N S F
 | Return e p=>exact BL H C N S F e p
 | Assign ts e p=>exact yG H X.fa C N S F (λt e c pos h=>xD H C N S F t e c pos h) ts e p
 | AugAssign t op e p=>exact yX H X.fa X.g X.co C N S F t op e p
 | For t ie b o p=>exact Aq H X.fa C N S F t ie b o p
 | If t b o p=>exact DM H C N S F t b o p
 | Raise e c p=>
  cases e with
  | none=>exact λh=>absurd rfl h
  | some e=>
   cases c with
   | some _=>exact λh=>absurd rfl h
   | none=>exact t8 H X.g X.ke X.make X.th C N S F e p
 | Try b hs o f p=>exact zm H X.g X.mt C N S F b hs o f p
 | Expr e p=>exact xa H C N S F e p
 | Pass p=>exact .mk λres hr hn=>wpAny_Pass (dh S (.refl ..) rfl hr F rfl)
 | _=>exact λh=>absurd rfl h
theorem A2(H:Sound B I (n+N))(X:Start B)(HS:sM B Sp N)(C:AC A ρ fr (n+N+1))(hap:∀ b∈fr,b∉ρ.fs)(S:SR B ρ fr σ s){v:V}{as:List V}{u:SX}{us:List SX}(rv:VR B ρ s.heap (aj ρ fr) v u)(r:k_ B ρ s.heap (aj ρ fr) as us) :
  Wp B A ρ fr s (zO B.T I Sp v as σ) (call u us) (aM B fr):=by
 cases v with
 | val w=>
  unfold VR at rv;obtain⟨rfl,_⟩:=rv;have gB:Wp B A ρ fr s (zI B.T u as σ) (call u us) (aM B fr):=AD X.fa.R8 X.fa.sys S C r
  cases u with
  | ref a=>
   show Wp B A ρ fr s (ag (Sp a) (ag (B.T.fn a) (ag (B.T.cl a) .no λc=>oA I a c as σ) λfn=>gr I fn as σ) λsp=>sp as σ) _ _
   cases hs:Sp a with
   | some sp=>exact(HS hs).2 (C.less (by lia)) hap S r
   | none=>
    refine b_ (ir ..) ?_
    cases hf:B.T.fn a with
    | some fn=>exact wW H X.fa C S (X.fns a fn hf) r
    | none=>
     refine b_ (ir ..) ?_
     cases hc:B.T.cl a with
     | some kc=>exact xz H X.fa C hap S hc r
     | none=>trivial
  | _=>exact gB
 | ref i=>exact tG H X.fa C S rv r
 | _=>trivial
theorem ny(S:SR B ρ fr σ s){a:Tc}{fn:Fn}(X:PD B a fn){Q:Keeper->S9->Prop}(h:∀ k,Q k s):wpAny B.M A (keeperOf (.ref a)) Q E s:=by
 obtain⟨⟨o,fd,ho,hc,hd,_⟩,_⟩:=X;unfold keeperOf;refine S8 (Yo (S.O2 ho (by(refine b_ hc ?_);simp)) ?_)
 refine b_ hd ?_
 exact Tg (h _)
theorem DQ(X:Start B)(HS:sM B Sp N)(S:SR B ρ fr σ s){v:V}{as:List V}{u:SX}(hn:zO B.T I Sp v as σ ≠ .no)(rv:VR B ρ s.heap (aj ρ fr) v u){Q:Keeper->S9->Prop}(h:∀ k,Q k s):wpAny B.M A (keeperOf u) Q E s:=by
 cases v with
 | val w=>
  unfold VR at rv;obtain⟨rfl,_⟩:=rv;cases u with
  | ref a=>
   have hn':ag (Sp a) (ag (B.T.fn a) (ag (B.T.cl a) .no λc=>oA I a c as σ) λfn=>gr I fn as σ) (λsp=>sp as σ) ≠ .no:=hn
   cases hs:Sp a with
   | some sp=>
    obtain⟨⟨fn,hf⟩,_⟩:=HS hs;exact ny S (X.fns a fn hf) h
   | none=>
    rw[hs,ir]at hn';cases hf:B.T.fn a with
    | some fn=>exact ny S (X.fns a fn hf) h
    | none=>
     rw[hf,ir]at hn';cases hc:B.T.cl a with
     | some kc=>exact X.ke hc S h
     | none=>rw[hc]at hn';exact absurd rfl hn'
  | _=>exact Tg (h _)
 | ref i=>
  obtain⟨p,hc,_⟩:=aU (rfl:pH I i as σ=_) hn;obtain⟨q,hp,ro⟩:=S.at (rM hc) (λh=>by cases h)
  refine b_ (aH hp rv) ?_
  obtain⟨_,o,fd,ho,hc,hd,_⟩:=ro;unfold keeperOf;refine S8 (Yo ho ?_)
  refine b_ hd ?_
  exact Tg (h _)
 | _=>exact absurd rfl hn
theorem jO(X:Start B)(HS:sM B Sp N):∀ n,Sound B (aa B.T Sp n) (n+N)
 | 0=>⟨λ_ _ _ _ _=>trivial,λ_ _ _ _ _=>trivial,λ_ _ _ _ _ _=>trivial,λ_ _ _ _ _ _=>trivial,λ_ _ _ _ _ h=>absurd rfl h,λ_ _ _ _ _=>trivial,λh=>absurd rfl h,λ_ _ _ _ _ _=>rfl,λ_ _ _ _ _=>rfl,λ_ _ _ _ h=>by cases h⟩
 | n+1=>by
  have H:=jO X HS n
  have ls:∀ {A ρ fr},AC A ρ fr (n+1+N)->AC A ρ fr (n+N):=λC=>C.less (by lia)
  have e:n+1+N=n+N+1:=by exact TY n 1 N
  have lc:∀ {A ρ fr},AC A ρ fr (n+1+N)->AC A ρ fr (n+N+1):=λC=>e▸C
  exact⟨λe C N S F=>zJ H X (ls C) N S F e,λe C N S F=>yP H (ls C) N S F e,λes p C N S F=>Eh H (ls C) N S F es p,λop es C N S F=>x8 H (ls C) N S F op es,
   λl C N S F=>wL H (ls C) N S F (λst=>Bc H X (ls C) N S F st) l,λC hap S rv r=>A2 H X HS (lc C) hap S rv r,
   λhn S rv h=>DQ X HS S hn rv h,λ_ _ _ _ _ _=>rfl,λ_ _ _ _ _=>rfl,λ_ _ _ _ h=>by cases h⟩
end
end
section
open PySem
noncomputable def wp(st:T9)(cap:LE):O:=@YS (λ_=>O) st (λ_ a b _ _ _ sc _ _ _ => .clo a b sc cap) (λ_ _ _ _ _ _ _ _ _ _ => .dead) (λ_ _ _ _ _ _ _ _ _ _ _ => .dead) (λ_ _ => .dead) (λ_ _ => .dead) (λ_ _ _ => .dead) (λ_ _ _ _ _ _ _ => .dead) (λ_ _ _ _ => .dead) (λ_ _ _ _ _ => .dead) (λ_ _ _ _ _ => .dead) (λ_ _ _ _ _ => .dead) (λ_ _ _ _ => .dead) (λ_ _ _ _ => .dead) (λ_ _ _ => .dead) (λ_ _ _ => .dead) (λ_ _ _ => .dead) (λ_ _ _ => .dead) (λ_ _ _ _ _ => .dead) (λ_ _ _ _ _ => .dead) (λ_ _ _ => .dead) (λ_ _ => .dead) (λ_ _ _ _ => .dead) (λ_ _ => .dead) (λ_ _ => .dead) (λ_ _ => .dead) (λ_ => .dead) (λ_ => .dead) (λ_ => .dead)
noncomputable def EU(a:Int)(xs seen m_ num:List SQ)(tr:O)(inp:List SQ)(B':Int)(out OG OW:List SQ):List O:=[
 .dict [(.str ⟨⟨[115,99,114,105,112,116]⟩⟩,.ref 1),(.str ⟨⟨[97,116]⟩⟩,.d (.int a))],
 .a_ xs,
 .a_ seen,
 .a_ m_,
 .inst 136 [(⟨⟨[110,117,109,101,114,105,99]⟩⟩,.ref 6),(⟨⟨[99,104,97,114,97,99,116,101,114,115]⟩⟩,.ref 8)],
 .a_ [.none],
 .a_ num,
 .a_ [.none],
 .a_ [.str ⟨⟨[40]⟩⟩,.str ⟨⟨[76]⟩⟩,.str ⟨⟨[52]⟩⟩,.str ⟨⟨[41]⟩⟩],
 .inst 658 [(⟨⟨[119,105,100,116,104]⟩⟩,.d (.int 32)),(⟨⟨[114,101,97,108,95,100,105,103,105,116,115]⟩⟩,.d (.int 7)),(⟨⟨[100,111,117,98,108,101,95,100,105,103,105,116,115]⟩⟩,.d (.int 15)),(⟨⟨[116,111,112,95,101,120,112,111,110,101,110,116]⟩⟩,.d (.int 38)),(⟨⟨[115,116,101,112,115]⟩⟩,.d (.int 1000000)),(⟨⟨[99,111,110,116,105,110,117,97,116,105,111,110,115]⟩⟩,.d (.int 19)),(⟨⟨[99,111,108,117,109,110,115]⟩⟩,.d (.int 72)),(⟨⟨[100,101,112,116,104]⟩⟩,.d (.int 40))],
 .dict [],
 .dict [],
 .inst 679 [(⟨⟨[109,101,109,111,114,121]⟩⟩,.ref 4),(⟨⟨[108,105,109,105,116,115]⟩⟩,.ref 9),(⟨⟨[99,111,100,101,115]⟩⟩,.ref 10),(⟨⟨[102,114,97,109,101,115]⟩⟩,.ref 11),(⟨⟨[111,112,115]⟩⟩,.ref 13),(⟨⟨[111,112,101,114,97,116,105,111,110,115]⟩⟩,.ref 14),(⟨⟨[105,111]⟩⟩,.ref 22),(⟨⟨[101,110,116,101,114]⟩⟩,.val (.ref 688)),(⟨⟨[119,111,114,108,100]⟩⟩,.ref 24),(⟨⟨[102,117,110,99,116,105,111,110,115]⟩⟩,.ref 16),(⟨⟨[99,108,101,97,114,115]⟩⟩,.ref 17),(⟨⟨[112,108,97,99,101,115]⟩⟩,.ref 18),(⟨⟨[117,110,105,116,115]⟩⟩,.ref 19),(⟨⟨[97,99,116,105,118,101]⟩⟩,.ref 20),(⟨⟨[116,114,97,110,115,102,101,114,115]⟩⟩,.ref 21),(⟨⟨[115,116,101,112,115]⟩⟩,.d (.int 0))],
 .dict [],
 .dict [],
 .dict [],
 .dict [],
 .dict [],
 .dict [],
 .dict [],
 .a_ [],
 tr,
 .dict [(.str ⟨⟨[98,101,103,105,110,95,119,114,105,116,101]⟩⟩,.val (.ref 577)),(.str ⟨⟨[98,101,103,105,110,95,114,101,97,100]⟩⟩,.val (.ref 584)),(.str ⟨⟨[112,117,116]⟩⟩,.val (.ref 591)),(.str ⟨⟨[112,117,116,95,97,108,108]⟩⟩,.val (.ref 598)),(.str ⟨⟨[116,97,107,101]⟩⟩,.val (.ref 605)),(.str ⟨⟨[116,97,107,101,95,97,108,108]⟩⟩,.val (.ref 612)),(.str ⟨⟨[102,105,110,105,115,104,95,119,114,105,116,101]⟩⟩,.val (.ref 619)),(.str ⟨⟨[102,105,110,105,115,104,95,114,101,97,100]⟩⟩,.val (.ref 626)),(.str ⟨⟨[115,116,97,116]⟩⟩,.val (.ref 633))],
 .a_ inp,
 .inst 351 [(⟨⟨[105,110,112,117,116]⟩⟩,.ref 23),(⟨⟨[97,116]⟩⟩,.d (.int B')),(⟨⟨[111,117,116]⟩⟩,.ref 25),(⟨⟨[115,116,111,114,101]⟩⟩,.d .none),(⟨⟨[117,110,105,116,115]⟩⟩,.ref 26),(⟨⟨[109,97,107,101,114,115]⟩⟩,.ref 27)],
 .a_ out,
 .dict [],
 .dict [(.tuple [.str ⟨⟨[119,114,105,116,101]⟩⟩,.str ⟨⟨[108,105,115,116]⟩⟩],.ref 28),(.tuple [.str ⟨⟨[114,101,97,100]⟩⟩,.str ⟨⟨[108,105,115,116]⟩⟩],.ref 29),(.tuple [.str ⟨⟨[119,114,105,116,101]⟩⟩,.str ⟨⟨[102,111,114,109,97,116]⟩⟩],.ref 28),(.tuple [.str ⟨⟨[114,101,97,100]⟩⟩,.str ⟨⟨[102,111,114,109,97,116]⟩⟩],.ref 29)],
 wp (ai (aI 102).body 6) [(⟨⟨[115,101,101,110]⟩⟩,.ref 2)],
 wp (ai (aI 102).body 7) [(⟨⟨[115,101,101,110]⟩⟩,.ref 2)],
 .dict [(.str ⟨⟨[105,110]⟩⟩,.ref 31),(.str ⟨⟨[111,117,116]⟩⟩,.ref 32)],
 .a_ OG,
 .a_ OW]
noncomputable def hp(a:Int)(xs seen m_ num:List SQ)(tr:O)(inp:List SQ)(B':Int)(out OG OW cells:List SQ):List O:=[
 .dict [(.str ⟨⟨[115,99,114,105,112,116]⟩⟩,.ref 1),(.str ⟨⟨[97,116]⟩⟩,.d (.int a))],
 .a_ xs,
 .a_ seen,
 .a_ m_,
 .inst 136 [(⟨⟨[110,117,109,101,114,105,99]⟩⟩,.ref 6),(⟨⟨[99,104,97,114,97,99,116,101,114,115]⟩⟩,.ref 8)],
 .a_ [.none],
 .a_ num,
 .a_ [.none],
 .a_ [.str ⟨⟨[40]⟩⟩,.str ⟨⟨[76]⟩⟩,.str ⟨⟨[52]⟩⟩,.str ⟨⟨[41]⟩⟩],
 .inst 658 [(⟨⟨[119,105,100,116,104]⟩⟩,.d (.int 32)),(⟨⟨[114,101,97,108,95,100,105,103,105,116,115]⟩⟩,.d (.int 7)),(⟨⟨[100,111,117,98,108,101,95,100,105,103,105,116,115]⟩⟩,.d (.int 15)),(⟨⟨[116,111,112,95,101,120,112,111,110,101,110,116]⟩⟩,.d (.int 38)),(⟨⟨[115,116,101,112,115]⟩⟩,.d (.int 1000000)),(⟨⟨[99,111,110,116,105,110,117,97,116,105,111,110,115]⟩⟩,.d (.int 19)),(⟨⟨[99,111,108,117,109,110,115]⟩⟩,.d (.int 72)),(⟨⟨[100,101,112,116,104]⟩⟩,.d (.int 40))],
 .dict [],
 .dict [],
 .inst 679 [(⟨⟨[109,101,109,111,114,121]⟩⟩,.ref 4),(⟨⟨[108,105,109,105,116,115]⟩⟩,.ref 9),(⟨⟨[99,111,100,101,115]⟩⟩,.ref 10),(⟨⟨[102,114,97,109,101,115]⟩⟩,.ref 11),(⟨⟨[111,112,115]⟩⟩,.ref 13),(⟨⟨[111,112,101,114,97,116,105,111,110,115]⟩⟩,.ref 14),(⟨⟨[105,111]⟩⟩,.ref 22),(⟨⟨[101,110,116,101,114]⟩⟩,.val (.ref 688)),(⟨⟨[119,111,114,108,100]⟩⟩,.ref 24),(⟨⟨[102,117,110,99,116,105,111,110,115]⟩⟩,.ref 16),(⟨⟨[99,108,101,97,114,115]⟩⟩,.ref 17),(⟨⟨[112,108,97,99,101,115]⟩⟩,.ref 18),(⟨⟨[117,110,105,116,115]⟩⟩,.ref 19),(⟨⟨[97,99,116,105,118,101]⟩⟩,.ref 20),(⟨⟨[116,114,97,110,115,102,101,114,115]⟩⟩,.ref 21),(⟨⟨[115,116,101,112,115]⟩⟩,.d (.int 0))],
 .dict [],
 .dict [],
 .dict [],
 .dict [],
 .dict [],
 .dict [],
 .dict [],
 .a_ [],
 tr,
 .dict [(.str ⟨⟨[98,101,103,105,110,95,119,114,105,116,101]⟩⟩,.val (.ref 577)),(.str ⟨⟨[98,101,103,105,110,95,114,101,97,100]⟩⟩,.val (.ref 584)),(.str ⟨⟨[112,117,116]⟩⟩,.val (.ref 591)),(.str ⟨⟨[112,117,116,95,97,108,108]⟩⟩,.val (.ref 598)),(.str ⟨⟨[116,97,107,101]⟩⟩,.val (.ref 605)),(.str ⟨⟨[116,97,107,101,95,97,108,108]⟩⟩,.val (.ref 612)),(.str ⟨⟨[102,105,110,105,115,104,95,119,114,105,116,101]⟩⟩,.val (.ref 619)),(.str ⟨⟨[102,105,110,105,115,104,95,114,101,97,100]⟩⟩,.val (.ref 626)),(.str ⟨⟨[115,116,97,116]⟩⟩,.val (.ref 633))],
 .a_ inp,
 .inst 351 [(⟨⟨[105,110,112,117,116]⟩⟩,.ref 23),(⟨⟨[97,116]⟩⟩,.d (.int B')),(⟨⟨[111,117,116]⟩⟩,.ref 25),(⟨⟨[115,116,111,114,101]⟩⟩,.d .none),(⟨⟨[117,110,105,116,115]⟩⟩,.ref 26),(⟨⟨[109,97,107,101,114,115]⟩⟩,.ref 27)],
 .a_ out,
 .dict [],
 .dict [(.tuple [.str ⟨⟨[119,114,105,116,101]⟩⟩,.str ⟨⟨[108,105,115,116]⟩⟩],.ref 28),(.tuple [.str ⟨⟨[114,101,97,100]⟩⟩,.str ⟨⟨[108,105,115,116]⟩⟩],.ref 29),(.tuple [.str ⟨⟨[119,114,105,116,101]⟩⟩,.str ⟨⟨[102,111,114,109,97,116]⟩⟩],.ref 28),(.tuple [.str ⟨⟨[114,101,97,100]⟩⟩,.str ⟨⟨[102,111,114,109,97,116]⟩⟩],.ref 29)],
 wp (ai (aI 102).body 6) [(⟨⟨[115,101,101,110]⟩⟩,.ref 2)],
 wp (ai (aI 102).body 7) [(⟨⟨[115,101,101,110]⟩⟩,.ref 2)],
 .dict [(.str ⟨⟨[105,110]⟩⟩,.ref 31),(.str ⟨⟨[111,117,116]⟩⟩,.ref 32)],
 .a_ OG,
 .a_ OW,
 .a_ cells]
noncomputable def Gm(b:Bool)(p:SQ×SQ)(r:List (SQ×SQ)):List (SQ×SQ):=ac b (p::r) r
noncomputable def b7(io en er:Bool):List (SQ×SQ):=Gm io (.str ⟨⟨[73,79,83,84,65,84]⟩⟩,.tuple [.str ⟨⟨[118,97,114]⟩⟩,.int 0,.str ⟨⟨[83]⟩⟩]) (Gm en (.str ⟨⟨[69,78,68]⟩⟩,.int 100) (Gm er (.str ⟨⟨[69,82,82]⟩⟩,.int 200) []))
noncomputable def ay:Tq:=⟨⟨[114,101,97,100]⟩⟩
noncomputable def aY:Tq:=⟨⟨[119,114,105,116,101]⟩⟩
noncomputable def fj:Tq:=⟨⟨[42]⟩⟩
noncomputable def L6(word:Tq)(c:List (SQ×SQ))(way:Int)(u:SQ)(items:List SQ):SQ := .tuple [.str word,.dict c,.int way,u,.list items]
end
section
open PySem
structure Su where
 es:List Expr
 as:List Expr
 p:Vw
 m:Tq
 n:Nat
 gs:List Vh
 sc:Tz
 ks:List (Option Expr)
noncomputable def oM(e:Expr):Su:=match e with
 | .Call f as _ p=>⟨[f],as,p,⟨⟨[]⟩⟩,0,[],default,[]⟩
 | .BinOp l _ r p=>⟨[l,r],[],p,⟨⟨[]⟩⟩,0,[],default,[]⟩
 | .Attribute o m p=>⟨[o],[],p,m,0,[],default,[]⟩
 | .IfExp t _ _ p=>⟨[t],[],p,⟨⟨[]⟩⟩,0,[],default,[]⟩
 | .Subscript o i p=>⟨[o,i],[],p,⟨⟨[]⟩⟩,0,[],default,[]⟩
 | .Compare l _ rs p=>⟨l::rs,[],p,⟨⟨[]⟩⟩,0,[],default,[]⟩
 | .List es p=>⟨[],es,p,⟨⟨[]⟩⟩,0,[],default,[]⟩
 | .Tuple es c p=>⟨[],es,p,⟨⟨[]⟩⟩,c,[],default,[]⟩
 | .BoolOp _ es p=>⟨[],es,p,⟨⟨[]⟩⟩,0,[],default,[]⟩
 | .Dict ks vs p=>⟨[],vs,p,⟨⟨[]⟩⟩,0,[],default,ks⟩
 | .ListComp e gs sc p=>⟨[e],[],p,⟨⟨[]⟩⟩,0,gs,sc,[]⟩
 | _=>⟨[],[],default,⟨⟨[]⟩⟩,0,[],default,[]⟩
structure Sv where
 p:Vw
 b:List T9
 o:List T9
 hs:List Uk
 e:Expr
 t:Expr
noncomputable def xq:Expr := .Constant .none 0 default
noncomputable def bl(l:List Expr)(n:Nat):Expr:=(f9 l n).getD xq
noncomputable def xr(s:T9):Sv:=match s with
 | .For t i b _ p=>⟨p,b,[],[],i,t⟩
 | .If t b o p=>⟨p,b,o,[],t,xq⟩
 | .Assign ts e p=>⟨p,[],[],[],e,bl ts 0⟩
 | .Expr e p=>⟨p,[],[],[],e,xq⟩
 | .Return e p=>⟨p,[],[],[],e.getD xq,xq⟩
 | .Try b hs _ _ p=>⟨p,b,[],hs,xq,xq⟩
 | _=>⟨default,[],[],[],xq,xq⟩
noncomputable def bQ(s:T9):Vw:=(xr s).p
noncomputable def az(s:T9):List T9:=(xr s).b
noncomputable def uH(s:T9):List T9:=(xr s).o
noncomputable def JD(s:T9):List Uk:=(xr s).hs
noncomputable def ae(s:T9):Expr:=(xr s).e
noncomputable def aq(s:T9):Expr:=(xr s).t
noncomputable def ax(e:Expr):Vw:=(oM e).p
noncomputable def ba(e:Expr):Expr:=bl (oM e).es 0
noncomputable def Oz(e:Expr):Expr:=bl (oM e).es 1
noncomputable def aN(e:Expr):List Expr:=(oM e).as
noncomputable def Ie(e:Expr):Tq:=(oM e).m
theorem gm{α β:Type}(a:α)(s:VS)(f:α->VS->R β):R.bind (.ok a s) f=f a s:=rfl
section
variable{T:Tab}{Sp:eR}{n:Nat}{sc:Tz}{le le':LE}{σ σ':VS}
theorem iU:(aa T Sp (n+1)).ex [] sc le σ = .ok (.next,le) σ:=rfl
theorem aC{st:T9}{r:List T9}(h:aA T (aa T Sp n) st sc le σ = .ok (.next,le') σ'):(aa T Sp (n+1)).ex (st::r) sc le σ=(aa T Sp n).ex r sc le' σ':=by
 show R.bind (aA T (aa T Sp n) st sc le σ) _=_
 (refine b_ h ?_);rfl
theorem gh{st:T9}{r:List T9}{v:V}(h:aA T (aa T Sp n) st sc le σ = .ok (.ret v,le') σ'):(aa T Sp (n+1)).ex (st::r) sc le σ = .ok (.ret v,le') σ':=by
 show R.bind (aA T (aa T Sp n) st sc le σ) _=_
 (refine b_ h ?_);rfl
theorem g0{st:T9}{r:List T9}(h:aA T (aa T Sp n) st sc le σ = .exc σ'):(aa T Sp (n+1)).ex (st::r) sc le σ = .exc σ':=by
 show R.bind (aA T (aa T Sp n) st sc le σ) _=_
 (refine b_ h ?_);rfl
theorem vB{t:Expr}{b o:List T9}{p:Vw}(h:(aa T Sp n).te t sc le σ = .ok Zm σ'):aA T (aa T Sp n) (.If t b o p) sc le σ=(aa T Sp n).ex b sc le σ':=by
 show R.bind ((aa T Sp n).te t sc le σ) _=_
 (refine b_ h ?_);rfl
theorem jU{t:Expr}{b o:List T9}{p:Vw}(h:(aa T Sp n).te t sc le σ = .ok Zn σ'):aA T (aa T Sp n) (.If t b o p) sc le σ=(aa T Sp n).ex o sc le σ':=by
 show R.bind ((aa T Sp n).te t sc le σ) _=_
 (refine b_ h ?_);rfl
theorem wo{e:Expr}{p:Vw}{v:V}(h:(aa T Sp n).ev e sc le σ = .ok v σ'):aA T (aa T Sp n) (.Return (Zj e) p) sc le σ = .ok (.ret v,le) σ':=by
 show R.bind ((aa T Sp n).ev e sc le σ) _=_
 (refine b_ h ?_);rfl
theorem Bj{e:Expr}{p:Vw}(h:(aa T Sp n).ev e sc le σ = .exc σ'):aA T (aa T Sp n) (.Return (Zj e) p) sc le σ = .exc σ':=by
 show R.bind ((aa T Sp n).ev e sc le σ) _=_
 (refine b_ h ?_);rfl
theorem sH{e:Expr}{p:Vw}{v:V}(hc:eA e=Zn)(h:(aa T Sp n).ev e sc le σ = .ok v σ'):aA T (aa T Sp n) (.Expr e p) sc le σ = .ok (.next,le) σ':=by
 show ac (eA e) .no (R.bind ((aa T Sp n).ev e sc le σ) _)=_
 (refine b_ hc ?_;refine b_ h ?_);rfl
theorem CE{e:Expr}{p:Vw}(hc:eA e=Zn)(h:(aa T Sp n).ev e sc le σ = .exc σ'):aA T (aa T Sp n) (.Expr e p) sc le σ = .exc σ':=by
 show ac (eA e) .no (R.bind ((aa T Sp n).ev e sc le σ) _)=_
 (refine b_ hc ?_;refine b_ h ?_);rfl
theorem dF{t e:Expr}{p:Vw}{v:V}(hc:gW e=Zk)(hb:fI t e=Zn)(h:(aa T Sp n).ev e sc le σ = .ok v σ'):aA T (aa T Sp n) (.Assign [t] e p) sc le σ=(assign T (aa T Sp n) t sc le v σ').bind λle s => .ok (.next,le) s:=by
 show ag (gW e) (ac (fI t e) .no (R.bind ((aa T Sp n).ev e sc le σ) _)) (λc=>jD (aa T Sp n) t c sc le σ)=_
 refine b_ hc ?_
 show ac (fI t e) .no (R.bind ((aa T Sp n).ev e sc le σ) _)=_
 (refine b_ hb ?_;refine b_ h ?_);rfl
theorem uc{t e:Expr}{p:Vw}(hc:gW e=Zk)(hb:fI t e=Zn)(h:(aa T Sp n).ev e sc le σ = .exc σ'):aA T (aa T Sp n) (.Assign [t] e p) sc le σ = .exc σ':=by
 show ag (gW e) (ac (fI t e) .no (R.bind ((aa T Sp n).ev e sc le σ) _)) (λc=>jD (aa T Sp n) t c sc le σ)=_
 refine b_ hc ?_
 show ac (fI t e) .no (R.bind ((aa T Sp n).ev e sc le σ) _)=_
 (refine b_ hb ?_;refine b_ h ?_);rfl
theorem sa{t i:Expr}{b:List T9}{p:Vw}{xs:List SQ}(h:(aa T Sp n).ev i sc le σ = .ok (.d (.list xs)) σ'):aA T (aa T Sp n) (.For t i b [] p) sc le σ=aK T (aa T Sp n) t b sc (fL xs) le σ':=by
 show R.bind ((aa T Sp n).ev i sc le σ) _=_
 (refine b_ h ?_);rfl
theorem zv{t i:Expr}{b:List T9}{p:Vw}{k:Int}(h:(aa T Sp n).ev i sc le σ = .ok (.rng k) σ'):aA T (aa T Sp n) (.For t i b [] p) sc le σ=aK T (aa T Sp n) t b sc (eP k.toNat) le σ':=by
 show R.bind ((aa T Sp n).ev i sc le σ) _=_
 (refine b_ h ?_);rfl
theorem d0{e:Expr}{v:V}(h:(aa T Sp (n+1)).ev e sc le σ = .ok v σ'):(aa T Sp (n+2)).es [e] sc le σ = .ok [v] σ':=by
 show R.bind ((aa T Sp (n+1)).ev e sc le σ) _=_
 (refine b_ h ?_);rfl
theorem vD{e:Expr}(h:(aa T Sp (n+1)).ev e sc le σ = .exc σ'):(aa T Sp (n+2)).es [e] sc le σ = .exc σ':=by
 show R.bind ((aa T Sp (n+1)).ev e sc le σ) _=_
 (refine b_ h ?_);rfl
theorem Ib{es:List Expr}{p:Vw}{vs:List V}(h:(aa T Sp n).es es sc le σ = .ok vs σ'):(aa T Sp (n+1)).ev (.List es p) sc le σ=σ'.newL vs:=by
 show R.bind ((aa T Sp n).es es sc le σ) _=_
 (refine b_ h ?_);rfl
theorem Ci{es:List Expr}{p:Vw}(h:(aa T Sp n).es es sc le σ = .exc σ'):(aa T Sp (n+1)).ev (.List es p) sc le σ = .exc σ':=by
 show R.bind ((aa T Sp n).es es sc le σ) _=_
 (refine b_ h ?_);rfl
theorem sN{o c:Expr}{m:Tq}{p p':Vw}{vo v:V}{k:MK}(hs:hG c=Zn)(ho:cX o=Zn)(hl:Ue p.endLine p'.line=Zm)(h1:(aa T Sp n).ev o sc le σ = .ok vo σ)(hk:d7 T vo m σ=Zj k)
  (h2:(aa T Sp n).es [c] sc le σ = .ok [v] σ'):(aa T Sp (n+1)).ev (.Call (.Attribute o m p) [c] [] p') sc le σ=iV (aa T Sp n) k vo [v] σ':=by
 show ac (bH 20 [c]) (ac (cX o) (R.no:R V) (ac (Ue p.endLine p'.line) (R.bind ((aa T Sp n).ev o sc le σ) _) (R.no:R V))) (R.no:R V)=_
 rw[(by show ac (hG c) Zn _=_;rw[hs];rfl:bH 20 [c]=Zm),ho,hl,h1]
 show ag (d7 T vo m σ) (R.no:R V) _=_
 refine b_ hk ?_
 show R.bind ((aa T Sp n).es [c] sc le σ) _=_
 (refine b_ h2 ?_);rfl
theorem Ep{o c:Expr}{m:Tq}{p p':Vw}{vo:V}{k:MK}(hs:hG c=Zn)(ho:cX o=Zn)(hl:Ue p.endLine p'.line=Zm)(h1:(aa T Sp n).ev o sc le σ = .ok vo σ)(hk:d7 T vo m σ=Zj k)
  (h2:(aa T Sp n).es [c] sc le σ = .exc σ'):(aa T Sp (n+1)).ev (.Call (.Attribute o m p) [c] [] p') sc le σ = .exc σ':=by
 show ac (bH 20 [c]) (ac (cX o) (R.no:R V) (ac (Ue p.endLine p'.line) (R.bind ((aa T Sp n).ev o sc le σ) _) (R.no:R V))) (R.no:R V)=_
 have hf:bH 20 [c]=Zm:=by show ac (hG c) Zn _=_;(refine b_ hs ?_);rfl
 refine b_ hf ?_;refine b_ ho ?_;refine b_ hl ?_;refine b_ h1 ?_
 show ag (d7 T vo m σ) (R.no:R V) _=_
 refine b_ hk ?_
 show R.bind ((aa T Sp n).es [c] sc le σ) _=_
 (refine b_ h2 ?_);rfl
theorem rP{l r:Expr}{op:Xf}{p:Vw}{a b:V}{E_:VS}(h1:(aa T Sp n).ev l sc le σ = .ok a σ')(h2:(aa T Sp n).ev r sc le σ' = .ok b E_):(aa T Sp (n+1)).ev (.BinOp l op r p) sc le σ=nX op a b E_:=by
 show R.bind ((aa T Sp n).ev l sc le σ) _=_
 refine b_ h1 ?_
 show R.bind ((aa T Sp n).ev r sc le σ') _=_
 (refine b_ h2 ?_);rfl
theorem bC{f:Expr}{as:List Expr}{p:Vw}{vf:V}{vs:List V}{σ₁ σ₂:VS}(ha:fP f=Zk)(hw:bH 20 as=Zm)(h1:(aa T Sp n).ev f sc le σ = .ok vf σ₁)(h2:(aa T Sp n).es as sc le σ₁ = .ok vs σ₂) :
  (aa T Sp (n+1)).ev (.Call f as [] p) sc le σ=(aa T Sp n).cl vf vs σ₂:=by
 show ac (bH 20 as) (match fP f with
  | some (o,m,p')=>ac (cX o) (R.no:R V) (ac (Ue p'.endLine p.line) (R.bind ((aa T Sp n).ev o sc le σ) _) (R.no:R V))
  | none=>R.bind ((aa T Sp n).ev f sc le σ) λf s=>R.bind ((aa T Sp n).es as sc le s) λas s=>(aa T Sp n).cl f as s) (R.no:R V)=_
 refine b_ hw ?_;refine b_ ha ?_;refine b_ h1 ?_
 show R.bind ((aa T Sp n).es as sc le σ₁) _=_
 (refine b_ h2 ?_);rfl
theorem KO{b:List T9}{hs:List Uk}{h:Uk}{p:Vw}{c:Tc}{i:Int}{nm:Option Tq}{b₀:T9}{bs:List T9}{r:R (Fl×LE)}(hx:σ.x=Zk)(hq:bP b=Zm)(hb:(aa T Sp n).ex b sc le σ = .exc σ')(h1:σ'.x=Zj (c,i))
  (hh:cx T sc (h::hs) c=Zj (nm,b₀::bs)) (hr:(aa T Sp n).ex (b₀::bs) sc (ag nm le λx=>aR le x .exc) σ'=r):aA T (aa T Sp n) (.Try b (h::hs) [] [] p) sc le σ=ez sc nm r:=by
 show ac (hU [Zm,Zm,bP b]) (calm σ _) (R.no:R (Fl×LE))=_
 (refine b_ (hq ..) ?_;try (with_reducible rfl))
 show calm σ _=_
 unfold calm
 (refine b_ (hx ..) ?_;try (with_reducible rfl))
 show Gr ((aa T Sp n).ex b sc le σ) _=_
 (refine b_ (hb ..) ?_;try (with_reducible rfl))
 show vk T (aa T Sp n) (h::hs) sc le σ'=_
 unfold vk
 (refine b_ (h1 ..) ?_;try (with_reducible rfl))
 show ag (cx T sc (h::hs) c) _ _=_
 (refine b_ (hh ..) ?_;try (with_reducible rfl))
 show ez sc nm ((aa T Sp n).ex (b₀::bs) sc (ag nm le λx=>aR le x .exc) σ')=_
 exact b_ hr rfl
theorem Er{b:List T9}{hs:List Uk}{h:Uk}{p:Vw}{a:Fl×LE}(hx:σ.x=Zk)(hq:bP b=Zm)(hb:(aa T Sp n).ex b sc le σ = .ok a σ'):aA T (aa T Sp n) (.Try b (h::hs) [] [] p) sc le σ = .ok a σ':=by
 show ac (hU [Zm,Zm,bP b]) (calm σ _) (R.no:R (Fl×LE))=_
 refine b_ hq ?_
 show calm σ _=_
 unfold calm;refine b_ hx ?_
 show Gr ((aa T Sp n).ex b sc le σ) _=_
 refine b_ hb ?_
 rfl
theorem iY{a:Tc}{fn:Fn}{as:List V}{l:LE}{r:R (Fl×LE)}(hs:Sp a=Zk)(hf:T.fn a=Zj fn)(hz:pu fn.params as=Zj l)(h:(aa T Sp n).ex fn.body fn.scope l σ=r) :
  (aa T Sp (n+1)).cl (.val (.ref a)) as σ=r.bind λp s₁=>br (len σ.o) p s₁:=by
 show ag (Sp a) (ag (T.fn a) _ λfn=>gr (aa T Sp n) fn as σ) _=_
 (refine b_ (hs ..) ?_;try (with_reducible rfl))
 show ag (T.fn a) _ (λfn=>gr (aa T Sp n) fn as σ)=_
 (refine b_ (hf ..) ?_;try (with_reducible rfl))
 show gr (aa T Sp n) fn as σ=_
 unfold gr
 (refine b_ (hz ..) ?_;try (with_reducible rfl))
 show R.bind ((aa T Sp n).ex fn.body fn.scope l σ) _=_
 exact b_ h rfl
theorem bM{t:Expr}{b:List T9}(hx:σ.x=Zk):aK T (aa T Sp n) t b sc [] le σ = .ok (.next,le) σ:=by
 show calm σ (R.ok (Fl.next,le) σ)=_
 unfold calm;(exact b_ hx rfl)
theorem bG{t:Expr}{b:List T9}{v:V}{l:List V}{K_:LE}{σ₁:VS}{r:R (Fl×LE)}(hx:σ.x=Zk)(ha:assign T (aa T Sp n) t sc le v σ = .ok K_ σ₁)(h:(aa T Sp n).ex b sc K_ σ₁=r) :
  aK T (aa T Sp n) t b sc (v::l) le σ=aT sc (len σ.o) (aK T (aa T Sp n) t b sc l) r:=by
 show calm σ (R.bind (assign T (aa T Sp n) t sc le v σ) _)=_
 unfold calm;(refine b_ hx ?_;refine b_ ha ?_)
 show aT sc (len σ.o) _ ((aa T Sp n).ex b sc K_ σ₁)=_
 refine b_ h ?_
 rfl
theorem su{m:Nat}{k:LE->VS->R (Fl×LE)}{s:VS}:aT sc m k (.exc s) = .exc s:=rfl
end
end
section
open PySem
inductive Ent where
 | i (v:Int)
 | b (v:Bool)
noncomputable def Ent.d:Ent->SQ
 | .i v => .tuple [.int 0,.int v]
 | .b v => .tuple [.int 4,.bool v]
noncomputable def Ent.v:Ent->SQ
 | .i v => .int v
 | .b v => .bool v
structure n_ where
 c0:Int
 c1:Int
 c2:Int
 b3:Bool
 b4:Bool
 c5:Int
 d_:Int
noncomputable def n_.cells(c:n_):List SQ:=[.int c.c0,.int c.c1,.int c.c2,.bool c.b3,.bool c.b4,.int c.c5,.int c.d_]
noncomputable def n_.num(c:n_):List SQ:=[.tuple [.int 0,.int c.c0],.tuple [.int 0,.int c.c1],.tuple [.int 0,.int c.c2],.tuple [.int 4,.bool c.b3],.tuple [.int 4,.bool c.b4],.tuple [.int 0,.int c.c5],.tuple [.int 7,.int c.d_]]
noncomputable def j9:Tq:=⟨⟨[85,78,73,84]⟩⟩
noncomputable def zn:Tq:=⟨⟨[70,77,84]⟩⟩
noncomputable def aX(io en er:Bool)(o:Bool)(u f:SQ):List (SQ×SQ):=b7 io en er++ac o [(.str j9,u),(.str zn,f)] [(.str zn,f),(.str j9,u)]
noncomputable def aW(en er:Bool):List SQ:=ac en (.int 100::ac er [.int 200] []) (ac er [.int 200] [])
structure Hp where
 a:Int
 xs:List SQ
 seen:List SQ
 m_:List SQ
 num:List SQ
 inp:List SQ
 B':Int
 out:List SQ
 OG:List SQ
 OW:List SQ
 cells:List SQ
noncomputable def Hp.o(h:Hp)(tr:O):List O:=hp h.a h.xs h.seen h.m_ h.num tr h.inp h.B' h.out h.OG h.OW h.cells
noncomputable def cP(isEnd io en er:Bool):Option Int:=ac isEnd (ac en (Zj 1) (ac io (Zj 0) Zk)) (ac er (ac en (Zj 2) (Zj 1)) (ac io (Zj 0) Zk))
noncomputable def cg(io:Bool)(code:Int):O:=ac io (.a_ [.int code]) (.a_ [])
noncomputable def f8(io:Bool)(c:Nat):Nat:=ac io c (c+1)
end
section
open PySem
noncomputable def bB:Tq:=⟨⟨[109,97,99,104,105,110,101]⟩⟩
noncomputable def bE:Tq:=⟨⟨[115,116,97,116,101,109,101,110,116]⟩⟩
noncomputable def pP:Tq:=⟨⟨[119,111,114,100]⟩⟩
noncomputable def dZ:Tq:=⟨⟨[99,111,110,116,114,111,108]⟩⟩
noncomputable def wf:Tq:=⟨⟨[119,97,121]⟩⟩
noncomputable def jn:Tq:=⟨⟨[117,110,105,116]⟩⟩
noncomputable def i0:Tq:=⟨⟨[105,116,101,109,115]⟩⟩
noncomputable def EX:Tq:=⟨⟨[111,112,115]⟩⟩
noncomputable def fq:Tq:=⟨⟨[118,97,108,117,101,115]⟩⟩
noncomputable def jy:Tq:=⟨⟨[114,101,115,116]⟩⟩
noncomputable def t6:Tq:=⟨⟨[119,97,121,115]⟩⟩
noncomputable def eC:Tq:=⟨⟨[107,105,110,100]⟩⟩
noncomputable def hJ:Tq:=⟨⟨[105,115,95,119,104,111,108,101]⟩⟩
noncomputable def kX:Tq:=⟨⟨[110,117,109,98,101,114]⟩⟩
noncomputable def kK:Tq:=⟨⟨[112,108,97,99,101]⟩⟩
noncomputable def fz:Tq:=⟨⟨[119,111,114,108,100]⟩⟩
noncomputable def aP:Tq:=⟨⟨[114,101,99,111,114,100]⟩⟩
noncomputable def H3:Tq:=⟨⟨[97,116]⟩⟩
noncomputable def oZ:Tq:=⟨⟨[99,101,108,108,115]⟩⟩
noncomputable def jl:Tq:=⟨⟨[115,101,101,110]⟩⟩
noncomputable def vn:Tq:=⟨⟨[108,97,98,101,108]⟩⟩
noncomputable def EV:Tq:=⟨⟨[111,117,116]⟩⟩
noncomputable def om:Tq:=⟨⟨[115,112,111,116,115]⟩⟩
noncomputable def cu:Tq:=⟨⟨[115,112,111,116]⟩⟩
noncomputable def a8:Tq:=⟨⟨[115,116,97,116,101]⟩⟩
noncomputable def bN:Tq:=⟨⟨[114,101,99,111,114,100,115]⟩⟩
noncomputable def eB:Tq:=⟨⟨[116,117,114,110]⟩⟩
noncomputable def tw:Tq:=⟨⟨[100,117,101,95,115,101,101,110]⟩⟩
noncomputable def Kx:Tq:=⟨⟨[100,117,101]⟩⟩
noncomputable def GO:Tq:=⟨⟨[116,111,108,100]⟩⟩
noncomputable def bX:Tq:=⟨⟨[115,99,114,105,112,116]⟩⟩
noncomputable def tj:Tq:=⟨⟨[115,105,122,101]⟩⟩
noncomputable def DG:Tq:=⟨⟨[104,101,101,100,115]⟩⟩
noncomputable def qV:Tq:=⟨⟨[108,97,98,101,108,115]⟩⟩
noncomputable def HT:Tq:=⟨⟨[102,105,108,101]⟩⟩
noncomputable def oz:Tq:=⟨⟨[116,111,108,100,95,99,101,108,108,115]⟩⟩
noncomputable def BA:Tq:=⟨⟨[109,101,109,111,114,121]⟩⟩
end
section
open PySem
noncomputable def j_:Fn:=aI 100
noncomputable def bx:T9:=ai j_.body 4
noncomputable def m1:SQ := .int (-1)
noncomputable def wl(d:Nat):List SQ:=Ur d m1
noncomputable def s9:O := .inst 386 [(fz,.ref 24)]
noncomputable def y3(rec:List SQ)(k:Nat):O := .inst 754 [(aP,.d (.list rec)),(H3,.d (.int (Tn k)))]
noncomputable def eZ(t:Nat)(kvs:List (SQ×SQ))(lb:List SQ):O := .p_ [.tup [.ref t,.d (.dict kvs),.d (.list lb),.d .none]]
structure Tl where
 w:Tq
 ct:List (SQ×SQ)
 st:SQ
 way:SQ
 u:SQ
 items:SQ
 values:SQ
 rest:SQ
noncomputable def gU(t:Tl)(wi:Nat):LE:=[(bB,.ref 12),(bE,.d t.st),(pP,.d (.str t.w)),(dZ,.d (.dict t.ct)),(wf,.d t.way),(jn,.d t.u),(i0,.d t.items),(EX,.ref 22),(fq,.d t.values),(jy,.d t.rest),(t6,.ref wi)]
noncomputable def bf(t:Tl)(wi:Nat)(a b c d:SQ):LE:=gU t wi++[(eC,.d a),(hJ,.d b),(kX,.d c),(kK,.d d)]
noncomputable def mS{α:Type}(a b c d e f:α)(s:Nat):α:=@VB (λ_=>α) s a λs=>@VB (λ_=>α) s b λs=>@VB (λ_=>α) s c λs=>@VB (λ_=>α) s d λs=>@VB (λ_=>α) s e λ_=>f
theorem qO{α:Type}{P:α->Prop}{a b c d e f:α}(ha:P a)(hb:P b)(hc:P c)(hd:P d)(he:P e)(hf:P f)(s:Nat):P (mS a b c d e f s):=
 @VB (λs=>P (mS a b c d e f s)) s ha λs=>@VB (λs=>P (mS a b c d e f (s+1))) s hb λs=>@VB (λs=>P (mS a b c d e f (s+1+1))) s hc λs=>@VB (λs=>P (mS a b c d e f (s+1+1+1))) s hd λs=>@VB (λs=>P (mS a b c d e f (s+1+1+1+1))) s he λ_=>hf
noncomputable def n_.put(c:n_)(s:Nat)(e:Ent):n_:=@Ent.casesOn (λ_=>n_) e (λv=>mS { c with c0:=v } { c with c1:=v } { c with c2:=v } c c c s) λv=>mS c c c { c with b3:=v } { c with b4:=v } c s
noncomputable def Ow(h:Hp)(c:n_)(rec:List SQ)(k:Nat)(kvs:List (SQ×SQ))(lb ways:List SQ)(cap:Nat):VS:=⟨({ h with num:=c.num }).o (eZ 35 kvs lb)++[s9,y3 rec k,.a_ ways],Zk,cap⟩
noncomputable def bV(k4 wh:Bool):SQ:=ac k4 (.tuple [.int 4,.int 3,.int 0,ac wh (.tuple [.tuple [.int 1,.int 2]]) (.tuple [])]) (.tuple [.int 0,.int 0,.int 0,ac wh (.tuple [.tuple [.int 1,.int 3]]) (.tuple [])])
noncomputable def kd(k4:Bool):SQ:=ac k4 (.int 4) (.int 0)
noncomputable def mP(k4 wh:Bool)(x:Int):SQ := .tuple [kd k4,.bool wh,.int x]
noncomputable def aL(n:Nat)(l:List V)(le:LE)(σ:VS):R (Fl×LE):=aK T0 (aa T0 af (n+60)) (aq bx) (az bx) j_.scope l le σ
section
variable(n:Nat)(h:Hp)(t:Tl)(c:n_)(kvs:List (SQ×SQ))(lb:List SQ)(cap:Nat)(x:Int)(l:List V)(rest:List SQ)
theorem CZ(i_:Bool)(a1 a2 a3 a4:SQ)(d:Nat)(hd:d < 3)(pre:List SQ)(hk:pre.length < 4)(v:Int) :
  aL n (.d (mP Zn Zn x)::l) (ac i_ (gU { t with w:=ay } 36) (bf { t with w:=ay } 36 a1 a2 a3 a4)) (Ow h c (pre++(Ent.i v).d::rest) pre.length kvs lb (wl (d+1)) (cap+1))
   = aL n l (bf { t with w:=ay } 36 (kd Zn) (.bool Zn) (.int x) (bV Zn Zn)) (Ow h (c.put 0 (.i v)) (pre++(Ent.i v).d::rest) (pre.length+1) kvs lb (wl (d+2)) cap):=by
 apply AB pre hk<;>intros<;>apply sB d hd<;>(apply bt i_;kernel_rfl)
theorem EC(i_:Bool)(a1 a2 a3 a4:SQ)(d:Nat)(hd:d < 3)(pre:List SQ)(hk:pre.length < 4)(v:Bool) :
  aL n (.d (mP Zm Zn x)::l) (ac i_ (gU { t with w:=ay } 36) (bf { t with w:=ay } 36 a1 a2 a3 a4)) (Ow h c (pre++(Ent.b v).d::rest) pre.length kvs lb (wl (d+1)) (cap+1))
   = aL n l (bf { t with w:=ay } 36 (kd Zm) (.bool Zn) (.int x) (bV Zm Zn)) (Ow h (c.put 3 (.b v)) (pre++(Ent.b v).d::rest) (pre.length+1) kvs lb (wl (d+2)) cap):=by
 apply AB pre hk<;>intros<;>apply sB d hd<;>(apply bt i_;kernel_rfl)
theorem AK(i_:Bool)(a1 a2 a3 a4:SQ)(d:Nat)(hd:d < 3)(pre:List SQ)(hk:pre.length < 2)(v0 v1 v2:Int) :
  aL n (.d (mP Zn Zm x)::l) (ac i_ (gU { t with w:=ay } 36) (bf { t with w:=ay } 36 a1 a2 a3 a4)) (Ow h c (pre++(Ent.i v0).d::(Ent.i v1).d::(Ent.i v2).d::rest) pre.length kvs lb (wl (d+1)) (cap+4))
   = aL n l (bf { t with w:=ay } 36 (kd Zn) (.bool Zm) (.int x) (bV Zn Zm)) (Ow h (((c.put 0 (.i v0)).put 1 (.i v1)).put 2 (.i v2)) (pre++(Ent.i v0).d::(Ent.i v1).d::(Ent.i v2).d::rest) (pre.length+3) kvs lb (wl (d+2)) cap):=by
 apply Ng pre hk<;>intros<;>apply sB d hd<;>(apply bt i_;kernel_rfl)
theorem BF(i_:Bool)(a1 a2 a3 a4:SQ)(d:Nat)(hd:d < 3)(pre:List SQ)(hk:pre.length < 3)(v0 v1:Bool) :
  aL n (.d (mP Zm Zm x)::l) (ac i_ (gU { t with w:=ay } 36) (bf { t with w:=ay } 36 a1 a2 a3 a4)) (Ow h c (pre++(Ent.b v0).d::(Ent.b v1).d::rest) pre.length kvs lb (wl (d+1)) (cap+3))
   = aL n l (bf { t with w:=ay } 36 (kd Zm) (.bool Zm) (.int x) (bV Zm Zm)) (Ow h ((c.put 3 (.b v0)).put 4 (.b v1)) (pre++(Ent.b v0).d::(Ent.b v1).d::rest) (pre.length+2) kvs lb (wl (d+2)) cap):=by
 apply Mv pre hk<;>intros<;>apply sB d hd<;>(apply bt i_;kernel_rfl)
end
end
section
open PySem
noncomputable def Ds:Tq:=⟨⟨[109,97,107,101,114]⟩⟩
noncomputable def GN(kvs:List (SQ×SQ))(its:List SQ):List O:=[.inst 719 [(i0,.ref 35)],.a_ its,.inst 477 [(fz,.ref 24),(dZ,.d (.dict kvs)),(Ds,.ref 34)]]
noncomputable def PU(h:Hp)(c:n_)(its:List SQ)(kvs:List (SQ×SQ))(lb ways:List SQ)(cap:Nat):VS:=⟨({ h with num:=c.num }).o (eZ 36 kvs lb)++(GN kvs its++[.a_ ways]),Zk,cap⟩
noncomputable def uI(k4:Bool)(x:Int):SQ:=ac k4 (.bool (bR (Y6 x 2) 1)) (.int (x - 3))
section
variable(n:Nat)(h:Hp)(t:Tl)(c:n_)(kvs:List (SQ×SQ))(lb:List SQ)(cap:Nat)(x:Int)(l:List V)(its:List SQ)
theorem GE(i_:Bool)(a1 a2 a3 a4:SQ)(d:Nat)(hd:d < 3) :
  aL n (.d (mP Zn Zn x)::l) (ac i_ (gU { t with w:=aY } 37) (bf { t with w:=aY } 37 a1 a2 a3 a4)) (PU h c its kvs lb (wl (d+1)) (cap+2))
   = aL n l (bf { t with w:=aY } 37 (kd Zn) (.bool Zn) (.int x) (bV Zn Zn)) (PU h c (its++[.tuple [.int 0,uI Zn x]]) kvs lb (wl (d+2)) cap):=by
 apply sB d hd<;>(apply bt i_;kernel_rfl)
theorem Ha(i_:Bool)(a1 a2 a3 a4:SQ)(d:Nat)(hd:d < 3) :
  aL n (.d (mP Zm Zn x)::l) (ac i_ (gU { t with w:=aY } 37) (bf { t with w:=aY } 37 a1 a2 a3 a4)) (PU h c its kvs lb (wl (d+1)) (cap+2))
   = aL n l (bf { t with w:=aY } 37 (kd Zm) (.bool Zn) (.int x) (bV Zm Zn)) (PU h c (its++[.tuple [.int 4,uI Zm x]]) kvs lb (wl (d+2)) cap):=by
 apply sB d hd<;>(apply bt i_;kernel_rfl)
theorem D0(i_:Bool)(a1 a2 a3 a4:SQ)(d:Nat)(hd:d < 3) :
  aL n (.d (mP Zn Zm x)::l) (ac i_ (gU { t with w:=aY } 37) (bf { t with w:=aY } 37 a1 a2 a3 a4)) (PU h c its kvs lb (wl (d+1)) (cap+7))
   = aL n l (bf { t with w:=aY } 37 (kd Zn) (.bool Zm) (.int x) (bV Zn Zm)) (PU h c (its++[.tuple [.int 0,.int c.c0]]++[.tuple [.int 0,.int c.c1]]++[.tuple [.int 0,.int c.c2]]) kvs lb (wl (d+2)) cap):=by
 apply sB d hd<;>(apply bt i_;kernel_rfl)
theorem Cr(i_:Bool)(a1 a2 a3 a4:SQ)(d:Nat)(hd:d < 3) :
  aL n (.d (mP Zm Zm x)::l) (ac i_ (gU { t with w:=aY } 37) (bf { t with w:=aY } 37 a1 a2 a3 a4)) (PU h c its kvs lb (wl (d+1)) (cap+5))
   = aL n l (bf { t with w:=aY } 37 (kd Zm) (.bool Zm) (.int x) (bV Zm Zm)) (PU h c (its++[.tuple [.int 4,.bool c.b3]]++[.tuple [.int 4,.bool c.b4]]) kvs lb (wl (d+2)) cap):=by
 apply sB d hd<;>(apply bt i_;kernel_rfl)
end
end
section
open PySem
noncomputable def A_(h:Hp)(c:n_)(tr:O)(rec:List SQ)(k:Nat)(tl:List O)(x:Option (Tc×Int))(cap:Nat):VS:=⟨({ h with num:=c.num }).o tr++s9::y3 rec k::tl,x,cap⟩
noncomputable def Hu(k4:Bool)(b:Bool)(i:Int):Ent:=ac k4 (.i i) (.b b)
noncomputable def bo(k4:Bool)(b:Bool)(i:Int)(empty:Bool)(rest:List SQ):List SQ:=ac empty [] ((Hu k4 b i).d::rest)
noncomputable def ge(io en er:Bool)(h:Hp)(c:n_)(rec:List SQ)(k:Nat)(tl:List O)(cap:Nat):R V:=
 ag (cP Zn io en er) (.exc (A_ h c (.a_ []) rec k tl (Zj (70,7)) (cap+1))) λw => .ok (.d (.int w)) (A_ h c (cg io 7) rec k tl Zk (f8 io cap))
section
variable(n:Nat)(h:Hp)(c:n_)(u f:SQ)(cap:Nat)(x:SQ)(rest ways pl:List SQ)(b:Bool)(i ad:Int)
noncomputable def bO(k4:Bool)(ad:Int):SQ := .tuple [kd k4,.int ad,.int 0,.tuple []]
theorem yb(pre:List SQ)(hk:pre.length < 5)(io en er o:Bool) :
  (aa T0 af (n+45)).cl (.val (.ref 605)) [.ref 12,.ref 37,.d (kd Zn)] (A_ h c (eZ 35 (aX io en er o u f) (aW en er)) (pre++bo Zn b i Zm rest) pre.length [.a_ ways,.a_ [bO Zn ad]] Zk (cap+1))
   = ge io en er h c (pre++bo Zn b i Zm rest) pre.length [.a_ ways,.a_ [bO Zn ad]] cap:=by
 apply F7 pre hk<;>intros<;>(apply km io en er o;kernel_rfl)
theorem ym(pre:List SQ)(hk:pre.length < 5)(io en er o:Bool) :
  (aa T0 af (n+45)).cl (.val (.ref 605)) [.ref 12,.ref 38,.d (kd Zn)] (A_ h c (eZ 35 (aX io en er o u f) (aW en er)) (pre++bo Zn b i Zm rest) pre.length [.a_ ways,.a_ pl,.a_ [bO Zn ad]] Zk (cap+1))
   = ge io en er h c (pre++bo Zn b i Zm rest) pre.length [.a_ ways,.a_ pl,.a_ [bO Zn ad]] cap:=by
 apply F7 pre hk<;>intros<;>(apply km io en er o;kernel_rfl)
theorem xP(pre:List SQ)(hk:pre.length < 4)(io en er o:Bool) :
  (aa T0 af (n+45)).cl (.val (.ref 605)) [.ref 12,.ref 37,.d (kd Zn)] (A_ h c (eZ 35 (aX io en er o u f) (aW en er)) (pre++bo Zn b i Zn rest) pre.length [.a_ ways,.a_ [bO Zn ad]] Zk (cap+1))
   = ge io en er h c (pre++bo Zn b i Zn rest) pre.length [.a_ ways,.a_ [bO Zn ad]] cap:=by
 apply AB pre hk<;>intros<;>(apply km io en er o;kernel_rfl)
theorem wN(pre:List SQ)(hk:pre.length < 4)(io en er o:Bool) :
  (aa T0 af (n+45)).cl (.val (.ref 605)) [.ref 12,.ref 38,.d (kd Zn)] (A_ h c (eZ 35 (aX io en er o u f) (aW en er)) (pre++bo Zn b i Zn rest) pre.length [.a_ ways,.a_ pl,.a_ [bO Zn ad]] Zk (cap+1))
   = ge io en er h c (pre++bo Zn b i Zn rest) pre.length [.a_ ways,.a_ pl,.a_ [bO Zn ad]] cap:=by
 apply AB pre hk<;>intros<;>(apply km io en er o;kernel_rfl)
theorem xZ(pre:List SQ)(hk:pre.length < 5)(io en er o:Bool) :
  (aa T0 af (n+45)).cl (.val (.ref 605)) [.ref 12,.ref 37,.d (kd Zm)] (A_ h c (eZ 35 (aX io en er o u f) (aW en er)) (pre++bo Zm b i Zm rest) pre.length [.a_ ways,.a_ [bO Zm ad]] Zk (cap+1))
   = ge io en er h c (pre++bo Zm b i Zm rest) pre.length [.a_ ways,.a_ [bO Zm ad]] cap:=by
 apply F7 pre hk<;>intros<;>(apply km io en er o;kernel_rfl)
theorem xd(pre:List SQ)(hk:pre.length < 5)(io en er o:Bool) :
  (aa T0 af (n+45)).cl (.val (.ref 605)) [.ref 12,.ref 38,.d (kd Zm)] (A_ h c (eZ 35 (aX io en er o u f) (aW en er)) (pre++bo Zm b i Zm rest) pre.length [.a_ ways,.a_ pl,.a_ [bO Zm ad]] Zk (cap+1))
   = ge io en er h c (pre++bo Zm b i Zm rest) pre.length [.a_ ways,.a_ pl,.a_ [bO Zm ad]] cap:=by
 apply F7 pre hk<;>intros<;>(apply km io en er o;kernel_rfl)
theorem w6(pre:List SQ)(hk:pre.length < 4)(io en er o:Bool) :
  (aa T0 af (n+45)).cl (.val (.ref 605)) [.ref 12,.ref 37,.d (kd Zm)] (A_ h c (eZ 35 (aX io en er o u f) (aW en er)) (pre++bo Zm b i Zn rest) pre.length [.a_ ways,.a_ [bO Zm ad]] Zk (cap+1))
   = ge io en er h c (pre++bo Zm b i Zn rest) pre.length [.a_ ways,.a_ [bO Zm ad]] cap:=by
 apply AB pre hk<;>intros<;>(apply km io en er o;kernel_rfl)
theorem xj(pre:List SQ)(hk:pre.length < 4)(io en er o:Bool) :
  (aa T0 af (n+45)).cl (.val (.ref 605)) [.ref 12,.ref 38,.d (kd Zm)] (A_ h c (eZ 35 (aX io en er o u f) (aW en er)) (pre++bo Zm b i Zn rest) pre.length [.a_ ways,.a_ pl,.a_ [bO Zm ad]] Zk (cap+1))
   = ge io en er h c (pre++bo Zm b i Zn rest) pre.length [.a_ ways,.a_ pl,.a_ [bO Zm ad]] cap:=by
 apply AB pre hk<;>intros<;>(apply km io en er o;kernel_rfl)
end
end
section
open PySem
noncomputable def P8:Fn:=aI 77
noncomputable def eF:T9:=ai P8.body 0
noncomputable def mH:T9:=ai (az eF) 0
noncomputable def LO:T9:=ai (az eF) 1
noncomputable def gq(k4:Bool):LE:=[(bB,.ref 12),(fq,.ref 37),(jy,.d (kd k4))]
noncomputable def dy(k4:Bool)(p w:SQ):LE:=gq k4++[(kK,.d p),(wf,.d w)]
noncomputable def dG(n:Nat)(l:List V)(le:LE)(σ:VS):R (Fl×LE):=aK T0 (aa T0 af (n+51)) (aq eF) (az eF) P8.scope l le σ
section
variable(n:Nat)(h:Hp)(c:n_)(u f:SQ)(cap:Nat)(kvs:List (SQ×SQ))(lb rest ways pl:List SQ)(b:Bool)(i ad:Int)(l:List V)(a1 a2:SQ)
theorem FL(fi:Bool)(pre:List SQ)(hk:pre.length < 4)(v:Int) :
  dG n (.d (bO Zn 0)::l) (ac fi (gq Zn) (dy Zn a1 a2)) (A_ h c (eZ 35 kvs lb) (pre++(Ent.i v).d::rest) pre.length [.a_ ways,.a_ pl] Zk cap)
   = dG n l (dy Zn (bO Zn 0) m1) (A_ h (c.put 0 (.i v)) (eZ 35 kvs lb) (pre++(Ent.i v).d::rest) (pre.length+1) [.a_ ways,.a_ pl] Zk cap):=by
 apply AB pre hk<;>intros<;>(apply bt fi;kernel_rfl)
theorem KL(fi:Bool)(pre:List SQ)(hk:pre.length < 4)(v:Int) :
  dG n (.d (bO Zn 1)::l) (ac fi (gq Zn) (dy Zn a1 a2)) (A_ h c (eZ 35 kvs lb) (pre++(Ent.i v).d::rest) pre.length [.a_ ways,.a_ pl] Zk cap)
   = dG n l (dy Zn (bO Zn 1) m1) (A_ h (c.put 1 (.i v)) (eZ 35 kvs lb) (pre++(Ent.i v).d::rest) (pre.length+1) [.a_ ways,.a_ pl] Zk cap):=by
 apply AB pre hk<;>intros<;>(apply bt fi;kernel_rfl)
theorem KM(fi:Bool)(pre:List SQ)(hk:pre.length < 4)(v:Bool) :
  dG n (.d (bO Zm 3)::l) (ac fi (gq Zm) (dy Zm a1 a2)) (A_ h c (eZ 35 kvs lb) (pre++(Ent.b v).d::rest) pre.length [.a_ ways,.a_ pl] Zk cap)
   = dG n l (dy Zm (bO Zm 3) m1) (A_ h (c.put 3 (.b v)) (eZ 35 kvs lb) (pre++(Ent.b v).d::rest) (pre.length+1) [.a_ ways,.a_ pl] Zk cap):=by
 apply AB pre hk<;>intros<;>(apply bt fi;kernel_rfl)
theorem vt:az eF=[mH,LO]:=by kernel_rfl
theorem Fi:mH = .Assign [aq mH] (.Call (ba (ae mH)) (aN (ae mH)) [] (ax (ae mH))) (bQ mH):=by kernel_rfl
noncomputable def KC(io en er:Bool)(h:Hp)(c:n_)(rec:List SQ)(k:Nat)(ways pl:List SQ)(k4:Bool)(ad:Int)(le:LE)(cap:Nat):R (Fl×LE):=
 ag (cP Zn io en er) (.exc (A_ h c (.a_ []) rec k [.a_ ways,.a_ pl,.a_ [bO k4 ad]] (Zj (70,7)) (cap+1))) λw => .ok (.ret (.d (.int w)),dy k4 (bO k4 ad) (.int w)) (A_ h c (cg io 7) rec k [.a_ ways,.a_ pl,.a_ [bO k4 ad]] Zk (f8 io cap))
noncomputable def NB(o:Option Int):Bool:=ag o Zm λw=>decide (w=0\/w=1\/w=2)
theorem on{isEnd io en er:Bool}{w:Int}(e:cP isEnd io en er=Zj w):w=0\/w=1\/w=2:=by
 have h:NB (cP isEnd io en er)=Zm:=by(apply km isEnd io en er;kernel_rfl)
 rw[e]at h;exact of_decide_eq_true h
theorem vg{io en er:Bool}{w:Int}(e:cP Zn io en er=Zj w):w=0\/w=1\/w=2:=on e
theorem D5(io:Bool)(c:Nat):c<=f8 io c:=@Uv (λio=>c<=f8 io c) (Xn c) (UG c) io
theorem qS(k4 fi em:Bool)(pre:List SQ)(hk:pre.length < 4\/(pre.length < 5/\em=Zm))(io en er o:Bool) :
  dG n (.d (bO k4 ad)::l) (ac fi (gq k4) (dy k4 a1 a2)) (A_ h c (eZ 35 (aX io en er o u f) (aW en er)) (pre++bo k4 b i em rest) pre.length [.a_ ways,.a_ pl] Zk (cap+1))
   = KC io en er h c (pre++bo k4 b i em rest) pre.length ways pl k4 ad (ac fi (gq k4) (dy k4 a1 a2)) cap:=by
 have hcl:(aa T0 af (n+49)).cl (.val (.ref 605)) [.ref 12,.ref 38,.d (kd k4)] (A_ h c (eZ 35 (aX io en er o u f) (aW en er)) (pre++bo k4 b i em rest) pre.length [.a_ ways,.a_ pl,.a_ [bO k4 ad]] Zk (cap+1))
   = ge io en er h c (pre++bo k4 b i em rest) pre.length [.a_ ways,.a_ pl,.a_ [bO k4 ad]] cap:=by
  cases k4<;>cases em
  ·exact wN (n+4) h c u f cap rest ways pl b i ad pre (by rcases hk with h|⟨_,h⟩;exact h;cases h) io en er o
  ·exact ym (n+4) h c u f cap rest ways pl b i ad pre (by rcases hk with h|⟨h,_⟩<;>lia) io en er o
  ·exact xj (n+4) h c u f cap rest ways pl b i ad pre (by rcases hk with h|⟨_,h⟩;exact h;cases h) io en er o
  ·exact xd (n+4) h c u f cap rest ways pl b i ad pre (by rcases hk with h|⟨h,_⟩<;>lia) io en er o
 generalize hrec:pre++bo k4 b i em rest=rec at hcl ⊢
 generalize pre.length=k at hcl ⊢
 have ev:(aa T0 af (n+50)).ev (.Call (ba (ae mH)) (aN (ae mH)) [] (ax (ae mH))) P8.scope (ac fi (gq k4++[(kK,.d (bO k4 ad))]) (dy k4 (bO k4 ad) a2)) (A_ h c (eZ 35 (aX io en er o u f) (aW en er)) rec k [.a_ ways,.a_ pl] Zk (cap+1))
   = ge io en er h c rec k [.a_ ways,.a_ pl,.a_ [bO k4 ad]] cap:=by
  rw[bC (vf := .val (.ref 605)) (vs:=[.ref 12,.ref 38,.d (kd k4)]) (σ₁:=A_ h c (eZ 35 (aX io en er o u f) (aW en er)) rec k [.a_ ways,.a_ pl] Zk (cap+1)) (σ₂:=A_ h c (eZ 35 (aX io en er o u f) (aW en er)) rec k [.a_ ways,.a_ pl,.a_ [bO k4 ad]] Zk (cap+1))]
  ·exact hcl
  ·kernel_rfl
  ·kernel_rfl
  ·(apply bt fi;kernel_rfl)
  ·(apply bt fi;kernel_rfl)
 have asg:assign T0 (aa T0 af (n+51)) (aq eF) P8.scope (ac fi (gq k4) (dy k4 a1 a2)) (.d (bO k4 ad)) (A_ h c (eZ 35 (aX io en er o u f) (aW en er)) rec k [.a_ ways,.a_ pl] Zk (cap+1))
   = .ok (ac fi (gq k4++[(kK,.d (bO k4 ad))]) (dy k4 (bO k4 ad) a2)) (A_ h c (eZ 35 (aX io en er o u f) (aW en er)) rec k [.a_ ways,.a_ pl] Zk (cap+1)):=by
  (apply bt fi;kernel_rfl)
 unfold dG KC;unfold ge at ev;cases hw:cP Zn io en er with
 | none=>
  rw[hw]at ev;rw[bG (σ:=A_ h c (eZ 35 (aX io en er o u f) (aW en er)) rec k [.a_ ways,.a_ pl] Zk (cap+1)) rfl asg (r := .exc (A_ h c (.a_ []) rec k [.a_ ways,.a_ pl,.a_ [bO k4 ad]] (Zj (70,7)) (cap+1)))]
  ·rfl
  ·(refine b_ vt ?_)
   refine g0 ?_
   refine b_ Fi ?_
   exact uc (by kernel_rfl) (by kernel_rfl) ev
 | some w=>
  rw[hw]at ev;rw[bG (σ:=A_ h c (eZ 35 (aX io en er o u f) (aW en er)) rec k [.a_ ways,.a_ pl] Zk (cap+1)) rfl asg (r := .ok (.ret (.d (.int w)),dy k4 (bO k4 ad) (.int w)) (A_ h c (cg io 7) rec k [.a_ ways,.a_ pl,.a_ [bO k4 ad]] Zk (f8 io cap)))]
  ·rfl
  ·(refine b_ vt ?_)
   refine(aC (le':=dy k4 (bO k4 ad) (.int w)) (σ':=A_ h c (cg io 7) rec k [.a_ ways,.a_ pl,.a_ [bO k4 ad]] Zk (f8 io cap)) ?_).trans ?_
   ·(refine b_ Fi ?_)
    refine(dF (by kernel_rfl) (by kernel_rfl) ev).trans ?_
    (apply bt fi;kernel_rfl)
   ·rcases vg hw with rfl|rfl|rfl<;>kernel_rfl
end
end
section
open PySem
noncomputable def At(io en er:Bool)(h:Hp)(c:n_)(rec:List SQ)(k:Nat)(ways pl:List SQ)(k4:Bool)(ad:Int)(cap:Nat):R V:=
 ag (cP Zn io en er) (.exc (A_ h c (.a_ []) rec k [.a_ ways,.a_ pl,.a_ [bO k4 ad]] (Zj (70,7)) (cap+1))) λw => .ok (.d (.int w)) (A_ h c (cg io 7) rec k [.a_ ways,.a_ pl] Zk (f8 io cap))
noncomputable def Kz(k4:Bool):List V:=ac k4 [.d (bO Zm 3),.d (bO Zm 4)] [.d (bO Zn 0),.d (bO Zn 1),.d (bO Zn 2)]
noncomputable def xp(k4:Bool):Nat:=ac k4 2 3
section
variable(n:Nat)(h:Hp)(c:n_)(u f:SQ)(cap:Nat)(rest ways pl:List SQ)(b:Bool)(i ad:Int)(l:List V)(a1 a2:SQ)
theorem HG:eF = .For (aq eF) (ae eF) (az eF) [] (bQ eF):=by kernel_rfl
theorem zA:P8.body=[eF,ai P8.body 1]:=by kernel_rfl
theorem Jo:T0.fn 612=Zj P8:=by kernel_rfl
theorem oR(k4:Bool)(io en er:Bool)(kvs:List (SQ×SQ))(lb rec:List SQ)(k:Nat)(c':n_)(k':Nat)(le:LE)
  (ht:dG n (Kz k4) (gq k4) (A_ h c (eZ 35 kvs lb) rec k [.a_ ways,.a_ [bV k4 Zm]] Zk (cap+1))=KC io en er h c' rec k' ways [bV k4 Zm] k4 ad le cap) :
  (aa T0 af (n+53)).cl (.val (.ref 612)) [.ref 12,.ref 37,.d (kd k4)] (A_ h c (eZ 35 kvs lb) rec k [.a_ ways,.a_ [bV k4 Zm]] Zk (cap+1+xp k4))=At io en er h c' rec k' ways [bV k4 Zm] k4 ad cap:=by
 have hf:aA T0 (aa T0 af (n+51)) eF P8.scope (gq k4) (A_ h c (eZ 35 kvs lb) rec k [.a_ ways,.a_ [bV k4 Zm]] Zk (cap+1+xp k4))=KC io en er h c' rec k' ways [bV k4 Zm] k4 ad le cap:=by
  rw[HG];have e:(aa T0 af (n+51)).ev (ae eF) P8.scope (gq k4) (A_ h c (eZ 35 kvs lb) rec k [.a_ ways,.a_ [bV k4 Zm]] Zk (cap+1+xp k4))
    = .ok (.d (.list (ac k4 [bO Zm 3,bO Zm 4] [bO Zn 0,bO Zn 1,bO Zn 2]))) (A_ h c (eZ 35 kvs lb) rec k [.a_ ways,.a_ [bV k4 Zm]] Zk (cap+1)):=by
   (apply bt k4;kernel_rfl)
  rw[sa e];rw[show fL (ac k4 [bO Zm 3,bO Zm 4] [bO Zn 0,bO Zn 1,bO Zn 2])=Kz k4 by cases k4<;>rfl]
  exact ht
 unfold KC at hf;unfold At;rw[iY (n:=n+52) (fn:=P8) (l:=gq k4) (r:=ag (cP Zn io en er) (.exc (A_ h c' (.a_ []) rec k' [.a_ ways,.a_ [bV k4 Zm],.a_ [bO k4 ad]] (Zj (70,7)) (cap+1))) λw => .ok (.ret (.d (.int w)),dy k4 (bO k4 ad) (.int w)) (A_ h c' (cg io 7) rec k' [.a_ ways,.a_ [bV k4 Zm],.a_ [bO k4 ad]] Zk (f8 io cap))) rfl Jo (by kernel_rfl:pu P8.params [.ref 12,.ref 37,.d (kd k4)]=Zj (gq k4))]
 ·cases hw:cP Zn io en er with
  | none=>rfl
  | some w=>(apply bt io;kernel_rfl)
 ·rw[zA];cases hw:cP Zn io en er with
  | none=>rw[hw]at hf;exact g0 hf
  | some w=>rw[hw]at hf;exact gh hf
theorem gE(pre:List SQ)(x:SQ)(l:List SQ):pre++x::l=(pre++[x])++l:=by simp
theorem gM(pre:List SQ)(x:SQ):pre.length+1=(pre++[x]).length:=by simp
theorem vj(k4 em:Bool)(pre:List SQ)(hk:pre.length < 4\/(pre.length < 5/\em=Zm))(io en er o:Bool) :
  (aa T0 af (n+53)).cl (.val (.ref 612)) [.ref 12,.ref 37,.d (kd k4)] (A_ h c (eZ 35 (aX io en er o u f) (aW en er)) (pre++bo k4 b i em rest) pre.length [.a_ ways,.a_ [bV k4 Zm]] Zk (cap+1+xp k4))
   = At io en er h c (pre++bo k4 b i em rest) pre.length ways [bV k4 Zm] k4 (ac k4 3 0) cap:=by
 refine oR n h c cap ways (ac k4 3 0) k4 io en er _ _ _ _ c pre.length (gq k4) ?_
 cases k4
 ·exact qS n h c u f cap rest ways [bV Zn Zm] b i 0 [.d (bO Zn 1),.d (bO Zn 2)] m1 m1 Zn Zm em pre hk io en er o
 ·exact qS n h c u f cap rest ways [bV Zm Zm] b i 3 [.d (bO Zm 4)] m1 m1 Zm Zm em pre hk io en er o
set_option tactic.hygienic true in
set_option tactic.hygienic true in
theorem u3(k4 em:Bool)(pre:List SQ)(e:Ent)(he:(match k4,e with|false,.i _=>True|true,.b _=>True|_,_=>False))(hk:pre.length < 3\/(pre.length < 4/\em=Zm))(io en er o:Bool) :
  (aa T0 af (n+53)).cl (.val (.ref 612)) [.ref 12,.ref 37,.d (kd k4)] (A_ h c (eZ 35 (aX io en er o u f) (aW en er)) (pre++e.d::bo k4 b i em rest) pre.length [.a_ ways,.a_ [bV k4 Zm]] Zk (cap+1+xp k4))
   = At io en er h (c.put (ac k4 3 0) e) (pre++e.d::bo k4 b i em rest) (pre.length+1) ways [bV k4 Zm] k4 (ac k4 4 1) cap:=by
 refine oR n h c cap ways (ac k4 4 1) k4 io en er _ _ _ _ _ (pre.length+1) (ac Zn (gq k4) (dy k4 (bO k4 (ac k4 3 0)) m1)) ?_
 have hk':pre.length < 4:=by rcases hk with h|⟨h,_⟩<;>omega
 have hk2:∀ x,(pre++[x]).length < 4\/((pre++[x]).length < 5/\em=Zm):=λx=>by
  refine b_ Ut ?_
  rcases hk with h|⟨h,h'⟩
  ·exact .inl (by simp;exact W5 h)
  ·exact .inr ⟨by simp;exact W5 hk',h'⟩
 cases k4<;>cases e<;>first|exact he.elim|skip
 ·rename_i v
  refine(FL n h c (cap+1) _ _ (bo Zn b i em rest) ways [bV Zn Zm] [.d (bO Zn 1),.d (bO Zn 2)] m1 m1 Zm pre hk' v).trans ?_
  refine b_ (gE ..) ?_;refine b_ (gM pre (Ent.i v).d ..) ?_
  exact qS n h _ u f cap rest ways [bV Zn Zm] b i 1 [.d (bO Zn 2)] (bO Zn 0) m1 Zn Zn em (pre++[(Ent.i v).d]) (hk2 _) io en er o
 ·rename_i v
  refine(KM n h c (cap+1) _ _ (bo Zm b i em rest) ways [bV Zm Zm] [.d (bO Zm 4)] m1 m1 Zm pre hk' v).trans ?_
  refine b_ (gE ..) ?_;refine b_ (gM pre (Ent.b v).d ..) ?_
  exact qS n h _ u f cap rest ways [bV Zm Zm] b i 4 [] (bO Zm 3) m1 Zm Zn em (pre++[(Ent.b v).d]) (hk2 _) io en er o
theorem Gc(em:Bool)(pre:List SQ)(v0 v1:Int)(hk:pre.length < 2\/(pre.length < 3/\em=Zm))(io en er o:Bool) :
  (aa T0 af (n+53)).cl (.val (.ref 612)) [.ref 12,.ref 37,.d (kd Zn)] (A_ h c (eZ 35 (aX io en er o u f) (aW en er)) (pre++(Ent.i v0).d::(Ent.i v1).d::bo Zn b i em rest) pre.length [.a_ ways,.a_ [bV Zn Zm]] Zk (cap+1+xp Zn))
   = At io en er h ((c.put 0 (.i v0)).put 1 (.i v1)) (pre++(Ent.i v0).d::(Ent.i v1).d::bo Zn b i em rest) (pre.length+2) ways [bV Zn Zm] Zn 2 cap:=by
 refine oR n h c cap ways 2 Zn io en er _ _ _ _ _ (pre.length+2) (ac Zn (gq Zn) (dy Zn (bO Zn 1) m1)) ?_
 refine(FL n h c (cap+1) _ _ ((Ent.i v1).d::bo Zn b i em rest) ways [bV Zn Zm] [.d (bO Zn 1),.d (bO Zn 2)] m1 m1 Zm pre (by rcases hk with h|⟨h,_⟩<;>lia:pre.length < 4) v0).trans ?_
 refine b_ (gE ..) ?_;refine b_ (gM pre (Ent.i v0).d ..) ?_
 refine(KL n h _ (cap+1) _ _ (bo Zn b i em rest) ways [bV Zn Zm] [.d (bO Zn 2)] (bO Zn 0) m1 Zn (pre++[(Ent.i v0).d]) (by simp;lia) v1).trans ?_
 refine b_ (gE ..) ?_;refine b_ (gM (pre++[(Ent.i v0).d]) (Ent.i v1).d ..) ?_
 refine b_ (by simp:pre.length+2=((pre++[(Ent.i v0).d])++[(Ent.i v1).d]).length) ?_
 refine qS n h _ u f cap rest ways [bV Zn Zm] b i 2 [] (bO Zn 1) m1 Zn Zn em ((pre++[(Ent.i v0).d])++[(Ent.i v1).d]) ?_ io en er o
 rcases hk with h|⟨h,h'⟩
 ·exact .inl (by simp;exact W5 h)
 ·exact .inr ⟨by simp;exact W5 h,h'⟩
end
end
section
open PySem
noncomputable def Cs:T9:=ai (az bx) 0
noncomputable def M8:T9:=ai (az Cs) 0
noncomputable def pk:T9:=ai (az Cs) 1
noncomputable def pz:T9:=ai (uH pk) 0
noncomputable def F4:Expr:=bl (aN (ae pz)) 0
theorem Jw:az bx=[Cs]:=by kernel_rfl
theorem Jn:Cs = .If (ae Cs) [M8,pk] [] (bQ Cs):=by kernel_rfl
theorem Js:pk = .If (ae pk) (az pk) [pz] (bQ pk):=by kernel_rfl
theorem KD:pz = .Expr (.Call (.Attribute (ba (ba (ae pz))) (Ie (ba (ae pz))) (ax (ba (ae pz)))) [F4] [] (ax (ae pz))) (bQ pz):=by kernel_rfl
theorem Lp:F4 = .Call (ba F4) (aN F4) [] (ax F4):=by kernel_rfl
noncomputable def yu(t:Tl)(wi:Nat)(a b c:SQ):LE:=gU t wi++[(eC,.d a),(hJ,.d b),(kX,.d c)]
noncomputable def Jc(wh:Bool):Tc:=ac wh 612 605
section
variable(n:Nat)(h:Hp)(t:Tl)(c c':n_)(kvs:List (SQ×SQ))(lb rec rec':List SQ)(k k':Nat)(cap dW:Nat)(x:Int)(l:List V)(a1 a2 a3 a4:SQ)
noncomputable def sW(i_:Bool)(t:Tl)(a1 a2 a3 a4:SQ)(k4 wh:Bool)(x:Int):LE:=ac i_ (yu { t with w:=ay } 36 (kd k4) (.bool wh) (.int x)) (bf { t with w:=ay } 36 (kd k4) (.bool wh) (.int x) a4)
theorem Gb(k4 wh:Bool)(ways:List SQ):(aa T0 af (n+54)).ev F4 j_.scope (bf { t with w:=ay } 36 (kd k4) (.bool wh) (.int x) (bV k4 wh)) (Ow h c rec k kvs lb ways cap)
  = (aa T0 af (n+53)).cl (.val (.ref (Jc wh))) [.ref 12,.ref 37,.d (kd k4)] (A_ h c (eZ 35 kvs lb) rec k [.a_ ways,.a_ [bV k4 wh]] Zk cap):=by
 refine b_ Lp ?_
 refine bC (σ₁:=Ow h c rec k kvs lb ways cap) ?_ ?_ ?_ ?_
 ·kernel_rfl
 ·kernel_rfl
 ·(apply bt wh;kernel_rfl)
 ·(apply Cn k4 wh;kernel_rfl)
theorem Qi(ways:List SQ):len (Ow h c rec k kvs lb ways cap).o=37:=by kernel_rfl
theorem Ft(i_ k4 wh:Bool)(d:Nat)(hd:d < 3):(aa T0 af (n+59)).te (ae Cs) j_.scope (sW i_ t a1 a2 a3 a4 k4 wh x) (Ow h c rec k kvs lb (wl (d+1)) cap) = .ok Zm (Ow h c rec k kvs lb (wl (d+1)) cap):=by
 apply sB d (by exact Zc hd)<;>(apply bt i_;kernel_rfl)
theorem F1(i_ k4 wh:Bool)(ways:List SQ):aA T0 (aa T0 af (n+58)) M8 j_.scope (sW i_ t a1 a2 a3 a4 k4 wh x) (Ow h c rec k kvs lb ways cap) = .ok (.next,bf { t with w:=ay } 36 (kd k4) (.bool wh) (.int x) (bV k4 wh)) (Ow h c rec k kvs lb ways cap):=by
 (apply IN k4 wh i_;kernel_rfl)
theorem AZ(k4 wh:Bool)(ways:List SQ):(aa T0 af (n+57)).te (ae pk) j_.scope (bf { t with w:=ay } 36 (kd k4) (.bool wh) (.int x) (bV k4 wh)) (Ow h c rec k kvs lb ways cap) = .ok Zn (Ow h c rec k kvs lb ways cap):=by
 (apply bt wh;kernel_rfl)
theorem zX(i_ k4 wh:Bool)(ways:List SQ):assign T0 (aa T0 af (n+60)) (aq bx) j_.scope (ac i_ (gU { t with w:=ay } 36) (bf { t with w:=ay } 36 a1 a2 a3 a4)) (.d (mP k4 wh x)) (Ow h c rec k kvs lb ways cap)
   = .ok (sW i_ t a1 a2 a3 a4 k4 wh x) (Ow h c rec k kvs lb ways cap):=by
 (apply bt i_;kernel_rfl)
theorem Jq(k4 wh:Bool)(ways:List SQ):(aa T0 af (n+55)).ev (ba (ba (ae pz))) j_.scope (bf { t with w:=ay } 36 (kd k4) (.bool wh) (.int x) (bV k4 wh)) (Ow h c rec k kvs lb ways cap) = .ok (.ref 36) (Ow h c rec k kvs lb ways cap):=by kernel_rfl
theorem Fd(d:Nat)(hd:d < 3):d7 T0 (.ref 36) (Ie (ba (ae pz))) (Ow h c rec k kvs lb (wl (d+1)) cap)=Zj .app:=by
 apply sB d (by omega)<;>kernel_rfl
theorem FD:hG F4=Zn:=by kernel_rfl
theorem Fh:cX (ba (ba (ae pz)))=Zn:=by kernel_rfl
theorem Ga:Ue (ax (ba (ae pz))).endLine (ax (ae pz)).line=Zm:=by kernel_rfl
theorem Fg:eA (.Call (.Attribute (ba (ba (ae pz))) (Ie (ba (ae pz))) (ax (ba (ae pz)))) [F4] [] (ax (ae pz)))=Zn:=by kernel_rfl
theorem Gx(i_ k4 wh:Bool)(d:Nat)(hd:d < 3)(s:VS)(hr:(aa T0 af (n+53)).cl (.val (.ref (Jc wh))) [.ref 12,.ref 37,.d (kd k4)] (A_ h c (eZ 35 kvs lb) rec k [.a_ (wl (d+1)),.a_ [bV k4 wh]] Zk cap) = .exc s) :
  aL n (.d (mP k4 wh x)::l) (ac i_ (gU { t with w:=ay } 36) (bf { t with w:=ay } 36 a1 a2 a3 a4)) (Ow h c rec k kvs lb (wl (d+1)) cap) = .exc s:=by
 have e3:aA T0 (aa T0 af (n+56)) pz j_.scope (bf { t with w:=ay } 36 (kd k4) (.bool wh) (.int x) (bV k4 wh)) (Ow h c rec k kvs lb (wl (d+1)) cap) = .exc s:=by
  refine b_ KD ?_
  exact CE Fg (Ep FD Fh Ga (Jq n h t c kvs lb rec k cap x k4 wh (wl (d+1))) (Fd h c kvs lb rec k cap d hd) (vD ((Gb n h t c kvs lb rec k cap x k4 wh (wl (d+1))).trans hr :)))
 have e2:aA T0 (aa T0 af (n+57)) pk j_.scope (bf { t with w:=ay } 36 (kd k4) (.bool wh) (.int x) (bV k4 wh)) (Ow h c rec k kvs lb (wl (d+1)) cap) = .exc s:=by
  refine b_ Js ?_
  exact(jU (AZ n h t c kvs lb rec k cap x k4 wh (wl (d+1)))).trans (g0 e3)
 have e1:aA T0 (aa T0 af (n+59)) Cs j_.scope (sW i_ t a1 a2 a3 a4 k4 wh x) (Ow h c rec k kvs lb (wl (d+1)) cap) = .exc s:=by
  refine b_ Jn ?_
  exact(vB (Ft n h t c kvs lb rec k cap x a1 a2 a3 a4 i_ k4 wh d hd)).trans ((aC (F1 n h t c kvs lb rec k cap x a1 a2 a3 a4 i_ k4 wh (wl (d+1)))).trans (g0 e2))
 have e0:(aa T0 af (n+60)).ex (az bx) j_.scope (sW i_ t a1 a2 a3 a4 k4 wh x) (Ow h c rec k kvs lb (wl (d+1)) cap) = .exc s:=by
  refine b_ Jw ?_
  exact g0 e1
 exact(bG (l:=l) (σ:=Ow h c rec k kvs lb (wl (d+1)) cap) rfl (zX n h t c kvs lb rec k cap x a1 a2 a3 a4 i_ k4 wh (wl (d+1))) e0 :).trans su
theorem GS(io k4 wh:Bool)(ways:List SQ):aT j_.scope 37 (aK T0 (aa T0 af (n+60)) (aq bx) (az bx) j_.scope l) (.ok (.next,bf { t with w:=ay } 36 (kd k4) (.bool wh) (.int x) (bV k4 wh)) (A_ h c (cg io 7) rec k [.a_ ways,.a_ [bV k4 wh]] Zk cap))=aK T0 (aa T0 af (n+60)) (aq bx) (az bx) j_.scope l (bf { t with w:=ay } 36 (kd k4) (.bool wh) (.int x) (bV k4 wh)) (A_ h c (cg io 7) rec k [.a_ ways] Zk cap):=by
 (apply IN io k4 wh;kernel_rfl)
theorem HI(io k4 wh:Bool)(ways:List SQ)(w:Int):iV (aa T0 af (n+55)) .app (.ref 36) [.d (.int w)] (A_ h c (cg io 7) rec k [.a_ ways,.a_ [bV k4 wh]] Zk (cap+1)) = .ok (.d .none) (A_ h c (cg io 7) rec k [.a_ (ways++[.int w]),.a_ [bV k4 wh]] Zk cap):=by
 (apply bt io;kernel_rfl)
theorem Gn(io i_ k4 wh:Bool)(d:Nat)(hd:d < 3)(w:Int)(hr:(aa T0 af (n+53)).cl (.val (.ref (Jc wh))) [.ref 12,.ref 37,.d (kd k4)] (A_ h c (eZ 35 kvs lb) rec k [.a_ (wl (d+1)),.a_ [bV k4 wh]] Zk cap)
   = .ok (.d (.int w)) (A_ h c' (cg io 7) rec' k' [.a_ (wl (d+1)),.a_ [bV k4 wh]] Zk (dW+1))) :
  aL n (.d (mP k4 wh x)::l) (ac i_ (gU { t with w:=ay } 36) (bf { t with w:=ay } 36 a1 a2 a3 a4)) (Ow h c rec k kvs lb (wl (d+1)) cap)
   = aL n l (bf { t with w:=ay } 36 (kd k4) (.bool wh) (.int x) (bV k4 wh)) (A_ h c' (cg io 7) rec' k' [.a_ (wl (d+1)++[.int w])] Zk dW):=by
 have hev:=(Gb n h t c kvs lb rec k cap x k4 wh (wl (d+1))).trans hr
 have e3:aA T0 (aa T0 af (n+56)) pz j_.scope (bf { t with w:=ay } 36 (kd k4) (.bool wh) (.int x) (bV k4 wh)) (Ow h c rec k kvs lb (wl (d+1)) cap) = .ok (.next,bf { t with w:=ay } 36 (kd k4) (.bool wh) (.int x) (bV k4 wh)) (A_ h c' (cg io 7) rec' k' [.a_ (wl (d+1)++[.int w]),.a_ [bV k4 wh]] Zk dW):=by
  refine b_ KD ?_
  exact sH Fg ((sN FD Fh Ga (Jq n h t c kvs lb rec k cap x k4 wh (wl (d+1))) (Fd h c kvs lb rec k cap d hd) (d0 hev)).trans (HI n h c' rec' k' dW io k4 wh (wl (d+1)) w))
 have e2:aA T0 (aa T0 af (n+57)) pk j_.scope (bf { t with w:=ay } 36 (kd k4) (.bool wh) (.int x) (bV k4 wh)) (Ow h c rec k kvs lb (wl (d+1)) cap) = .ok (.next,bf { t with w:=ay } 36 (kd k4) (.bool wh) (.int x) (bV k4 wh)) (A_ h c' (cg io 7) rec' k' [.a_ (wl (d+1)++[.int w]),.a_ [bV k4 wh]] Zk dW):=by
  refine b_ Js ?_
  exact(jU (AZ n h t c kvs lb rec k cap x k4 wh (wl (d+1)))).trans ((aC e3).trans iU)
 have e1:aA T0 (aa T0 af (n+59)) Cs j_.scope (sW i_ t a1 a2 a3 a4 k4 wh x) (Ow h c rec k kvs lb (wl (d+1)) cap) = .ok (.next,bf { t with w:=ay } 36 (kd k4) (.bool wh) (.int x) (bV k4 wh)) (A_ h c' (cg io 7) rec' k' [.a_ (wl (d+1)++[.int w]),.a_ [bV k4 wh]] Zk dW):=by
  refine b_ Jn ?_
  exact(vB (Ft n h t c kvs lb rec k cap x a1 a2 a3 a4 i_ k4 wh d hd)).trans ((aC (F1 n h t c kvs lb rec k cap x a1 a2 a3 a4 i_ k4 wh (wl (d+1)))).trans ((aC e2).trans iU))
 have e0:(aa T0 af (n+60)).ex (az bx) j_.scope (sW i_ t a1 a2 a3 a4 k4 wh x) (Ow h c rec k kvs lb (wl (d+1)) cap) = .ok (.next,bf { t with w:=ay } 36 (kd k4) (.bool wh) (.int x) (bV k4 wh)) (A_ h c' (cg io 7) rec' k' [.a_ (wl (d+1)++[.int w]),.a_ [bV k4 wh]] Zk dW):=by
  refine b_ Jw ?_
  exact(aC e1).trans iU
 have e:=bG (l:=l) (σ:=Ow h c rec k kvs lb (wl (d+1)) cap) rfl (zX n h t c kvs lb rec k cap x a1 a2 a3 a4 i_ k4 wh (wl (d+1))) e0
 rw[Qi]at e;have e':=GS n h t c' rec' k' dW x l io k4 wh (wl (d+1)++[.int w])
 have e'':=e.trans e'
 clear e e' e0 e1 e2 e3 hev hr;unfold aL;exact e''
end
end
section
open PySem
structure q_ where
 k4:Bool
 wh:Bool
 x:Int
noncomputable def q_.d(i:q_):SQ:=mP i.k4 i.wh i.x
noncomputable def bj(k4 wh:Bool):List Nat:=match k4,wh with
 | false,Zn=>[0]
 | false,Zm=>[0,1,2]
 | true,Zn=>[3]
 | true,Zm=>[3,4]
noncomputable def cj(k4:Bool):List Nat->List Ent->n_->Bool×List Ent×n_
 | [],r,c=>(Zm,r,c)
 | _::_,[],c=>(Zn,[],c)
 | s::ss,.i v::r,c=>match k4 with
  | false=>cj k4 ss r (c.put s (.i v))
  | true=>(Zn,.i v::r,c)
 | s::ss,.b v::r,c=>match k4 with
  | true=>cj k4 ss r (c.put s (.b v))
  | false=>(Zn,.b v::r,c)
noncomputable def reads:List q_->List Ent->n_->Nat×Bool×n_
 | [],r,c=>(0,Zm,c)
 | i::is,r,c=>match cj i.k4 (bj i.k4 i.wh) r c with
  | (Zm,r',c')=>let z:=reads is r' c';(z.1+1,z.2)
  | (Zn,_,c')=>(0,Zn,c')
noncomputable def its(l:List q_):List V:=fL (l.map q_.d)
section
variable(n:Nat)(h:Hp)(t:Tl)(c:n_)(kvs:List (SQ×SQ))(lb rec:List SQ)(k cap:Nat)(x:Int)(l:List V)(a1 a2 a3 a4:SQ)
theorem Ii(io k4 wh:Bool)(d:Nat)(hd:d < 3)(w:Int)(hw:w=0\/w=1\/w=2) :
  aL n (.d (mP k4 wh x)::l) (bf { t with w:=ay } 36 a1 a2 a3 a4) (A_ h c (cg io 7) rec k [.a_ (wl (d+1)++[.int w])] Zk cap)
   = aL n l (bf { t with w:=ay } 36 (kd k4) (.bool wh) (.int x) a4) (A_ h c (cg io 7) rec k [.a_ (wl (d+1)++[.int w])] Zk cap):=by
 apply sB d (by omega)<;>rcases hw with rfl|rfl|rfl<;>kernel_rfl
theorem vG(io:Bool)(d:Nat)(hd:d < 3)(w:Int)(hw:w=0\/w=1\/w=2):∀ (is:List q_) (a1 a2 a3:SQ),X3 λb1 b2 b3=>aL n (its is) (bf { t with w:=ay } 36 a1 a2 a3 a4) (A_ h c (cg io 7) rec k [.a_ (wl (d+1)++[.int w])] Zk cap)
   = .ok (.next,bf { t with w:=ay } 36 b1 b2 b3 a4) (A_ h c (cg io 7) rec k [.a_ (wl (d+1)++[.int w])] Zk cap)
 | [],a1,a2,a3=>⟨a1,a2,a3,bM rfl⟩
 | i::is,a1,a2,a3=>by
  obtain⟨b1,b2,b3,e⟩:=vG io d hd w hw is (kd i.k4) (.bool i.wh) (.int i.x)
  exact⟨b1,b2,b3,(Ii n h t c rec k cap i.x (its is) a1 a2 a3 a4 io i.k4 i.wh d hd w hw).trans e⟩
end
section
variable(n:Nat)(h:Hp)(t:Tl)(u f:SQ)
def OT(io en er:Bool)(kvs:List (SQ×SQ))(lb:List SQ)(m d:Nat)(z:Nat×Bool×n_)(r:R (Fl×LE)):Prop:=match z with
 | (j,Zm,c')=>X8 λ(i_:Bool) (a1 a2 a3 a4:SQ) (rec:List SQ) (k cap:Nat)=>m<=cap/\r = .ok (.next,ac i_ (gU { t with w:=ay } 36) (bf { t with w:=ay } 36 a1 a2 a3 a4)) (Ow h c' rec k kvs lb (wl (d+1+j)) cap)
 | (j,Zn,c')=>match cP Zn io en er with
  | none=>X7 λ(rec:List SQ) (k:Nat) (w1 w2 w3:List SQ) (arr:Bool) (cap:Nat)=>m<=cap/\r = .exc (A_ h c' (.a_ []) rec k ([.a_ w1,.a_ w2]++ac arr [.a_ w3] []) (Zj (70,7)) cap)
  | some w=>X7 λ(a1 a2 a3 a4:SQ) (rec:List SQ) (k cap:Nat)=>m<=cap/\r = .ok (.next,bf { t with w:=ay } 36 a1 a2 a3 a4) (A_ h c' (cg io 7) rec k [.a_ (wl (d+1+j)++[.int w])] Zk cap)
theorem OT.succ{io en er:Bool}{kvs:List (SQ×SQ)}{lb:List SQ}{m m' d:Nat}{z:Nat×Bool×n_}{r r':R (Fl×LE)}(hm:m<=m')(e:r=r')(H:OT h t io en er kvs lb m' (d+1) z r'):OT h t io en er kvs lb m d (z.1+1,z.2) r:=by
 subst e;obtain⟨j,b,c'⟩:=z;have ej:d+1+(j+1)=d+1+1+j:=by exact Eq.symm (TY (d+1) 1 j)
 cases b with
 | true=>
  obtain⟨i_,a1,a2,a3,a4,rec,k,cap,h1,h2⟩:=H
  exact⟨i_,a1,a2,a3,a4,rec,k,cap,Te hm h1,by(refine b_ ej ?_);exact h2⟩
 | false=>
  unfold OT at H ⊢;dsimp only at H ⊢;cases hw:cP Zn io en er with
  | none=>
   rw[hw]at H;obtain⟨rec,k,w1,w2,w3,arr,cap,h1,h2⟩:=H
   exact⟨rec,k,w1,w2,w3,arr,cap,Te hm h1,h2⟩
  | some w=>
   rw[hw]at H;obtain⟨a1,a2,a3,a4,rec,k,cap,h1,h2⟩:=H
   exact⟨a1,a2,a3,a4,rec,k,cap,Te hm h1,by(refine b_ ej ?_);exact h2⟩
theorem sT{io en er o:Bool}{c c':n_}{rec:List SQ}{k k' m d:Nat}(hd:d < 3)(k4 wh:Bool)(x:Int)(is:List q_)(i_:Bool)(a1 a2 a3 a4:SQ){cap dW:Nat}(hm:m<=dW)
  {w1 w2 w3:List SQ} {arr:Bool} (hc:(aa T0 af (n+53)).cl (.val (.ref (Jc wh))) [.ref 12,.ref 37,.d (kd k4)] (A_ h c (eZ 35 (aX io en er o u f) (aW en er)) rec k [.a_ (wl (d+1)),.a_ [bV k4 wh]] Zk cap)
   = ag (cP Zn io en er) (.exc (A_ h c' (.a_ []) rec k' ([.a_ w1,.a_ w2]++ac arr [.a_ w3] []) (Zj (70,7)) (dW+2))) λw => .ok (.d (.int w)) (A_ h c' (cg io 7) rec k' [.a_ (wl (d+1)),.a_ [bV k4 wh]] Zk (f8 io (dW+1)))) :
  OT h t io en er (aX io en er o u f) (aW en er) m d (0,Zn,c') (aL n (its (⟨k4,wh,x⟩::is)) (ac i_ (gU { t with w:=ay } 36) (bf { t with w:=ay } 36 a1 a2 a3 a4)) (Ow h c rec k (aX io en er o u f) (aW en er) (wl (d+1)) cap)):=by
 unfold OT;dsimp only;cases hw:cP Zn io en er with
 | none=>
  rw[hw]at hc;have e:=Gx n h t c (aX io en er o u f) (aW en er) rec k cap x (its is) a1 a2 a3 a4 i_ k4 wh d hd _ hc
  exact⟨rec,k',w1,w2,w3,arr,dW+2,by exact Nat.le_add_right_of_le hm,e⟩
 | some w=>
  rw[hw]at hc;have hp:f8 io (dW+1)=ac io dW (dW+1)+1:=by cases io<;>rfl
  have hc':_=R.ok (V.d (.int w)) (A_ h c' (cg io 7) rec k' [.a_ (wl (d+1)),.a_ [bV k4 wh]] Zk (f8 io (dW+1))):=hc
  rw[hp]at hc';have e:=Gn n h t c c' (aX io en er o u f) (aW en er) rec rec k k' cap (ac io dW (dW+1)) x (its is) a1 a2 a3 a4 io i_ k4 wh d hd w hc'
  obtain⟨b1,b2,b3,e2⟩:=vG n h t c' rec k' (ac io dW (dW+1)) (bV k4 wh) io d hd w (vg hw) is (kd k4) (.bool wh) (.int x)
  exact⟨b1,b2,b3,bV k4 wh,rec,k',ac io dW (dW+1),by cases io<;>simp [ac]<;>lia,e.trans e2⟩
end
end
section
open PySem
theorem jf{i:q_}{is:List q_}{rec r':List Ent}{c c':n_}(e:cj i.k4 (bj i.k4 i.wh) rec c=(Zm,r',c')):reads (i::is) rec c=((reads is r' c').1+1,(reads is r' c').2):=by
 show(match cj i.k4 (bj i.k4 i.wh) rec c with|(Zm,r',c')=>((reads is r' c').1+1,(reads is r' c').2)|(Zn,_,c')=>(0,Zn,c'))=_
 exact b_ e rfl
theorem iv{i:q_}{is:List q_}{rec r':List Ent}{c c':n_}(e:cj i.k4 (bj i.k4 i.wh) rec c=(Zn,r',c')):reads (i::is) rec c=(0,Zn,c'):=by
 show(match cj i.k4 (bj i.k4 i.wh) rec c with|(Zm,r',c')=>((reads is r' c').1+1,(reads is r' c').2)|(Zn,_,c')=>(0,Zn,c'))=_
 exact b_ e rfl
section
variable(n:Nat)(h:Hp)(t:Tl)(u f:SQ)
def Rd(io en er o:Bool)(is:List q_)(c:n_)(pre:List SQ)(rec:List Ent)(d m:Nat)(i_:Bool)(a1 a2 a3 a4:SQ)(cap:Nat):Prop:=
 OT h t io en er (aX io en er o u f) (aW en er) m d (reads is rec c) (aL n (its is) (ac i_ (gU { t with w:=ay } 36) (bf { t with w:=ay } 36 a1 a2 a3 a4)) (Ow h c (pre++rec.map Ent.d) pre.length (aX io en er o u f) (aW en er) (wl (d+1)) cap))
def IO(io en er o:Bool)(is:List q_):Prop:=∀ (c:n_) (pre:List SQ) (rec:List Ent) (d m:Nat) (i_:Bool) (a1 a2 a3 a4:SQ),d+is.length<=3->pre.length+rec.length<=4->Rd n h t u f io en er o is c pre rec d m i_ a1 a2 a3 a4 (m+8*is.length)
variable{io en er o:Bool}{is:List q_}{x:Int}{c:n_}{pre:List SQ}{rec:List Ent}{d m:Nat}{i_:Bool}{a1 a2 a3 a4:SQ}
theorem wx{k4 wh:Bool}(IH:IO n h t u f io en er o is)(hd:d+(is.length+1)<=3)(r':List Ent)(c':n_)(pre':List SQ)(p:Nat)(b1 b2 b3 b4:SQ)(hp:p<=8)(hk':pre'.length+r'.length<=4)(et:cj k4 (bj k4 wh) rec c=(Zm,r',c'))
  (e:aL n (its (⟨k4,wh,x⟩::is)) (ac i_ (gU { t with w:=ay } 36) (bf { t with w:=ay } 36 a1 a2 a3 a4)) (Ow h c (pre++rec.map Ent.d) pre.length (aX io en er o u f) (aW en er) (wl (d+1)) (m+8*is.length+8))
     = aL n (its is) (bf { t with w:=ay } 36 b1 b2 b3 b4) (Ow h c' (pre'++r'.map Ent.d) pre'.length (aX io en er o u f) (aW en er) (wl (d+2)) (m+(8 - p)+8*is.length))) :
  Rd n h t u f io en er o (⟨k4,wh,x⟩::is) c pre rec d m i_ a1 a2 a3 a4 (m+8*is.length+8):=by
 unfold Rd;refine b_ (jf et) ?_
 exact OT.succ h t (m':=m+(8 - p)) (TX _ _) e (IH c' pre' r' (d+1) (m+(8 - p)) Zn b1 b2 b3 b4 (by lia) hk')
theorem eH{k4 wh:Bool}(hd:d+(is.length+1)<=3)(r':List Ent)(c':n_)(k':Nat)(w1 w2 w3:List SQ)(arr:Bool)(q:Nat)(hq:q<=6)(et:cj k4 (bj k4 wh) rec c=(Zn,r',c'))
  (e:(aa T0 af (n+53)).cl (.val (.ref (Jc wh))) [.ref 12,.ref 37,.d (kd k4)] (A_ h c (eZ 35 (aX io en er o u f) (aW en er)) (pre++rec.map Ent.d) pre.length [.a_ (wl (d+1)),.a_ [bV k4 wh]] Zk (m+8*is.length+8))
     = ag (cP Zn io en er) (.exc (A_ h c' (.a_ []) (pre++rec.map Ent.d) k' ([.a_ w1,.a_ w2]++ac arr [.a_ w3] []) (Zj (70,7)) (m+8*is.length+(6 - q)+2))) (λw => .ok (.d (.int w)) (A_ h c' (cg io 7) (pre++rec.map Ent.d) k' [.a_ (wl (d+1)),.a_ [bV k4 wh]] Zk (f8 io (m+8*is.length+(6 - q)+1))))) :
  Rd n h t u f io en er o (⟨k4,wh,x⟩::is) c pre rec d m i_ a1 a2 a3 a4 (m+8*is.length+8):=by
 unfold Rd;refine b_ (iv et) ?_
 exact sT n h t u f (by lia) k4 wh x is i_ a1 a2 a3 a4 (by lia) e
theorem Nv(IH:IO n h t u f io en er o is)(hd:d+(is.length+1)<=3)(hk:pre.length+rec.length<=4):Rd n h t u f io en er o (⟨Zn,Zn,x⟩::is) c pre rec d m i_ a1 a2 a3 a4 (m+8*is.length+8):=by
 cases rec with
 | nil=>exact eH n h t u f hd [] c pre.length _ _ [] Zn 0 (by exact U4 6) rfl (yb (n+8) h c u f (m+8*is.length+7) [] (wl (d+1)) Zn 0 0 pre (by simp at hk;exact Uy hk) io en er o)
 | cons e r=>
  rw[Ug]at hk;cases e with
  | i v=>
   refine wx n h t u f IH hd r (c.put 0 (.i v)) (pre++[(Ent.i v).d]) 1 (.int 0) (.bool Zn) (.int x) (bV Zn Zn) (by exact Tw rfl) (by simp;lia) rfl ?_
   rw[show m+(8 - 1)+8*is.length=m+8*is.length+7 by exact TY m (8 - 1) (8*is.length),<- gM,<- gE]
   exact CZ n h t c _ _ (m+8*is.length+7) x (its is) (r.map Ent.d) i_ a1 a2 a3 a4 d (by exact UL hd) pre (by exact UL hk) v
  | b v=>exact eH n h t u f hd (.b v::r) c pre.length _ _ [] Zn 0 (by exact U4 6) rfl (xP (n+8) h c u f (m+8*is.length+7) (r.map Ent.d) (wl (d+1)) v 0 0 pre (by exact UL hk) io en er o)
theorem Nu(IH:IO n h t u f io en er o is)(hd:d+(is.length+1)<=3)(hk:pre.length+rec.length<=4):Rd n h t u f io en er o (⟨Zn,Zm,x⟩::is) c pre rec d m i_ a1 a2 a3 a4 (m+8*is.length+8):=by
 cases rec with
 | nil=>exact eH n h t u f hd [] c pre.length _ _ _ Zm 3 (by exact Tw rfl) rfl (vj n h c u f (m+8*is.length+4) [] (wl (d+1)) Zn 0 Zn Zm pre (.inr ⟨by simp at hk;exact Uy hk,rfl⟩) io en er o)
 | cons e r=>
  rw[Ug]at hk;cases e with
  | b v=>exact eH n h t u f hd (.b v::r) c pre.length _ _ _ Zm 3 (by exact Tw rfl) rfl (vj n h c u f (m+8*is.length+4) (r.map Ent.d) (wl (d+1)) v 0 Zn Zn pre (.inl (by exact UL hk)) io en er o)
  | i v0=>
   cases r with
   | nil=>exact eH n h t u f hd [] (c.put 0 (.i v0)) (pre.length+1) _ _ _ Zm 3 (by exact Tw rfl) rfl (u3 n h c u f (m+8*is.length+4) [] (wl (d+1)) Zn 0 Zn Zm pre (.i v0) trivial (.inr ⟨by simp at hk;exact Uy hk,rfl⟩) io en er o)
   | cons e r=>
    rw[Ug]at hk;cases e with
    | b v=>exact eH n h t u f hd (.b v::r) (c.put 0 (.i v0)) (pre.length+1) _ _ _ Zm 3 (by exact Tw rfl) rfl (u3 n h c u f (m+8*is.length+4) (r.map Ent.d) (wl (d+1)) v 0 Zn Zn pre (.i v0) trivial (.inl (by lia)) io en er o)
    | i v1=>
     cases r with
     | nil=>exact eH n h t u f hd [] ((c.put 0 (.i v0)).put 1 (.i v1)) (pre.length+2) _ _ _ Zm 3 (by exact Tw rfl) rfl (Gc n h c u f (m+8*is.length+4) [] (wl (d+1)) Zn 0 Zm pre v0 v1 (.inr ⟨by simp at hk;exact Uy hk,rfl⟩) io en er o)
     | cons e r=>
      rw[Ug]at hk;cases e with
      | b v=>exact eH n h t u f hd (.b v::r) ((c.put 0 (.i v0)).put 1 (.i v1)) (pre.length+2) _ _ _ Zm 3 (by exact Tw rfl) rfl (Gc n h c u f (m+8*is.length+4) (r.map Ent.d) (wl (d+1)) v 0 Zn pre v0 v1 (.inl (by lia)) io en er o)
      | i v2=>
       refine wx n h t u f IH hd r (((c.put 0 (.i v0)).put 1 (.i v1)).put 2 (.i v2)) (pre++[(Ent.i v0).d,(Ent.i v1).d,(Ent.i v2).d]) 4 (.int 0) (.bool Zm) (.int x) (bV Zn Zm) (by exact Tw rfl) (by simp;lia) rfl ?_
       rw[show m+(8 - 4)+8*is.length=m+8*is.length+4 by exact TY m (8 - 4) (8*is.length),show(pre++[(Ent.i v0).d,(Ent.i v1).d,(Ent.i v2).d]).length=pre.length+3 by simp,show(pre++[(Ent.i v0).d,(Ent.i v1).d,(Ent.i v2).d])++r.map Ent.d=pre++(Ent.i v0).d::(Ent.i v1).d::(Ent.i v2).d::r.map Ent.d by simp]
       exact AK n h t c _ _ (m+8*is.length+4) x (its is) (r.map Ent.d) i_ a1 a2 a3 a4 d (by exact UL hd) pre (by lia) v0 v1 v2
theorem N1(IH:IO n h t u f io en er o is)(hd:d+(is.length+1)<=3)(hk:pre.length+rec.length<=4):Rd n h t u f io en er o (⟨Zm,Zn,x⟩::is) c pre rec d m i_ a1 a2 a3 a4 (m+8*is.length+8):=by
 cases rec with
 | nil=>exact eH n h t u f hd [] c pre.length _ _ [] Zn 0 (by exact U4 6) rfl (xZ (n+8) h c u f (m+8*is.length+7) [] (wl (d+1)) Zn 0 3 pre (by simp at hk;exact Uy hk) io en er o)
 | cons e r=>
  rw[Ug]at hk;cases e with
  | b v=>
   refine wx n h t u f IH hd r (c.put 3 (.b v)) (pre++[(Ent.b v).d]) 1 (.int 4) (.bool Zn) (.int x) (bV Zm Zn) (by exact Tw rfl) (by simp;lia) rfl ?_
   rw[show m+(8 - 1)+8*is.length=m+8*is.length+7 by exact TY m (8 - 1) (8*is.length),<- gM,<- gE]
   exact EC n h t c _ _ (m+8*is.length+7) x (its is) (r.map Ent.d) i_ a1 a2 a3 a4 d (by exact UL hd) pre (by exact UL hk) v
  | i v=>exact eH n h t u f hd (.i v::r) c pre.length _ _ [] Zn 0 (by exact U4 6) rfl (w6 (n+8) h c u f (m+8*is.length+7) (r.map Ent.d) (wl (d+1)) Zn v 3 pre (by exact UL hk) io en er o)
theorem NM(IH:IO n h t u f io en er o is)(hd:d+(is.length+1)<=3)(hk:pre.length+rec.length<=4):Rd n h t u f io en er o (⟨Zm,Zm,x⟩::is) c pre rec d m i_ a1 a2 a3 a4 (m+8*is.length+8):=by
 cases rec with
 | nil=>exact eH n h t u f hd [] c pre.length _ _ _ Zm 2 (by exact Tw rfl) rfl (vj n h c u f (m+8*is.length+5) [] (wl (d+1)) Zn 0 Zm Zm pre (.inr ⟨by simp at hk;exact Uy hk,rfl⟩) io en er o)
 | cons e r=>
  rw[Ug]at hk;cases e with
  | i v=>exact eH n h t u f hd (.i v::r) c pre.length _ _ _ Zm 2 (by exact Tw rfl) rfl (vj n h c u f (m+8*is.length+5) (r.map Ent.d) (wl (d+1)) Zn v Zm Zn pre (.inl (by exact UL hk)) io en er o)
  | b v0=>
   cases r with
   | nil=>exact eH n h t u f hd [] (c.put 3 (.b v0)) (pre.length+1) _ _ _ Zm 2 (by exact Tw rfl) rfl (u3 n h c u f (m+8*is.length+5) [] (wl (d+1)) Zn 0 Zm Zm pre (.b v0) trivial (.inr ⟨by simp at hk;exact Uy hk,rfl⟩) io en er o)
   | cons e r=>
    rw[Ug]at hk;cases e with
    | i v=>exact eH n h t u f hd (.i v::r) (c.put 3 (.b v0)) (pre.length+1) _ _ _ Zm 2 (by exact Tw rfl) rfl (u3 n h c u f (m+8*is.length+5) (r.map Ent.d) (wl (d+1)) Zn v Zm Zn pre (.b v0) trivial (.inl (by lia)) io en er o)
    | b v1=>
     refine wx n h t u f IH hd r ((c.put 3 (.b v0)).put 4 (.b v1)) (pre++[(Ent.b v0).d,(Ent.b v1).d]) 3 (.int 4) (.bool Zm) (.int x) (bV Zm Zm) (by exact Tw rfl) (by simp;lia) rfl ?_
     rw[show m+(8 - 3)+8*is.length=m+8*is.length+5 by exact TY m (8 - 3) (8*is.length),show(pre++[(Ent.b v0).d,(Ent.b v1).d]).length=pre.length+2 by simp,show(pre++[(Ent.b v0).d,(Ent.b v1).d])++r.map Ent.d=pre++(Ent.b v0).d::(Ent.b v1).d::r.map Ent.d by simp]
     exact BF n h t c _ _ (m+8*is.length+5) x (its is) (r.map Ent.d) i_ a1 a2 a3 a4 d (by exact UL hd) pre (by lia) v0 v1
theorem DV(io en er o:Bool)(is:List q_):IO n h t u f io en er o is:=by
 induction is with
 | nil=>exact λc pre rec d m i_ a1 a2 a3 a4 hd hk=>⟨i_,a1,a2,a3,a4,_,_,m+8*0,TX _ _,bM rfl⟩
 | cons i is IH=>
  intro c pre rec d m i_ a1 a2 a3 a4 hd hk;rw[Ug]at hd;rw[Ug,show m+8*(is.length+1)=m+8*is.length+8 by exact Nat.add_left_inj.mpr rfl]
  obtain⟨k4,wh,x⟩:=i;cases k4
  ·cases wh
   ·exact Nv n h t u f IH hd hk
   ·exact Nu n h t u f IH hd hk
  ·cases wh
   ·exact N1 n h t u f IH hd hk
   ·exact NM n h t u f IH hd hk
theorem tu(io en er o:Bool):∀ (is:List q_) (c:n_) (pre:List SQ) (rec:List Ent) (d m:Nat) (i_:Bool) (a1 a2 a3 a4:SQ),d+is.length<=3->pre.length+rec.length<=4->
  OT h t io en er (aX io en er o u f) (aW en er) m d (reads is rec c)
   (aL n (its is) (ac i_ (gU { t with w:=ay } 36) (bf { t with w:=ay } 36 a1 a2 a3 a4)) (Ow h c (pre++rec.map Ent.d) pre.length (aX io en er o u f) (aW en er) (wl (d+1)) (m+8*is.length))):=
 DV n h t u f io en er o
end
end
section
open PySem
noncomputable def ju(c:n_)(i:q_):List SQ:=match i.k4,i.wh with
 | false,Zn=>[.tuple [.int 0,uI Zn i.x]]
 | false,Zm=>[.tuple [.int 0,.int c.c0],.tuple [.int 0,.int c.c1],.tuple [.int 0,.int c.c2]]
 | true,Zn=>[.tuple [.int 4,uI Zm i.x]]
 | true,Zm=>[.tuple [.int 4,.bool c.b3],.tuple [.int 4,.bool c.b4]]
noncomputable def cb(c:n_):List q_->List SQ
 | []=>[]
 | i::is=>ju c i++cb c is
noncomputable def iR(n:Nat)(le:LE)(σ:VS):R V:=((aa T0 af (n+60)).ex (j_.body.drop 5) j_.scope le σ).bind λp s=>br 34 p s
section
variable(n:Nat)(h:Hp)(t:Tl)(u f:SQ)
noncomputable def Lj(t:Tl)(i_:Bool)(a1 a2 a3 a4:SQ):LE:=ac i_ (gU { t with w:=aY } 37) (bf { t with w:=aY } 37 a1 a2 a3 a4)
theorem LV{α:Type}(l:List α)(a b c:α):l++[a,b,c]=l++[a]++[b]++[c]:=by
 rw[Vs,Vs];rfl
theorem MI{α:Type}(l:List α)(a b:α):l++[a,b]=l++[a]++[b]:=by
 rw[Vs];rfl
theorem DO(kvs:List (SQ×SQ))(lb:List SQ)(c:n_)(k4 wh:Bool)(x:Int)(l:List V)(os:List SQ)(d m:Nat)(i_:Bool)(a1 a2 a3 a4:SQ)(hd:d < 3) :
  ∃ q,aL n (.d (mP k4 wh x)::l) (Lj t i_ a1 a2 a3 a4) (PU h c os kvs lb (wl (d+1)) (m+8))=aL n l (Lj t Zn (kd k4) (.bool wh) (.int x) (bV k4 wh)) (PU h c (os++ju c ⟨k4,wh,x⟩) kvs lb (wl (d+2)) (m+q)):=by
 cases k4
 ·cases wh
  ·exact⟨6,GE n h t c kvs lb (m+6) x l os i_ a1 a2 a3 a4 d hd⟩
  ·refine⟨1,?_⟩
   rw[show os++ju c ⟨Zn,Zm,x⟩=_ from LV ..]
   exact D0 n h t c kvs lb (m+1) x l os i_ a1 a2 a3 a4 d hd
 ·cases wh
  ·exact⟨6,Ha n h t c kvs lb (m+6) x l os i_ a1 a2 a3 a4 d hd⟩
  ·refine⟨3,?_⟩
   rw[show os++ju c ⟨Zm,Zm,x⟩=_ from MI ..]
   exact Cr n h t c kvs lb (m+3) x l os i_ a1 a2 a3 a4 d hd
theorem rq(kvs:List (SQ×SQ))(lb:List SQ)(c:n_)(is:List q_):∀ (os:List SQ) (d m:Nat) (i_:Bool) (a1 a2 a3 a4:SQ),d+is.length<=3->
  X6 λ(P9:Bool) (b1 b2 b3 b4:SQ) (cap:Nat)=>m<=cap/\aL n (its is) (Lj t i_ a1 a2 a3 a4) (PU h c os kvs lb (wl (d+1)) (m+8*is.length))
   = .ok (.next,Lj t P9 b1 b2 b3 b4) (PU h c (os++cb c is) kvs lb (wl (d+1+is.length)) cap):=by
 induction is with
 | nil=>
  intro os d m i_ a1 a2 a3 a4 hd
  refine⟨i_,a1,a2,a3,a4,m,UG _,?_⟩
  rw[show os++cb c []=os from U8 os]
  exact bM rfl
 | cons i is ih=>
  intro os d m i_ a1 a2 a3 a4 hd;obtain⟨k4,wh,x⟩:=i;obtain⟨q,e⟩:=DO n h t kvs lb c k4 wh x (its is) os d (m+8*is.length) i_ a1 a2 a3 a4 (Ww (Nat.lt_add_of_pos_right (Y9 _)) hd);obtain⟨P9,b1,b2,b3,b4,cap,h1,h2⟩:=ih (os++ju c ⟨k4,wh,x⟩) (d+1) (m+q) Zn (kd k4) (.bool wh) (.int x) (bV k4 wh) (TY d 1 is.length▸hd)
  refine⟨P9,b1,b2,b3,b4,cap,Te (TX ..) h1,e.trans ?_⟩
  rw[TY m,show os++cb c (⟨k4,wh,x⟩::is)=os++ju c ⟨k4,wh,x⟩++cb c is from(Vs ..).symm,Ug,show d+1+(is.length+1)=d+1+1+is.length from(TY (d+1) 1 is.length).symm]
  exact h2
end
section
variable(n:Nat)(h:Hp)(t:Tl)(c:n_)(kvs:List (SQ×SQ))(lb rec:List SQ)(k cap:Nat)(x:Int)(a1 a2 a3 a4:SQ)
theorem Cm(i_:Bool)(d:Nat)(hd:d < 4):iR n (ac i_ (gU { t with w:=ay } 36) (bf { t with w:=ay } 36 a1 a2 a3 a4)) (Ow h c rec k kvs lb (wl (d+1)) (cap+1)) = .ok (.d (.list (wl (d+2)))) ⟨({ h with num:=c.num }).o (.a_ []),Zk,cap⟩:=by
 apply JF d (by omega)<;>(apply bt i_;kernel_rfl)
noncomputable def n_.st(c:n_)(io:Bool)(code:Int):n_:={ c with c5:=ac io code c.c5 }
theorem EK(io en er:Bool)(d:Nat)(hd:d < 3)(w:Int)(hw:cP Zn io en er=Zj w):iR n (bf { t with w:=ay,ct:=b7 io en er } 36 a1 a2 a3 a4) (A_ h c (cg io 7) rec k [.a_ (wl (d+1)++[.int w])] Zk cap)
  = .ok (.d (.list (wl (d+1)++[.int w]))) ⟨({ h with num:=(c.st io 7).num }).o (.a_ []),Zk,cap⟩:=by
 apply sB d (by omega)<;>cases io<;>cases en<;>cases er<;>first|(cases hw;kernel_rfl)|cases hw
end
end
section
open PySem
noncomputable def cN(star w:Bool):SQ:=ac star (.str fj) (.int (ac w 6 5))
section
variable(n:Nat)(h:Hp)(t:Tl)(c:n_)(lb:List SQ)(cap:Nat)(a1 a2 a3 a4 f:SQ)(os:List SQ)
theorem zW(io en er o star i_:Bool)(d:Nat)(hd:d < 4):iR n (ac i_ (gU { t with w:=aY } 37) (bf { t with w:=aY } 37 a1 a2 a3 a4)) (PU h c os (aX io en er o (cN star Zm) f) lb (wl (d+1)) (cap+2))
  = .ok (.d (.list (wl (d+2)))) ⟨({ h with num:=c.num,out:=h.out++[Uz os] }).o (.a_ []),Zk,cap⟩:=by
 apply JF d (by omega)<;>(apply JT i_ io en er o star;kernel_rfl)
end
end
section
open PySem
noncomputable def HB:Tq:=⟨⟨[40,73,49,41]⟩⟩
noncomputable def JS:Tq:=⟨⟨[40,73,52,41]⟩⟩
noncomputable def JZ:Tq:=⟨⟨[40,76,50,41]⟩⟩
noncomputable def KI:Tq:=⟨⟨[40,76,52,41]⟩⟩
noncomputable def LI:Tq:=⟨⟨[40,65,41]⟩⟩
inductive OO where
 | l10|RO|RP
noncomputable def OO.z:OO->Int
 | .l10=>10
 | .RO=>20
 | .RP=>30
inductive Wy where
 | w0|w1|w2|w3|w4|w5
noncomputable def Wy.z:Wy->Int
 | .w0=>0
 | .w1=>1
 | .w2=>2
 | .w3=>3
 | .w4=>4
 | .w5=>5
noncomputable def KW:OO->Option Tq
 | .l10=>Zj JS
 | .RO=>Zj JZ
 | .RP=>Zk
noncomputable def cC(w:Wy)(l:OO):Option Tq:=match w with
 | .w0=>Zj fj
 | .w1=>Zj HB
 | .w2=>KW l
 | .w3=>KW l
 | .w4=>Zj KI
 | .w5=>Zj LI
noncomputable def qa(w:Wy)(star:Bool):Bool:=match w with
 | .w0=>star
 | .w1=>star
 | _=>Zm
noncomputable def Ln(k:Tq):SQ := .tuple [.str zn,.str k]
noncomputable def vJ:Tq:=⟨⟨[108,97,98,101,108]⟩⟩
noncomputable def Cz:Tq:=⟨⟨[116,101,120,116,115]⟩⟩
noncomputable def vQ:Tq:=⟨⟨[118,97,108,117,101]⟩⟩
noncomputable def ii(w:Wy)(star:Bool):List SQ:=ac star [] [.tuple [.str j9,.str vQ]]++match w with
 | .w0=>[]
 | .w1=>[]
 | .w2=>[Ln vJ]
 | .w3=>[Ln vJ]
 | .w4=>[Ln Cz]
 | .w5=>[Ln vQ]
noncomputable def bY(w:Wy)(star:Bool)(u:Int):List SQ:=ac star [] [.int u]++match w with
 | .w0=>[]
 | .w1=>[]
 | .w2=>[.tuple [.int 0,.int 6,.int 0,.tuple []]]
 | .w3=>[.tuple [.int 0,.int 6,.int 0,.tuple []]]
 | .w4=>[.tuple [.int 5,.int 0,.int 2,.tuple [.tuple [.int 1,.int 2]]]]
 | .w5=>[.str LI]
noncomputable def ed(io en er:Bool)(w:Wy)(star:Bool):List (SQ×SQ):=b7 io en er++(ac star [(.str j9,.str fj)] []++match w with
 | .w0=>[(.str zn,.str fj)]
 | .w1=>[(.str zn,.str HB)]
 | _=>[])
noncomputable def bw:List (SQ×SQ):=[(.int 10,.str JS),(.int 20,.str JZ)]
noncomputable def uD(star:Bool)(u:Int):SQ:=ac star (.str fj) (.int u)
noncomputable def dn(w:Wy):Nat:=match w with
 | .w4=>4
 | _=>0
section
variable(n:Nat)(h:Hp)(c:n_)(cap:Nat)(u:Int)
noncomputable def Mz(h:Hp)(io en er:Bool)(w:Wy)(l:OO)(star:Bool)(u:Int)(cap:Nat):R V:=ag (cC w l) (.exc ⟨h.o (.a_ [])++[.dict (cR (b7 io en er++[(.str j9,uD star u)]))],Zj (51,0),cap⟩) λf => .ok (.d (.tuple [.dict (aX io en er (qa w star) (uD star u) (.str f)),.none])) ⟨h.o (.a_ []),Zk,cap⟩
theorem K1(io en er star b:Bool)(w:Wy)(l:OO):(aa T0 af (n+45)).cl (.val (.ref 549)) [.ref 12,.d (.list (bY w star u)),.d (.list (ii w star)),.d (.dict (ed io en er w star)),.d (.dict bw),.d (.bool b)]
   ⟨({ h with num:=({ c with d_:=l.z }:n_).num }).o (.a_ []),Zk,cap+dn w⟩=Mz { h with num:=({ c with d_:=l.z }:n_).num } io en er w l star u cap:=by
 cases w
 case w2=>cases l<;>(apply km star io en er;kernel_rfl)
 case w3=>cases l<;>(apply km star io en er;kernel_rfl)
 all_goals ((apply km star io en er;kernel_rfl))
end
end
section
open PySem
noncomputable def mq:Tq:=⟨⟨[105,115,95,119,114,105,116,101]⟩⟩
noncomputable def A9:Tq:=⟨⟨[104,111,119,115]⟩⟩
noncomputable def u6:Tq:=⟨⟨[102,105,120,101,100]⟩⟩
noncomputable def nJ:Tq:=⟨⟨[102,111,114,109,97,116,115]⟩⟩
noncomputable def PM:Fn:=aI 71
noncomputable def jc(w:Bool)(vs re hw fx fm:SQ)(lb:List SQ)(kvs:List (SQ×SQ)):LE:=[(bB,.ref 12),(fq,.d vs),(jy,.d re),(mq,.d (.bool w)),(A9,.d hw),(u6,.d fx),(nJ,.d fm),(qV,.d (.list lb)),(dZ,.d (.dict kvs)),(HT,.d .none)]
noncomputable def c8(n:Nat)(le:LE)(σ:VS):R V:=((aa T0 af (n+40)).ex (PM.body.drop 2) PM.scope le σ).bind λp s=>br 34 p s
noncomputable def fT(star:Bool)(t:List Nat):SQ := .str (ac star fj ⟨⟨40::t⟩⟩)
section
variable(n:Nat)(h:Hp)(cap:Nat)(vs re hw fx fm:SQ)(t:List Nat)(rec:List SQ)(post:List SQ)
theorem Bt(io en er o star fs:Bool):c8 n (jc Zm vs re hw fx fm (aW en er) (aX io en er o (cN star Zm) (fT fs t))) ⟨h.o (.a_ []),Zk,cap+2⟩
  = .ok (.d (.int (-1))) ⟨({ h with seen:=h.seen++[fT fs t] }).o (eZ 36 (aX io en er o (cN star Zm) (fT fs t)) (aW en er))++GN (aX io en er o (cN star Zm) (fT fs t)) [],Zk,cap⟩:=by
 (apply JT o star fs io en er;kernel_rfl)
noncomputable def Em(w six:Bool):SQ := .int (ac six 7 (ac w 5 6))
noncomputable def JG(io en er:Bool)(h:Hp)(cap:Nat):R V:=ag (cP Zn io en er) (.exc ⟨h.o (.a_ []),Zj (70,11),cap+1⟩) λw => .ok (.d (.int w)) ⟨h.o (cg io 11),Zk,f8 io cap⟩
theorem Hx(w six io en er o fs:Bool):c8 n (jc w vs re hw fx fm (aW en er) (aX io en er o (Em w six) (fT fs t))) ⟨h.o (.a_ []),Zk,cap+1⟩=JG io en er h cap:=by
 (apply Oi w six o fs io en er;kernel_rfl)
theorem Dm(io en er o star fs:Bool)(pre:List SQ)(hp:pre.length < 3):c8 n (jc Zn vs re hw fx fm (aW en er) (aX io en er o (cN star Zn) (fT fs t))) ⟨({ h with inp:=pre++Uz rec::post,B':=Tn pre.length }).o (.a_ []),Zk,cap+2⟩
  = .ok (.d (.int (-1))) ⟨({ h with seen:=h.seen++[fT fs t],inp:=pre++Uz rec::post,B':=Tn (pre.length+1) }).o (eZ 35 (aX io en er o (cN star Zn) (fT fs t)) (aW en er))++[s9,y3 rec 0],Zk,cap⟩:=by
 apply Mv pre hp<;>intros<;>(apply JT o star fs io en er;kernel_rfl)
noncomputable def Jb(io en er:Bool)(h:Hp)(cap:Nat):R V:=ag (cP Zm io en er) (.exc ⟨h.o (.a_ [])++[s9],Zj (89,-1),cap+1⟩) λw => .ok (.d (.int w)) ⟨h.o (cg io (-1)),Zk,f8 io cap⟩
theorem GB(io en er o star fs:Bool)(pre:List SQ)(hp:pre.length < 4):c8 n (jc Zn vs re hw fx fm (aW en er) (aX io en er o (cN star Zn) (fT fs t))) ⟨({ h with inp:=pre,B':=Tn pre.length }).o (.a_ []),Zk,cap+2⟩
  = Jb io en er { h with seen:=h.seen++[fT fs t],inp:=pre,B':=Tn pre.length } cap:=by
 apply AB pre hp<;>intros<;>(apply JT o star fs io en er;kernel_rfl)
end
end
section
open PySem
noncomputable def wy(w:Bool):Fn:=ac w (aI 72) (aI 73)
noncomputable def IV(w:Bool):Tc:=ac w 577 584
noncomputable def jh(w:Bool):Tq:=ac w aY ay
noncomputable def ch(io en er:Bool)(w:Wy)(star:Bool):SQ := .tuple [.list (ii w star),.dict (ed io en er w star),.dict bw,.list (aW en er)]
noncomputable def NO:T9:=ai PM.body 0
noncomputable def B8:T9:=ai PM.body 1
theorem D7:PM.body=NO::B8::PM.body.drop 2:=by kernel_rfl
theorem FN:B8 = .Assign [aq B8] (.Call (ba (ae B8)) (aN (ae B8)) [] (ax (ae B8))) (bQ B8):=by kernel_rfl
theorem Fp:T0.fn 570=Zj PM:=by kernel_rfl
noncomputable def Cu(w:Bool):T9:=ai (wy w).body 0
theorem pE(w:Bool):(wy w).body=[Cu w]:=by(apply bt w;kernel_rfl)
theorem Hg(w:Bool):Cu w = .Return (Zj (.Call (ba (ae (Cu w))) (aN (ae (Cu w))) [] (ax (ae (Cu w))))) (bQ (Cu w)):=by(apply bt w;kernel_rfl)
theorem zd(w:Bool):T0.fn (IV w)=Zj (wy w):=by(apply bt w;kernel_rfl)
noncomputable def wJ(w:Bool)(vs re:SQ):LE:=[(bB,.ref 12),(fq,.d vs),(jy,.d re),(mq,.d (.bool w))]
noncomputable def FK(w:Bool)(vs re hw fx fm lb:SQ):LE:=wJ w vs re++[(A9,.d hw),(u6,.d fx),(nJ,.d fm),(qV,.d lb)]
noncomputable def oO(vs re:SQ):LE:=[(bB,.ref 12),(fq,.d vs),(jy,.d re)]
section
variable(n:Nat)(h:Hp)(c:n_)(cap:Nat)(u:Int)
noncomputable def hl(h:Hp)(c:n_)(l:OO):Hp:={ h with num:=({ c with d_:=l.z }:n_).num }
theorem vi(io en er star b:Bool)(w:Wy)(l:OO)(dW:Nat)(hcap:dW=cap+dn w):(aa T0 af (n+54)).ex PM.body PM.scope (wJ b (.list (bY w star u)) (ch io en er w star)) ⟨(hl h c l).o (.a_ []),Zk,dW⟩
  = match cC w l with
   | none => .exc ⟨(hl h c l).o (.a_ [])++[.dict (cR (b7 io en er++[(.str j9,uD star u)]))],Zj (51,0),cap⟩
   | some f=>(aa T0 af (n+52)).ex (PM.body.drop 2) PM.scope (jc b (.list (bY w star u)) (ch io en er w star) (.list (ii w star)) (.dict (ed io en er w star)) (.dict bw) (aW en er) (aX io en er (qa w star) (uD star u) (.str f))) ⟨(hl h c l).o (.a_ []),Zk,cap⟩:=by
 subst hcap;refine b_ D7 ?_
 refine(aC (le':=FK b (.list (bY w star u)) (ch io en er w star) (.list (ii w star)) (.dict (ed io en er w star)) (.dict bw) (.list (aW en er))) (σ':=⟨(hl h c l).o (.a_ []),Zk,cap+dn w⟩) (by kernel_rfl)).trans ?_
 have ev:(aa T0 af (n+52)).ev (.Call (ba (ae B8)) (aN (ae B8)) [] (ax (ae B8))) PM.scope (FK b (.list (bY w star u)) (ch io en er w star) (.list (ii w star)) (.dict (ed io en er w star)) (.dict bw) (.list (aW en er))) ⟨(hl h c l).o (.a_ []),Zk,cap+dn w⟩
   = Mz (hl h c l) io en er w l star u cap:=by
  refine(bC (vf := .val (.ref 549)) (vs:=[.ref 12,.d (.list (bY w star u)),.d (.list (ii w star)),.d (.dict (ed io en er w star)),.d (.dict bw),.d (.bool b)]) (σ₁:=⟨(hl h c l).o (.a_ []),Zk,cap+dn w⟩) (σ₂:=⟨(hl h c l).o (.a_ []),Zk,cap+dn w⟩) ?_ ?_ ?_ ?_).trans (K1 (n+6) h c cap u io en er star b w l)<;>kernel_rfl
 unfold Mz at ev;cases hf:cC w l with
 | none=>
  rw[hf]at ev;refine g0 ?_
  refine b_ FN ?_
  exact uc (by kernel_rfl) (by kernel_rfl) ev
 | some f=>
  rw[hf]at ev;refine aC ?_
  refine b_ FN ?_
  exact(dF (by kernel_rfl) (by kernel_rfl) ev).trans (by kernel_rfl)
theorem u7(io en er star b:Bool)(w:Wy)(l:OO)(f:Tq)(hf:cC w l=Zj f)(r:R V)(hr:c8 (n+12) (jc b (.list (bY w star u)) (ch io en er w star) (.list (ii w star)) (.dict (ed io en er w star)) (.dict bw) (aW en er) (aX io en er (qa w star) (uD star u) (.str f))) ⟨(hl h c l).o (.a_ []),Zk,cap⟩=r) :
  (aa T0 af (n+55)).cl (.val (.ref 570)) [.ref 12,.d (.list (bY w star u)),.d (ch io en er w star),.d (.bool b)] ⟨(hl h c l).o (.a_ []),Zk,cap+dn w⟩=r:=by
 have e:=vi n h c cap u io en er star b w l _ rfl
 rw[hf]at e
 refine(iY (fn:=PM) (l:=wJ b (.list (bY w star u)) (ch io en er w star)) rfl Fp (by kernel_rfl) e).trans ?_
 subst hr
 kernel_rfl
theorem Af(io en er star b:Bool)(w:Wy)(l:OO)(hf:cC w l=Zk) :
  (aa T0 af (n+55)).cl (.val (.ref 570)) [.ref 12,.d (.list (bY w star u)),.d (ch io en er w star),.d (.bool b)] ⟨(hl h c l).o (.a_ []),Zk,cap+dn w⟩ = .exc ⟨(hl h c l).o (.a_ [])++[.dict (cR (b7 io en er++[(.str j9,uD star u)]))],Zj (51,0),cap⟩:=by
 have e:=vi n h c cap u io en er star b w l _ rfl
 rw[hf]at e
 exact(iY (fn:=PM) (l:=wJ b (.list (bY w star u)) (ch io en er w star)) rfl Fp (by kernel_rfl) e).trans (by kernel_rfl)
theorem oS(b:Bool)(vs re:SQ)(σ:VS)(r:R V)(RQ:len σ.o=34)(hr:(aa T0 af (n+55)).cl (.val (.ref 570)) [.ref 12,.d vs,.d re,.d (.bool b)] σ=r)(hb:∀ v σ',r = .ok v σ'->cz 34 v σ' = .ok v σ') :
  (aa T0 af (n+58)).cl (.val (.ref (IV b))) [.ref 12,.d vs,.d re] σ=r:=by
 have ev:(aa T0 af (n+56)).ev (.Call (ba (ae (Cu b))) (aN (ae (Cu b))) [] (ax (ae (Cu b)))) (wy b).scope (oO vs re) σ=r:=by
  refine(bC (vf := .val (.ref 570)) (vs:=[.ref 12,.d vs,.d re,.d (.bool b)]) (σ₁:=σ) (σ₂:=σ) ?_ ?_ ?_ ?_).trans hr<;>(apply bt b;kernel_rfl)
 cases r with
 | ok v σ'=>
  have e:(aa T0 af (n+57)).ex (wy b).body (wy b).scope (oO vs re) σ = .ok (.ret v,oO vs re) σ':=by
   refine b_ (pE ..) ?_;refine b_ (Hg ..) ?_
   exact gh (wo ev)
  refine(iY (n:=n+57) (fn:=wy b) (l:=oO vs re) (by cases b<;>rfl) (zd b) (by(apply bt b;kernel_rfl)) e).trans ?_
  show cz (len σ.o) v σ'=_
  refine b_ RQ ?_
  exact hb v σ' rfl
 | exc σ'=>
  have e:(aa T0 af (n+57)).ex (wy b).body (wy b).scope (oO vs re) σ = .exc σ':=by
   refine b_ (pE ..) ?_;refine b_ (Hg ..) ?_
   exact g0 (Bj ev)
  exact iY (n:=n+57) (fn:=wy b) (l:=oO vs re) (by cases b<;>rfl) (zd b) (by(apply bt b;kernel_rfl)) e
 | no=>
  have e:(aa T0 af (n+57)).ex (wy b).body (wy b).scope (oO vs re) σ = .no:=by
   refine b_ (pE ..) ?_;refine b_ (Hg ..) ?_
   show R.bind (R.bind ((aa T0 af (n+56)).ev _ (wy b).scope (oO vs re) σ) _) _=_
   (refine b_ ev ?_);rfl
  exact iY (n:=n+57) (fn:=wy b) (l:=oO vs re) (by cases b<;>rfl) (zd b) (by(apply bt b;kernel_rfl)) e
end
end
section
open PySem
noncomputable def m8:T9:=ai j_.body 3
noncomputable def jI:Expr:=bl (aN (ae m8)) 0
theorem uS:j_.body.drop 3=m8::j_.body.drop 4:=by kernel_rfl
theorem vS:m8 = .Assign [aq m8] (.List [jI] (ax (ae m8))) (bQ m8):=by kernel_rfl
theorem DF:jI = .Call (ba jI) (aN jI) [] (ax jI):=by kernel_rfl
theorem vO:j_.body.drop 4=bx::j_.body.drop 5:=by kernel_rfl
theorem v5:bx = .For (aq bx) (ae bx) (az bx) [] (bQ bx):=by kernel_rfl
theorem DK:T0.fn 813=Zj j_:=by kernel_rfl
noncomputable def AP(t:Tl):LE:=[(bB,.ref 12),(bE,.d t.st),(pP,.d (.str t.w)),(dZ,.d (.dict t.ct)),(wf,.d t.way),(jn,.d t.u),(i0,.d t.items),(EX,.ref 22),(fq,.d t.values),(jy,.d t.rest)]
noncomputable def pC(wd:Tq)(io en er:Bool)(w:Wy)(star:Bool)(u:Int)(items:List SQ):Tl:=
 { w:=wd,ct:=b7 io en er,st:=L6 wd (b7 io en er) w.z (uD star u) items,way := .int w.z,u:=uD star u,items := .list items,values := .list (bY w star u),rest:=ch io en er w star }
noncomputable def b1(b:Bool):Nat:=ac b 1 0
noncomputable def l9(en er:Bool)(w:Wy)(star:Bool):Nat:=b1 en+b1 er+ac star 0 2+match w with
 | .w0=>0
 | .w1=>0
 | _=>2
section
variable(n:Nat)(h:Hp)(cap:Nat)(u:Int)(items:List SQ)
theorem sP(io en er star isW:Bool)(w:Wy):(aa T0 af (n+65)).ex j_.body j_.scope [(bB,.ref 12),(bE,.d (L6 (jh isW) (b7 io en er) w.z (uD star u) items))] ⟨h.o (.a_ []),Zk,cap+l9 en er w star⟩
  = (aa T0 af (n+62)).ex (j_.body.drop 3) j_.scope (AP (pC (jh isW) io en er w star u items)) ⟨h.o (.a_ []),Zk,cap⟩:=by
 cases w<;>(apply km star io en er;kernel_rfl)
theorem rK(t:Tl)(isW:Bool)(r:R V)(hr:(aa T0 af (n+58)).cl (.val (.ref (IV isW))) [.ref 12,.d t.values,.d t.rest] ⟨h.o (.a_ []),Zk,cap⟩=r) :
  (aa T0 af (n+59)).ev jI j_.scope (AP { t with w:=jh isW }) ⟨h.o (.a_ []),Zk,cap⟩=r:=by
 refine b_ DF ?_
 refine(bC (vf := .val (.ref (IV isW))) (vs:=[.ref 12,.d t.values,.d t.rest]) (σ₁:=⟨h.o (.a_ []),Zk,cap⟩) (σ₂:=⟨h.o (.a_ []),Zk,cap⟩) ?_ ?_ ?_ ?_).trans hr
 ·kernel_rfl
 ·kernel_rfl
 ·(apply bt isW;kernel_rfl)
 ·kernel_rfl
theorem AJ(t:Tl)(isW:Bool)(wv:Int)(o2:List O)(OA:Nat)(hr:(aa T0 af (n+58)).cl (.val (.ref (IV isW))) [.ref 12,.d t.values,.d t.rest] ⟨h.o (.a_ []),Zk,cap⟩ = .ok (.d (.int wv)) ⟨o2,Zk,OA⟩) :
  (aa T0 af (n+62)).ex (j_.body.drop 3) j_.scope (AP { t with w:=jh isW }) ⟨h.o (.a_ []),Zk,cap⟩=(aa T0 af (n+61)).ex (j_.body.drop 4) j_.scope (gU { t with w:=jh isW } (len o2)) ⟨o2++[.a_ [.int wv]],Zk,OA⟩:=by
 refine b_ uS ?_
 refine aC ?_
 refine b_ vS ?_
 refine(dF (v := .ref (len o2)) (σ':=⟨o2++[.a_ [.int wv]],Zk,OA⟩) (by kernel_rfl) (by kernel_rfl) ((Ib (d0 (rK n h cap t isW _ hr :))).trans (by kernel_rfl))).trans (by kernel_rfl)
theorem nI(t:Tl)(isW:Bool)(σ':VS)(hr:(aa T0 af (n+58)).cl (.val (.ref (IV isW))) [.ref 12,.d t.values,.d t.rest] ⟨h.o (.a_ []),Zk,cap⟩ = .exc σ') :
  (aa T0 af (n+62)).ex (j_.body.drop 3) j_.scope (AP { t with w:=jh isW }) ⟨h.o (.a_ []),Zk,cap⟩ = .exc σ':=by
 refine b_ uS ?_
 refine g0 ?_
 refine b_ vS ?_
 exact uc (by kernel_rfl) (by kernel_rfl) (Ci (vD (rK n h cap t isW _ hr :)))
theorem iN(t:Tl)(is:List q_)(m:Nat)(σ:VS)(le':LE)(σ':VS)(ht:t.items = .list (is.map q_.d))(hr:aL n (its is) (gU t m) σ = .ok (.next,le') σ') :
  (aa T0 af (n+61)).ex (j_.body.drop 4) j_.scope (gU t m) σ=(aa T0 af (n+60)).ex (j_.body.drop 5) j_.scope le' σ':=by
 refine b_ vO ?_
 refine aC ?_
 refine b_ v5 ?_
 refine(sa (xs:=is.map q_.d) (σ':=σ) ?_).trans hr
 refine A' ht ?_
 kernel_rfl
theorem xG(t:Tl)(is:List q_)(m:Nat)(σ:VS)(σ':VS)(ht:t.items = .list (is.map q_.d))(hr:aL n (its is) (gU t m) σ = .exc σ') :
  (aa T0 af (n+61)).ex (j_.body.drop 4) j_.scope (gU t m) σ = .exc σ':=by
 refine b_ vO ?_
 refine g0 ?_
 refine b_ v5 ?_
 refine(sa (xs:=is.map q_.d) (σ':=σ) ?_).trans hr
 refine A' ht ?_
 kernel_rfl
end
end
section
open PySem
section
variable(n:Nat)(h:Hp)(c:n_)(l:OO)(cap:Nat)(u:Int)(is:List q_)
noncomputable def a9(isW io en er:Bool)(w:Wy)(star:Bool)(u:Int)(is:List q_):SQ:=L6 (jh isW) (b7 io en er) w.z (uD star u) (is.map q_.d)
noncomputable def fk(n:Nat)(isW io en er:Bool)(w:Wy)(star:Bool)(u:Int)(is:List q_)(σ:VS):R V:=(aa T0 af (n+66)).cl (.val (.ref 813)) [.ref 12,.d (a9 isW io en er w star u is)] σ
theorem jt(isW io en er star:Bool)(w:Wy)(r:R (Fl×LE))(hr:(aa T0 af (n+62)).ex (j_.body.drop 3) j_.scope (AP (pC (jh isW) io en er w star u (is.map q_.d))) ⟨h.o (.a_ []),Zk,cap⟩=r) :
  fk n isW io en er w star u is ⟨h.o (.a_ []),Zk,cap+l9 en er w star⟩=r.bind λp s=>br 34 p s:=
 (iY (n:=n+65) (fn:=j_) (l:=[(bB,.ref 12),(bE,.d (a9 isW io en er w star u is))]) rfl DK (by kernel_rfl) ((sP n h cap u (is.map q_.d) io en er star isW w).trans hr)).trans (by kernel_rfl)
theorem B0(isW io en er star:Bool)(w:Wy)(hf:cC w l=Zk):fk n isW io en er w star u is ⟨(hl h c l).o (.a_ []),Zk,cap+dn w+l9 en er w star⟩
  = .exc ⟨(hl h c l).o (.a_ [])++[.dict (cR (b7 io en er++[(.str j9,uD star u)]))],Zj (51,0),cap⟩:=by
 exact(jt n (hl h c l) (cap+dn w) u is isW io en er star w _ (nI n (hl h c l) (cap+dn w) (pC (jh isW) io en er w star u (is.map q_.d)) isW _ (oS n isW (.list (bY w star u)) (ch io en er w star) ⟨(hl h c l).o (.a_ []),Zk,cap+dn w⟩ _ (by kernel_rfl) (Af n h c cap u io en er star isW w l hf) (λv σ' q=>by cases q) :) :)).trans (by kernel_rfl)
theorem yd(isW io en er star:Bool)(w:Wy)(f:Tq)(hf:cC w l=Zj f)(σ':VS)
  (hr:c8 (n+12) (jc isW (.list (bY w star u)) (ch io en er w star) (.list (ii w star)) (.dict (ed io en er w star)) (.dict bw) (aW en er) (aX io en er (qa w star) (uD star u) (.str f))) ⟨(hl h c l).o (.a_ []),Zk,cap⟩ = .exc σ') :
  fk n isW io en er w star u is ⟨(hl h c l).o (.a_ []),Zk,cap+dn w+l9 en er w star⟩ = .exc σ':=by
 exact(jt n (hl h c l) (cap+dn w) u is isW io en er star w _ (nI n (hl h c l) (cap+dn w) (pC (jh isW) io en er w star u (is.map q_.d)) isW _ (oS n isW (.list (bY w star u)) (ch io en er w star) ⟨(hl h c l).o (.a_ []),Zk,cap+dn w⟩ _ (by kernel_rfl) (u7 n h c cap u io en er star isW w l f hf _ hr) (λv σ' q=>by cases q) :) :)).trans (by kernel_rfl)
theorem yt(isW io en er star:Bool)(w:Wy)(f:Tq)(hf:cC w l=Zj f)(wv:Int)(o2:List O)(OA k:Nat)(hk:len o2=k)
  (hr:c8 (n+12) (jc isW (.list (bY w star u)) (ch io en er w star) (.list (ii w star)) (.dict (ed io en er w star)) (.dict bw) (aW en er) (aX io en er (qa w star) (uD star u) (.str f))) ⟨(hl h c l).o (.a_ []),Zk,cap⟩ = .ok (.d (.int wv)) ⟨o2,Zk,OA⟩)
  (hb:cz 34 (.d (.int wv)) ⟨o2,Zk,OA⟩ = .ok (.d (.int wv)) ⟨o2,Zk,OA⟩) (r:R (Fl×LE))
  (h4:(aa T0 af (n+61)).ex (j_.body.drop 4) j_.scope (gU (pC (jh isW) io en er w star u (is.map q_.d)) k) ⟨o2++[.a_ [.int wv]],Zk,OA⟩=r) :
  fk n isW io en er w star u is ⟨(hl h c l).o (.a_ []),Zk,cap+dn w+l9 en er w star⟩=r.bind λp s=>br 34 p s:=by
 have e2:=AJ n (hl h c l) (cap+dn w) (pC (jh isW) io en er w star u (is.map q_.d)) isW wv o2 OA (oS n isW (.list (bY w star u)) (ch io en er w star) ⟨(hl h c l).o (.a_ []),Zk,cap+dn w⟩ _ (by kernel_rfl) (u7 n h c cap u io en er star isW w l f hf _ hr) (λv σ' q=>by cases q;exact hb) :)
 rw[hk]at e2;exact jt n (hl h c l) (cap+dn w) u is isW io en er star w _ (e2.trans h4)
theorem py{w:Wy}{l:OO}{f:Tq}(h:cC w l=Zj f):X2 λfs t=>V7 f=fT fs t:=by
 cases w
 case w0=>cases h;exact⟨Zm,[],rfl⟩
 case w1=>cases h;exact⟨Zn,_,rfl⟩
 case w2=>cases l<;>first|(cases h;exact⟨Zn,_,rfl⟩)|cases h
 case w3=>cases l<;>first|(cases h;exact⟨Zn,_,rfl⟩)|cases h
 case w4=>cases h;exact⟨Zn,_,rfl⟩
 case w5=>cases h;exact⟨Zn,_,rfl⟩
theorem Hq(t:Tl)(h:Hp)(code:Int)(io k4 wh:Bool)(x:Int)(l:List V)(wv:Int)(hw:wv=0\/wv=1\/wv=2)(i_:Bool)(a1 a2 a3:SQ) :
  aL n (.d (mP k4 wh x)::l) (ac i_ (gU t 34) (yu t 34 a1 a2 a3)) ⟨h.o (cg io code)++[.a_ [.int wv]],Zk,cap⟩
   = aL n l (yu t 34 (kd k4) (.bool wh) (.int x)) ⟨h.o (cg io code)++[.a_ [.int wv]],Zk,cap⟩:=by
 rcases hw with rfl|rfl|rfl<;>(apply bt i_;kernel_rfl)
theorem vZ(t:Tl)(h:Hp)(code:Int)(io:Bool)(wv:Int)(hw:wv=0\/wv=1\/wv=2):∀ (is:List q_) (i_:Bool) (a1 a2 a3:SQ),X4 λ(le1:Bool) (b1 b2 b3:SQ)=>aL n (its is) (ac i_ (gU t 34) (yu t 34 a1 a2 a3)) ⟨h.o (cg io code)++[.a_ [.int wv]],Zk,cap⟩ = .ok (.next,ac le1 (gU t 34) (yu t 34 b1 b2 b3)) ⟨h.o (cg io code)++[.a_ [.int wv]],Zk,cap⟩
 | [],i_,a1,a2,a3=>⟨i_,a1,a2,a3,bM rfl⟩
 | i::is,i_,a1,a2,a3=>by
  obtain⟨le1,b1,b2,b3,e⟩:=vZ t h code io wv hw is Zn (kd i.k4) (.bool i.wh) (.int i.x)
  exact⟨le1,b1,b2,b3,(Hq n cap t h code io i.k4 i.wh i.x (its is) wv hw i_ a1 a2 a3).trans e⟩
theorem GC(t:Tl)(h:Hp)(c:n_)(code:Int)(hcode:code=11\/code = -1)(io en er:Bool)(wv:Int)(hw:wv=0\/wv=1\/wv=2)(le1:Bool)(b1 b2 b3:SQ):iR n (ac le1 (gU { t with ct:=b7 io en er } 34) (yu { t with ct:=b7 io en er } 34 b1 b2 b3)) ⟨({ h with num:=c.num }).o (cg io code)++[.a_ [.int wv]],Zk,cap⟩
  = .ok (.d (.list [.int wv])) ⟨({ h with num:=(c.st io code).num }).o (.a_ []),Zk,cap⟩:=by
 rcases hcode with rfl|rfl<;>rcases hw with rfl|rfl|rfl<;>(apply km io en er le1;kernel_rfl)
end
end
section
open PySem
inductive Un where
 | star|five|six|seven
noncomputable def Un.st:Un->Bool
 | .star=>Zm
 | _=>Zn
noncomputable def Un.z:Un->Int
 | .star=>5
 | .five=>5
 | .six=>6
 | .seven=>7
noncomputable def Un.std(isW:Bool):Un->Bool
 | .star=>Zm
 | .five => !isW
 | .six=>isW
 | .seven=>Zn
theorem yY{uu:Un}{isW:Bool}(hs:uu.std isW=Zn):∃ six,uD uu.st uu.z=Em isW six/\uu.st=Zn:=by
 cases uu<;>cases isW<;>first|exact Ti hs|exact⟨Zn,rfl,rfl⟩|exact⟨Zm,rfl,rfl⟩
theorem pi{uu:Un}{isW:Bool}(hs:uu.std isW=Zm):uD uu.st uu.z=cN uu.st isW:=by
 cases uu<;>cases isW<;>first|rfl|exact Ti hs
inductive Pa where
 | ok (v:SQ)
 | exc (k:Tc) (code:Int)
structure OC where
 out:Pa
 c:n_
 seen:List SQ
 B':Nat
 t_:List SQ
noncomputable def jC(isEnd io en er:Bool)(code:Int)(k:Tc)(pre:List SQ)(c:n_)(seen:List SQ)(B':Nat)(t_:List SQ):OC:=match cP isEnd io en er with
 | none=>⟨.exc k code,c,seen,B',t_⟩
 | some w=>⟨.ok (.list (pre++[.int w])),c.st io code,seen,B',t_⟩
noncomputable def wB(isW io en er:Bool)(w:Wy)(l:OO)(uu:Un)(is:List q_)(c:n_)(seen:List SQ)(recs:List (List Ent))(B':Nat)(t_:List SQ):OC:=match cC w l with
 | none=>⟨.exc 51 0,c,seen,B',t_⟩
 | some f=>match uu.std isW with
  | false=>jC Zn io en er 11 70 [] c seen B' t_
  | true=>match isW with
   | true=>⟨.ok (.list (wl (is.length+2))),c,seen++[.str f],B',t_++[Uz (cb c is)]⟩
   | false=>match recs.drop B' with
    | []=>jC Zm io en er (-1) 89 [] c (seen++[.str f]) B' t_
    | rec::_=>match reads is rec c with
     | (_,Zm,c')=>⟨.ok (.list (wl (is.length+2))),c',seen++[.str f],B'+1,t_⟩
     | (j,Zn,c')=>jC Zn io en er 7 70 (wl (j+1)) c' (seen++[.str f]) (B'+1) t_
noncomputable def OC.h(p:OC)(h:Hp):Hp:={ h with num:=p.c.num,seen:=p.seen,B':=Tn p.B',out:=p.t_ }
def lX(m:Nat)(h:Hp)(p:OC)(r:R V):Prop:=match p.out with
 | .ok v=>∃ cap,m<=cap/\r = .ok (.d v) ⟨(p.h h).o (.a_ []),Zk,cap⟩
 | .exc k code=>X2 λtl cap=>A3 (m<=cap) (iP tl=Zm) (r = .exc ⟨(p.h h).o (.a_ [])++tl,Zj (k,code),cap⟩)
theorem uY(is:List q_):∀ (rec:List Ent) (c:n_),((reads is rec c).2.1=Zm/\(reads is rec c).1=is.length)\/((reads is rec c).2.1=Zn/\(reads is rec c).1 < is.length):=by
 induction is with
 | nil=>exact λ_ _ => .inl ⟨rfl,rfl⟩
 | cons i is ih=>
  intro rec c;cases e:cj i.k4 (bj i.k4 i.wh) rec c with
  | mk b z=>
   obtain⟨r',c2⟩:=z;cases b with
   | false=>rw[iv e];exact .inr ⟨rfl,Y9 _⟩
   | true=>rw[jf e];exact(ih r' c2).imp (λh=>⟨h.1,congrArg Ul h.2⟩) λh=>⟨h.1,Nat.succ_lt_succ h.2⟩
theorem nN(is:List q_)(rec:List Ent)(c c':n_)(j:Nat)(h:reads is rec c=(j,Zm,c')):j=is.length:=by
 have q:=uY is rec c
 rw[h]at q;exact q.elim (·.2) λh=>nomatch h.1
theorem rF(is:List q_)(rec:List Ent)(c c':n_)(j:Nat)(h:reads is rec c=(j,Zn,c')):j < is.length:=by
 have q:=uY is rec c
 rw[h]at q;exact q.elim (λh=>nomatch h.1) (·.2)
section
variable(n:Nat)(h:Hp)(c:n_)(l:OO)(u:Int)(is:List q_)
theorem Dk(en er:Bool)(w:Wy)(star:Bool):l9 en er w star<=6:=
 Tw (by cases w<;>(apply IN en er star;kernel_rfl))
theorem CU(w:Wy):dn w<=4:=by cases w<;>decide
theorem yn(en er:Bool)(w:Wy)(star:Bool)(m:Nat):∃ cap,m+40<=cap/\m+50=cap+dn w+l9 en er w star:=by
 have h1:=Dk en er w star
 have h2:=CU w
 refine⟨m+40+(4 - dn w)+(6 - l9 en er w star),Te (TX ..) (TX ..),?_⟩
 rw[TY _ _ (dn w),Xp (m+40),Uq h2,Xp _ _ (l9 en er w star),Uq h1]
theorem fF(en er:Bool)(w:Wy)(star:Bool)(m:Nat):∃ e,m<=e/\m+50=e+40+dn w+l9 en er w star:=by
 obtain⟨cap,h1,h2⟩:=yn en er w star m
 exact⟨cap - 40,Uh h1,by rw[Uq (Te (Ve 40 m) h1)];exact h2⟩
noncomputable def hN(h:Hp)(c:n_):Hp:={ h with num:=c.num }
theorem IM(hc:c.d_=l.z):hl (hN h c) c l=hN h c:=by
 obtain⟨c0,c1,c2,b3,b4,c5,d_⟩:=c;cases hc;rfl
theorem KJ(hc:c.d_=l.z)(isW io en er star:Bool)(w:Wy)(hf:cC w l=Zk)(m:Nat):X2 λtl cap=>A3 (m<=cap) (iP tl=Zm) (fk n isW io en er w star u is ⟨(hN h c).o (.a_ []),Zk,m+50⟩ = .exc ⟨(hN h c).o (.a_ [])++tl,Zj (51,0),cap⟩):=by
 obtain⟨e,h1,h2⟩:=fF en er w star m;have q:=B0 n (hN h c) c l (e+40) u is isW io en er star w hf
 rw[IM h c l hc,<- h2]at q
 exact⟨_,_,Te h1 (TX ..),by(apply km io en er star;kernel_rfl),q⟩
theorem jE(hc:c.d_=l.z)(isW io en er star:Bool)(w:Wy)(f:Tq)(hf:cC w l=Zj f)(wv:Int)(o2 o3:List O)(cap OA k:Nat){m:Nat}(hk:len o2=k)(hm:m=cap+dn w+l9 en er w star)
  (hr:c8 (n+12) (jc isW (.list (bY w star u)) (ch io en er w star) (.list (ii w star)) (.dict (ed io en er w star)) (.dict bw) (aW en er) (aX io en er (qa w star) (uD star u) (.str f))) ⟨(hN h c).o (.a_ []),Zk,cap⟩ = .ok (.d (.int wv)) ⟨o2,Zk,OA⟩)
  (hb:cz 34 (.d (.int wv)) ⟨o2,Zk,OA⟩ = .ok (.d (.int wv)) ⟨o2,Zk,OA⟩) (ho:o2++[.a_ [.int wv]]=o3) {r:R (Fl×LE)}
  (h4:(aa T0 af (n+61)).ex (j_.body.drop 4) j_.scope (gU (pC (jh isW) io en er w star u (is.map q_.d)) k) ⟨o3,Zk,OA⟩=r) :
  fk n isW io en er w star u is ⟨(hN h c).o (.a_ []),Zk,m⟩=r.bind λp s=>br 34 p s:=by
 have key:=yt n (hN h c) c l cap u is isW io en er star w f hf wv o2 OA k hk
 rw[IM h c l hc,<- hm,ho]at key;exact key hr hb r h4
theorem E9(hc:c.d_=l.z)(isEnd isW io en er star:Bool)(code:Int)(hcode:code=11\/code = -1)(k:Tc)(w:Wy)(f:Tq)(hf:cC w l=Zj f)(h0:Hp)(sn:List SQ)(wt:Nat)(ou:List SQ)(m q:Nat)(tl:List O)(ht:iP tl=Zm)
  (hr:∀ e,c8 (n+12) (jc isW (.list (bY w star u)) (ch io en er w star) (.list (ii w star)) (.dict (ed io en er w star)) (.dict bw) (aW en er) (aX io en er (qa w star) (uD star u) (.str f))) ⟨(hN h c).o (.a_ []),Zk,e+40⟩
   = ag (cP isEnd io en er) (.exc ⟨(hN { h0 with seen:=sn,B':=Tn wt,out:=ou } c).o (.a_ [])++tl,Zj (k,code),e+q+1⟩) λw => .ok (.d (.int w)) ⟨(hN { h0 with seen:=sn,B':=Tn wt,out:=ou } c).o (cg io code),Zk,f8 io (e+q)⟩) :
  lX m h0 (jC isEnd io en er code k [] c sn wt ou) (fk n isW io en er w star u is ⟨(hN h c).o (.a_ []),Zk,m+50⟩):=by
 obtain⟨e,h1,h2⟩:=fF en er w star m;have h4:=hr e
 unfold jC;cases hw:cP isEnd io en er with
 | none=>
  rw[hw]at h4;have key:=yd n (hN h c) c l (e+40) u is isW io en er star w f hf
  rw[IM h c l hc,<- h2]at key
  exact⟨tl,e+q+1,Te h1 (TX e (q+1)),ht,key _ h4⟩
 | some wv=>
  rw[hw]at h4;have R6:=on hw
  obtain⟨le1,b1,b2,b3,e5⟩:=vZ n (f8 io (e+q)) (pC (jh isW) io en er w star u (is.map q_.d)) (hN { h0 with seen:=sn,B':=Tn wt,out:=ou } c) code io wv R6 is Zm .none .none .none
  exact⟨f8 io (e+q),Te (Te h1 (TX e q)) (D5 io (e+q)),(jE n h c l u is hc isW io en er star w f hf wv _ _ (e+40) _ 34 (by kernel_rfl) h2 h4 (by(apply bt io;kernel_rfl)) rfl (iN n (pC (jh isW) io en er w star u (is.map q_.d)) is 34 _ _ _ rfl e5)).trans
   (GC n (f8 io (e+q)) (pC (jh isW) io en er w star u (is.map q_.d)) (hN { h0 with seen:=sn,B':=Tn wt,out:=ou } c) c code hcode io en er wv R6 le1 b1 b2 b3)⟩
end
end
section
open PySem
noncomputable def fe(r:List Ent):SQ := .list (r.map Ent.d)
noncomputable def am(l:List (List Ent)):List SQ:=l.map fe
theorem M4{n:Nat}(h:n<=3):8*n<=24:=Wm 8 h
theorem Ku{e n:Nat}(h:n<=3):e+38 - 8*n+8*n=e+38:=Uq (Te (M4 h) (Ve 24 (e+14)))
theorem uW{e n c:Nat}(h:n<=3)(h2:e+38 - 8*n<=c):e+2<=c:=Te (Uh (Te (Vb (M4 h) (e+2)) (TX (e+26) 12))) h2
theorem z0{n:Nat}(h:n<=3):0+n<=3:=Te (VN (XR n)) h
theorem y1(n:Nat):0+1+n=n+1:=by exact Zd (0+1) n
theorem FG{m e c k:Nat}(h:m<=e)(h2:e+2<=c)(hk:k<=2):m<=c - k:=Uh (Te (Nat.add_le_add h hk) h2)
theorem FX{e c k:Nat}(h2:e+2<=c)(hk:k<=2):c - k+k=c:=Uq (Te hk (Te (Ve 2 e) h2))
section
variable(n:Nat)(h:Hp)(c:n_)(l:OO)(u:Int)(is:List q_)
section
variable(io en er star:Bool)(w:Wy)(f:Tq)(hf:cC w l=Zj f)
include hf
theorem w8(hu:uD star u=cN star Zm)(cap:Nat):c8 (n+12) (jc Zm (.list (bY w star u)) (ch io en er w star) (.list (ii w star)) (.dict (ed io en er w star)) (.dict bw) (aW en er) (aX io en er (qa w star) (uD star u) (.str f))) ⟨h.o (.a_ []),Zk,cap+2⟩
  = .ok (.d (.int (-1))) ⟨({ h with seen:=h.seen++[V7 f] }).o (eZ 36 (aX io en er (qa w star) (uD star u) (.str f)) (aW en er))++GN (aX io en er (qa w star) (uD star u) (.str f)) [],Zk,cap⟩:=by
 obtain⟨fs,t,QK⟩:=py hf;rw[hu,QK];exact Bt ..
theorem zP(hu:uD star u=cN star Zn)(cap:Nat)(rec pre post:List SQ)(hp:pre.length < 3):c8 (n+12) (jc Zn (.list (bY w star u)) (ch io en er w star) (.list (ii w star)) (.dict (ed io en er w star)) (.dict bw) (aW en er) (aX io en er (qa w star) (uD star u) (.str f))) ⟨({ h with inp:=pre++Uz rec::post,B':=Tn pre.length }).o (.a_ []),Zk,cap+2⟩
  = .ok (.d (.int (-1))) ⟨({ h with seen:=h.seen++[V7 f],inp:=pre++Uz rec::post,B':=Tn (pre.length+1) }).o (eZ 35 (aX io en er (qa w star) (uD star u) (.str f)) (aW en er))++[s9,y3 rec 0],Zk,cap⟩:=by
 obtain⟨fs,t,QK⟩:=py hf;rw[hu,QK];exact Dm (hp:=hp) ..
theorem D2{six isW:Bool}(hu:uD star u=Em isW six)(cap:Nat):c8 (n+12) (jc isW (.list (bY w star u)) (ch io en er w star) (.list (ii w star)) (.dict (ed io en er w star)) (.dict bw) (aW en er) (aX io en er (qa w star) (uD star u) (.str f))) ⟨h.o (.a_ []),Zk,cap+1⟩
  = JG io en er h cap:=by
 obtain⟨fs,t,QK⟩:=py hf;rw[hu,QK];exact Hx ..
theorem CM(hu:uD star u=cN star Zn)(cap:Nat)(pre:List SQ)(hp:pre.length < 4):c8 (n+12) (jc Zn (.list (bY w star u)) (ch io en er w star) (.list (ii w star)) (.dict (ed io en er w star)) (.dict bw) (aW en er) (aX io en er (qa w star) (uD star u) (.str f))) ⟨({ h with inp:=pre,B':=Tn pre.length }).o (.a_ []),Zk,cap+2⟩
  = Jb io en er { h with seen:=h.seen++[V7 f],inp:=pre,B':=Tn pre.length } cap:=by
 obtain⟨fs,t,QK⟩:=py hf;rw[hu,QK];exact GB (hp:=hp) ..
theorem Cg(hu:uD star u=cN star Zm)(hl3:is.length<=3)(hc:c.d_=l.z)(m:Nat) :
  ∃ cap,m<=cap/\fk n Zm io en er w star u is ⟨(hN h c).o (.a_ []),Zk,m+50⟩ = .ok (.d (.list (wl (is.length+2)))) ⟨(hN { h with seen:=h.seen++[V7 f],out:=h.out++[Uz (cb c is)] } c).o (.a_ []),Zk,cap⟩:=by
 obtain⟨e,h1,h2⟩:=fF en er w star m;obtain⟨P9,b1,b2,b3,b4,dW,h3,e2⟩:=rq n { h with seen:=h.seen++[V7 f] } (pC aY io en er w star u (is.map q_.d)) (aX io en er (qa w star) (uD star u) (.str f)) (aW en er) c is [] 0 (e+38 - 8*is.length) Zm .none .none .none .none (z0 hl3)
 have c2:=uW hl3 h3
 have e4:=zW n { h with seen:=h.seen++[V7 f] } (pC aY io en er w star u (is.map q_.d)) c (aW en er) (dW - 2) b1 b2 b3 b4 (.str f) (cb c is) io en er (qa w star) star P9 is.length (Uy hl3)
 rw[<- hu,FX c2 (UG 2)]at e4;rw[Ku hl3,XK,y1]at e2
 exact⟨dW - 2,FG h1 c2 (UG 2),(jE n h c l u is hc Zm io en er star w f hf (-1) _ _ (e+40) (e+38) 37 (by kernel_rfl) h2 (w8 n (hN h c) l u io en er star w f hf hu (e+38)) (by(apply bt star;kernel_rfl)) (Vs ..) (iN n (pC aY io en er w star u (is.map q_.d)) is 37 _ _ _ rfl e2)).trans e4⟩
theorem Gq(hu:uD star u=cN star Zn)(hl3:is.length<=3)(hc:c.d_=l.z)(rec:List Ent)(PT:rec.length<=4)(pre post:List SQ)(hp3:pre.length < 3){X:List SQ}{k:Nat}(hX:X=pre++fe rec::post)(hk:pre.length=k)(m:Nat) :
  lX m { h with inp:=X } (match reads is rec c with
     | (_,Zm,c')=>(⟨.ok (.list (wl (is.length+2))),c',h.seen++[.str f],k+1,h.out⟩:OC)
     | (j,Zn,c')=>jC Zn io en er 7 70 (wl (j+1)) c' (h.seen++[.str f]) (k+1) h.out)
   (fk n Zn io en er w star u is ⟨(hN { h with inp:=X,B':=Tn k } c).o (.a_ []),Zk,m+50⟩):=by
 subst hX hk;obtain⟨e,h1,h2⟩:=fF en er w star m;have T:=tu n { h with seen:=h.seen++[V7 f],inp:=pre++fe rec::post,B':=Tn (pre.length+1) } (pC ay io en er w star u (is.map q_.d)) (uD star u) (.str f) io en er (qa w star) is c [] rec 0 (e+38 - 8*is.length) Zm .none .none .none .none (z0 hl3) (by rw[List.length_nil,XR];exact PT)
 rw[Ku hl3]at T;have beg:=λr hr=>jE n { h with inp:=pre++fe rec::post,B':=Tn pre.length } c l u is hc Zn io en er star w f hf (-1) _ _ (e+40) (e+38) 36 (by kernel_rfl) h2 (zP n (hN h c) l u io en er star w f hf hu (e+38) (rec.map Ent.d) pre post hp3) (by(apply bt star;kernel_rfl)) (Vs ..) (r:=r) hr
 cases hz:reads is rec c with
 | mk j z=>
  obtain⟨b,c'⟩:=z;rw[hz]at T;cases b with
  | true=>
   have hj:=nN is rec c c' j hz
   subst hj;obtain⟨i_,a1,a2,a3,a4,rec',k,dW,h3,e2⟩:=T;have c2:=uW hl3 h3
   have e4:=Cm n { h with seen:=h.seen++[V7 f],inp:=pre++fe rec::post,B':=Tn (pre.length+1) } (pC ay io en er w star u (is.map q_.d)) c' (aX io en er (qa w star) (uD star u) (.str f)) (aW en er) rec' k (dW - 1) a1 a2 a3 a4 i_ is.length (Uy hl3)
   rw[FX c2 (by decide)]at e4
   rw[y1]at e2
   exact⟨dW - 1,FG h1 c2 (by decide),(beg _ (iN n (pC ay io en er w star u (is.map q_.d)) is 36 _ _ _ rfl e2)).trans e4⟩
  | false=>
   have hj:=rF is rec c c' j hz
   unfold OT at T;dsimp only at T ⊢;unfold jC lX;cases hwn:cP Zn io en er with
   | none=>
    rw[hwn]at T;obtain⟨rec',k,w1,w2,w3,arr,dW,h3,e2⟩:=T
    exact⟨s9::y3 rec' k::([O.a_ w1,O.a_ w2]++ac arr [O.a_ w3] []),dW,Te h1 (Te (TX ..) (uW hl3 h3)),by(apply bt arr;kernel_rfl),beg _ (xG n (pC ay io en er w star u (is.map q_.d)) is 36 _ _ rfl e2)⟩
   | some wv=>
    rw[hwn]at T;obtain⟨a1,a2,a3,a4,rec',k,dW,h3,e2⟩:=T;rw[y1]at e2
    exact⟨dW,Te h1 (Te (TX ..) (uW hl3 h3)),(beg _ (iN n (pC ay io en er w star u (is.map q_.d)) is 36 _ _ _ rfl e2)).trans (EK n { h with seen:=h.seen++[V7 f],inp:=pre++fe rec::post,B':=Tn (pre.length+1) } (pC ay io en er w star u (is.map q_.d)) c' rec' k dW a1 a2 a3 a4 io en er j (Ww hj hl3) wv hwn)⟩
end
end
end
section
open PySem
section
variable(n:Nat)(h:Hp)(c:n_)(l:OO)(is:List q_)
theorem Eb{α:Type}{l post:List α}{a:α}{k:Nat}(h:l.drop k=a::post):A4 (k < l.length) (l=l.take k++a::post) ((l.take k).length=k) (a∈l):=by
 have e:l=l.take k++a::post:=by rw[<- h,WR]
 have hlt:k < l.length:=by
  rcases Nat.lt_or_ge k l.length with q|q
  ·exact q
  ·rw[Yl.mpr q]at h;cases h
 exact⟨hlt,e,by rw[Wd];exact Yd (Wi hlt),W3 (i:=k) (h ▸ .head _)⟩
theorem Dj{α:Type}{l:List α}{k:Nat}(h:l.drop k=[])(hk:k<=l.length):l.length=k:=Nat.le_antisymm (Yl.mp h) hk
theorem CB{recs post:List (List Ent)}{rec:List Ent}{k:Nat}(e:recs=recs.take k++rec::post):am recs=am (recs.take k)++fe rec::am post:=by
 have q:=congrArg am e
 rw[show am (recs.take k++rec::post)=am (recs.take k)++fe rec::am post from by unfold am;rw[List.map_append,UJ]]at q
 exact q
theorem jw(l:List (List Ent)):(am l).length=l.length:=Vl ..
theorem EB(isW io en er:Bool)(w:Wy)(uu:Un)(hl3:is.length<=3)(hc:c.d_=l.z)(recs:List (List Ent))(OV:recs.length<=3)(PT:∀ r∈recs,r.length<=4)(k:Nat)(hk:k<=recs.length)(m:Nat) :
  lX m { h with inp:=am recs } (wB isW io en er w l uu is c h.seen recs k h.out) (fk n isW io en er w uu.st uu.z is ⟨(hN { h with inp:=am recs,B':=Tn k } c).o (.a_ []),Zk,m+50⟩):=by
 unfold wB;cases hf:cC w l with
 | none=>exact KJ n { h with inp:=am recs,B':=Tn k } c l uu.z is hc isW io en er uu.st w hf m
 | some f=>
  dsimp only;cases hs:uu.std isW with
  | false=>
   obtain⟨six,hu,hst⟩:=yY hs;exact E9 n { h with inp:=am recs,B':=Tn k } c l uu.z is hc Zn isW io en er uu.st 11 (.inl rfl) 70 w f hf { h with inp:=am recs } h.seen k h.out m 39 [] rfl λe=>(D2 n (hN { h with inp:=am recs,B':=Tn k } c) l uu.z io en er uu.st w f hf hu (e+39)).trans (by rw[U8];rfl)
  | true=>
   dsimp only;cases isW with
   | true=>exact Cg n { h with inp:=am recs,B':=Tn k } c l uu.z is io en er uu.st w f hf (pi hs) hl3 hc m
   | false=>
    cases hd:recs.drop k with
    | nil=>
     have hpl:(am recs).length=k:=(jw recs).trans (Dj hd hk)
     subst hpl;exact E9 n { h with inp:=am recs,B':=Tn (am recs).length } c l uu.z is hc Zm Zn io en er uu.st (-1) (.inr rfl) 89 w f hf { h with inp:=am recs } (h.seen++[.str f]) (am recs).length h.out m 38 [s9] (by kernel_rfl) λe=>(CM n (hN h c) l uu.z io en er uu.st w f hf (pi hs) (e+38) (am recs) (by rw[jw];exact Uy OV)).trans rfl
    | cons rec post=>
     obtain⟨hlt,hsp,hpl,hm⟩:=Eb hd;have hpl':(am (recs.take k)).length=k:=(jw _).trans hpl
     exact Gq n h c l uu.z is io en er uu.st w f hf (pi hs) hl3 hc rec (PT rec hm) (am (recs.take k)) (am post) (by rw[hpl'];exact Ww hlt OV) (CB hsp) hpl' m
end
end
section
open PySem
noncomputable def Pq:Fn:=aI 101
noncomputable def Cd:T9:=ai Pq.body 0
noncomputable def EF:T9:=ai (az Cd) 0
theorem De:Pq.body=[Cd]:=by kernel_rfl
noncomputable def LZ:Uk:=match JD Cd with
 | h::_=>h
 | [] => .ExceptHandler Zk Zk [] default
noncomputable def Ex:List Uk:=(JD Cd).drop 1
theorem Ks:Cd = .Try [EF] (LZ::Ex) [] [] (bQ Cd):=by kernel_rfl
theorem Kb:EF = .Return (Zj (.Call (ba (ae EF)) (aN (ae EF)) [] (ax (ae EF)))) (bQ EF):=by kernel_rfl
theorem I7:T0.fn 820=Zj Pq:=by kernel_rfl
noncomputable def FJ:Tq:=⟨⟨[101,110,100]⟩⟩
noncomputable def KU:Tq:=⟨⟨[105,111]⟩⟩
noncomputable def yV:Tq:=⟨⟨[114,117,110]⟩⟩
noncomputable def cY(k:Tc):Tq:=ac (Ue k 89) FJ (ac (Ue k 70) KU yV)
noncomputable def Pa.v:Pa->SQ
 | .ok v=>v
 | .exc k _ => .str (cY k)
noncomputable def iD(st:SQ):LE:=[(bB,.ref 12),(bE,.d st)]
noncomputable def yK(n:Nat)(isW io en er:Bool)(w:Wy)(star:Bool)(u:Int)(is:List q_)(σ:VS):R V:=(aa T0 af (n+70)).cl (.val (.ref 820)) [.ref 12,.d (a9 isW io en er w star u is)] σ
theorem sv:∀ (a b:List O),iP a=Zm->iP b=Zm->iP (a++b)=Zm
 | [],b,_,h=>h
 | x::a,b,h1,h2=>by
  have h1':ac (uq x) (iP a) Zn=Zm:=h1
  cases hx:uq x with
  | false=>rw[hx]at h1';cases h1'
  | true=>
   rw[hx]at h1'
   show ac (uq x) (iP (a++b)) Zn=Zm
   refine b_ hx ?_
   exact sv a b h1' h2
theorem Dx(h:Hp):iP (h.o (.a_ []))=Zm:=by kernel_rfl
theorem ql(h:Hp)(tl:List O)(cap:Nat)(x:SQ):cz 34 (.d x) ⟨h.o (.a_ [])++tl,Zk,cap⟩ = .ok (.d x) ⟨h.o (.a_ []),Zk,cap⟩:=by
 cases tl with
 | nil=>kernel_rfl
 | cons o tl=>kernel_rfl
section
variable(n:Nat)(h:Hp)(u:Int)(is:List q_)
theorem Gf(isW io en er star:Bool)(w:Wy)(cap:Nat)(r:R V)(hr:fk n isW io en er w star u is ⟨h.o (.a_ []),Zk,cap⟩=r) :
  (aa T0 af (n+67)).ev (.Call (ba (ae EF)) (aN (ae EF)) [] (ax (ae EF))) Pq.scope (iD (a9 isW io en er w star u is)) ⟨h.o (.a_ []),Zk,cap⟩=r:=by
 refine(bC (vf := .val (.ref 813)) (vs:=[.ref 12,.d (a9 isW io en er w star u is)]) (σ₁:=⟨h.o (.a_ []),Zk,cap⟩) (σ₂:=⟨h.o (.a_ []),Zk,cap⟩) ?_ ?_ ?_ ?_).trans hr<;>kernel_rfl
theorem wH(isW io en er star:Bool)(w:Wy)(cap:Nat)(r:R (Fl×LE))(hr:aA T0 (aa T0 af (n+68)) Cd Pq.scope (iD (a9 isW io en er w star u is)) ⟨h.o (.a_ []),Zk,cap⟩=r)(v:V)(le:LE)(σ':VS)(e:r = .ok (.ret v,le) σ') :
  yK n isW io en er w star u is ⟨h.o (.a_ []),Zk,cap⟩=cz 34 v σ':=by
 subst e;have e1:(aa T0 af (n+69)).ex Pq.body Pq.scope (iD (a9 isW io en er w star u is)) ⟨h.o (.a_ []),Zk,cap⟩ = .ok (.ret v,le) σ':=by
  (refine b_ De ?_);exact gh hr
 refine(iY (n:=n+69) (fn:=Pq) (l:=iD (a9 isW io en er w star u is)) rfl I7 (by kernel_rfl) e1).trans ?_
 show cz (len (h.o (.a_ []))) v σ'=_
 rw[show len (h.o (.a_ []))=34 from by kernel_rfl]
theorem tI(sc:Tz)(le:LE)(k:Tc)(hk:k=89\/k=70\/k=51)(σ':VS):∃ b₀,cx T0 Pq.scope (LZ::Ex) k=Zj (Zk,[b₀])/\(aa T0 af (n+68)).ex [b₀] Pq.scope le σ' = .ok (.ret (.d (.str (cY k))),le) σ':=by
 rcases hk with rfl|rfl|rfl
 ·exact⟨ai (match LZ with | .ExceptHandler _ _ b _=>b) 0,by kernel_rfl,by kernel_rfl⟩
 ·exact⟨ai (match Ex with | .ExceptHandler _ _ b _::_=>b|_=>[]) 0,by kernel_rfl,by kernel_rfl⟩
 ·exact⟨ai (match Ex with|_ :: .ExceptHandler _ _ b _::_=>b|_=>[]) 0,by kernel_rfl,by kernel_rfl⟩
theorem yU(isW io en er star:Bool)(w:Wy)(p:OC)(hp:∀ k code,p.out = .exc k code->k=89\/k=70\/k=51)(m cap:Nat)(T:lX m h p (fk n isW io en er w star u is ⟨h.o (.a_ []),Zk,cap⟩)) :
  ∃ dW,m<=dW/\yK n isW io en er w star u is ⟨h.o (.a_ []),Zk,cap⟩ = .ok (.d p.out.v) ⟨(p.h h).o (.a_ []),Zk,dW⟩:=by
 unfold lX at T;cases ho:p.out with
 | ok v=>
  rw[ho]at T;obtain⟨dW,h1,h2⟩:=T;have ev:=Gf n h u is isW io en er star w cap _ h2
  refine⟨dW,h1,?_⟩
  have et:aA T0 (aa T0 af (n+68)) Cd Pq.scope (iD (a9 isW io en er w star u is)) ⟨h.o (.a_ []),Zk,cap⟩ = .ok (.ret (.d v),iD (a9 isW io en er w star u is)) ⟨(p.h h).o (.a_ []),Zk,dW⟩:=by
   rw[Ks];refine Er rfl (by kernel_rfl) ?_
   rw[Kb];exact gh (wo ev)
  refine(wH n h u is isW io en er star w cap _ et _ _ _ rfl).trans ?_
  ·exact(congrArg (λx=>cz 34 (.d v) ⟨x,Zk,dW⟩) (U8 _).symm).trans (ql (p.h h) [] dW v)
 | exc k code=>
  rw[ho]at T;obtain⟨tl,dW,h1,hx,h2⟩:=T;obtain⟨b₀,hh,hb⟩:=tI n Pq.scope (iD (a9 isW io en er w star u is)) k (hp k code ho) ⟨(p.h h).o (.a_ [])++tl,Zj (k,code),dW⟩
  refine⟨dW,h1,?_⟩
  have et:aA T0 (aa T0 af (n+68)) Cd Pq.scope (iD (a9 isW io en er w star u is)) ⟨h.o (.a_ []),Zk,cap⟩=ez Pq.scope Zk (.ok (.ret (.d (.str (cY k))),iD (a9 isW io en er w star u is)) ⟨(p.h h).o (.a_ [])++tl,Zj (k,code),dW⟩):=by
   rw[Ks];refine KO (c:=k) (i:=code) rfl (by kernel_rfl) ?_ rfl hh hb
   rw[Kb];exact g0 (Bj (Gf n h u is isW io en er star w cap _ h2 :))
  have Sw:ez Pq.scope Zk (.ok (.ret (.d (.str (cY k))),iD (a9 isW io en er w star u is)) ⟨(p.h h).o (.a_ [])++tl,Zj (k,code),dW⟩) = .ok (.ret (.d (.str (cY k))),x_ Pq.scope.names (iD (a9 isW io en er w star u is))) ⟨(p.h h).o (.a_ [])++tl,Zk,dW⟩:=by
   show ac (iP ((p.h h).o (.a_ [])++tl)) (ac (O1 (.d (.str (cY k)))) (ac (pB (x_ Pq.scope.names (iD (a9 isW io en er w star u is)))) (R.ok (Fl.ret (.d (.str (cY k))),x_ Pq.scope.names (iD (a9 isW io en er w star u is))) ⟨(p.h h).o (.a_ [])++tl,Zk,dW⟩) .no) .no) .no=_
   rw[sv _ _ (Dx (p.h h)) hx,show pB (x_ Pq.scope.names (iD (a9 isW io en er w star u is)))=Zm from by kernel_rfl]
   rfl
  refine(wH n h u is isW io en er star w cap _ (et.trans Sw) _ _ _ rfl).trans ?_
  exact ql (p.h h) tl dW _
end
end
section
open PySem
noncomputable def j':Fn:=aI 98
noncomputable def pU(st:SQ)(wd:Tq)(ct:List (SQ×SQ))(way u items d_:SQ):LE:=[(fz,.ref 30),(oZ,.ref 33),(jl,.ref 3),(bE,.d st),(pP,.d (.str wd)),(dZ,.d (.dict ct)),(wf,.d way),(jn,.d u),(i0,.d items),(vn,.d d_)]
noncomputable def KG(st:SQ):LE:=[(fz,.ref 30),(oZ,.ref 33),(jl,.ref 3),(bE,.d st)]
noncomputable def gl(g:Bool):List O:=ac g [.dict [(.str ay,.d (.int 5)),(.str aY,.d (.int 6))]] []
noncomputable def Hp.e(h:Hp):List O:=h.o (.a_ [])
noncomputable def hc(h:Hp)(c:n_):Hp:={ h with cells:=c.cells }
section
variable(n:Nat)(h:Hp)(c:n_)(cap:Nat)(u:SQ)(ct:List (SQ×SQ))(wd:Tq)(items:SQ)(way:SQ)
noncomputable def G3(wd:Tq)(ct:List (SQ×SQ))(way u items:SQ):SQ := .tuple [.str wd,.dict ct,way,u,items]
noncomputable def lz(c:n_)(l:OO):n_:={ c with d_:=l.z }
theorem JJ(w:Wy)(l:OO)(f:Tq)(hf:cC w l=Zj f):(aa T0 af (n+65)).ex j'.body j'.scope (KG (G3 wd ct (.int w.z) u items)) ⟨(hc h (lz c l)).e,Zk,cap⟩
  = (aa T0 af (n+62)).ex (j'.body.drop 3) j'.scope (pU (G3 wd ct (.int w.z) u items) wd ct (.int w.z) u items (.int l.z)) ⟨(hc h (lz c l)).e,Zk,cap⟩:=by
 cases w
 case w2=>cases l<;>first|(cases hf;kernel_rfl)|cases hf
 case w3=>cases l<;>first|(cases hf;kernel_rfl)|cases hf
 all_goals kernel_rfl
theorem DZ(w:Wy)(l:OO)(hf:cC w l=Zk):(aa T0 af (n+66)).cl (.val (.ref 799)) [.ref 30,.ref 33,.ref 3,.d (G3 wd ct (.int w.z) u items)] ⟨(hc h (lz c l)).e,Zk,cap⟩ = .ok (.d (.list [.str yV])) ⟨(hc h (lz c l)).e,Zk,cap⟩:=by
 cases w
 case w2=>cases l<;>first|(cases hf;kernel_rfl)|cases hf
 case w3=>cases l<;>first|(cases hf;kernel_rfl)|cases hf
 all_goals cases hf
theorem KB(isW star:Bool)(d_ st:SQ):(aa T0 af (n+62)).ex (j'.body.drop 3) j'.scope (pU st (jh isW) ct way (cN star isW) items d_) ⟨(hc h c).e,Zk,cap⟩
  = (aa T0 af (n+61)).ex (j'.body.drop 4) j'.scope (pU st (jh isW) ct way (cN star isW) items d_) ⟨(hc h c).e++gl (!star),Zk,cap⟩:=by
 (apply Cn isW star;kernel_rfl)
noncomputable def gd(isEnd io en er:Bool):SQ:=ag (cP isEnd io en er) (.str (ac isEnd FJ KU)) λw => .int w
theorem Dv(isW six io en er:Bool)(d_ st:SQ):((aa T0 af (n+62)).ex (j'.body.drop 3) j'.scope (pU st (jh isW) (b7 io en er) way (Em isW six) items d_) ⟨(hc h c).e,Zk,cap⟩).bind (λp s=>br 34 p s)
  = .ok (.d (.list [gd Zn io en er])) ⟨(hc h (c.st io 11)).e,Zk,cap⟩:=by
 (apply Ni isW six io en er;kernel_rfl)
end
end
section
open PySem
theorem r0{x:SQ}{xs:List SQ}(h:qp (.list (x::xs))=Zm):D8 (.list (x::xs)) (.list [])=Zj Zn:=by
 show qP (.list (x::xs)) (.list [])=Zj Zn
 unfold qP;rw[h,show qp (.list [])=Zm from by decide]
 rfl
noncomputable def IT:T9:=ai j'.body 5
noncomputable def sZ:T9:=ai (az IT) 0
noncomputable def Mr:T9:=ai (az IT) 1
theorem LW:j'.body.drop 4=ai j'.body 4::IT::j'.body.drop 6:=by kernel_rfl
theorem Oq:IT = .If (ae IT) [sZ,Mr] [] (bQ IT):=by kernel_rfl
theorem Mf:sZ = .If (ae sZ) (az sZ) [] (bQ sZ):=by kernel_rfl
noncomputable def gp(d_:SQ):List SQ:=[.str fj,.str HB,(mu bw d_).getD .none,(mu bw d_).getD .none,.str KI,.str LI]
noncomputable def pg(g:Bool)(k:Nat):Nat:=ac g (k+1) k
section
variable(n:Nat)(h:Hp)(c:n_)(cap:Nat)(u:SQ)(ct:List (SQ×SQ))(wd:Tq)(items:SQ)(way st:SQ)
theorem Cj(g io en er:Bool)(w:Wy)(l:OO)(f:Tq)(hf:cC w l=Zj f):((aa T0 af (n+61)).ex (j'.body.drop 4) j'.scope (pU st ay (b7 io en er) (.int w.z) u items (.int l.z)) ⟨(hc { h with OG:=[] } c).e++gl g,Zk,cap+1⟩).bind (λp s=>br 34 p s)
  = .ok (.d (.list [gd Zm io en er])) ⟨(hc { h with OG:=[],m_:=h.m_++[.str f] } (c.st io (-1))).e,Zk,cap⟩:=by
 cases w
 case w2=>cases l<;>first|(cases hf;(apply km g io en er;kernel_rfl))|cases hf
 case w3=>cases l<;>first|(cases hf;(apply km g io en er;kernel_rfl))|cases hf
 all_goals (cases hf;(apply km g io en er;kernel_rfl))
theorem CV(g:Bool)(d_:SQ)(rec:List Ent)(PT:rec.length<=4)(post:List SQ)(hok:qp (.list (Uz (rec.map Ent.d)::post))=Zm) :
  (aa T0 af (n+61)).ex (j'.body.drop 4) j'.scope (pU st ay ct way u items d_) ⟨(hc { h with OG:=Uz (rec.map Ent.d)::post } c).e++gl g,Zk,cap⟩
   = (aa T0 af (n+59)).ex (j'.body.drop 6) j'.scope (pU st ay ct way u items d_++[(aP,.ref (pg g 35))]) ⟨(hc { h with OG:=post } c).e++gl g++[.a_ [],.a_ (rec.map Ent.d)],Zk,cap⟩:=by
 refine b_ LW ?_
 refine(aC (le':=pU st ay ct way u items d_++[(aP,.d .none)]) (σ':=⟨(hc { h with OG:=Uz (rec.map Ent.d)::post } c).e++gl g,Zk,cap⟩) (by kernel_rfl)).trans ?_
 refine aC ?_
 refine b_ Oq ?_
 refine(vB (σ':=⟨(hc { h with OG:=Uz (rec.map Ent.d)::post } c).e++gl g,Zk,cap⟩) (by kernel_rfl)).trans ?_
 have te:(aa T0 af (n+58)).te (ae sZ) j'.scope (pU st ay ct way u items d_++[(aP,.d .none)]) ⟨(hc { h with OG:=Uz (rec.map Ent.d)::post } c).e++gl g,Zk,cap⟩ = .ok Zn ⟨(hc { h with OG:=Uz (rec.map Ent.d)::post } c).e++gl g++[.a_ []],Zk,cap⟩:=by
  have e:(aa T0 af (n+58)).te (ae sZ) j'.scope (pU st ay ct way u items d_++[(aP,.d .none)]) ⟨(hc { h with OG:=Uz (rec.map Ent.d)::post } c).e++gl g,Zk,cap⟩=o7 (D8 (.list (Uz (rec.map Ent.d)::post)) (.list [])) ⟨(hc { h with OG:=Uz (rec.map Ent.d)::post } c).e++gl g++[.a_ []],Zk,cap⟩:=by
   (apply bt g;kernel_rfl)
  (refine b_ e ?_;refine b_ (r0 hok) ?_);rfl
 refine(aC (le':=pU st ay ct way u items d_++[(aP,.d .none)]) (σ':=⟨(hc { h with OG:=Uz (rec.map Ent.d)::post } c).e++gl g++[.a_ []],Zk,cap⟩) ?_).trans ?_
 ·(refine b_ Mf ?_)
  exact(jU te).trans (by kernel_rfl)
 ·apply F7 rec (Uy PT)<;>intros<;>(apply bt g;kernel_rfl)
theorem Hm(g:Bool)(d_:SQ):(aa T0 af (n+61)).ex (j'.body.drop 4) j'.scope (pU st aY ct way u items d_) ⟨(hc h c).e++gl g,Zk,cap⟩
   = (aa T0 af (n+59)).ex (j'.body.drop 6) j'.scope (pU st aY ct way u items d_++[(aP,.d .none)]) ⟨(hc h c).e++gl g,Zk,cap⟩:=by
 (apply bt g;kernel_rfl)
noncomputable def qD(st:SQ)(ct:List (SQ×SQ))(way u items d_:SQ)(g:Bool):LE:=pU st ay ct way u items d_++[(aP,.ref (pg g 35)),(t6,.ref (pg g 37)),(EV,.ref (pg g 38))]
noncomputable def xY(st:SQ)(ct:List (SQ×SQ))(way u items d_:SQ)(g:Bool):LE:=pU st aY ct way u items d_++[(aP,.d .none),(t6,.ref (pg g 35)),(EV,.ref (pg g 36))]
noncomputable def OP(h:Hp)(c:n_)(g:Bool)(rec f_ ways:List SQ)(cap:Nat):VS:=⟨(hc h c).e++(gl g++[.a_ [],.a_ rec,.a_ f_,.a_ ways,.a_ []]),Zk,cap⟩
noncomputable def Pr(h:Hp)(c:n_)(g:Bool)(f_ ways out:List SQ)(cap:Nat):VS:=⟨(hc h c).e++(gl g++[.a_ f_,.a_ ways,.a_ out]),Zk,cap⟩
theorem GU(g:Bool)(rec:List SQ)(w:Wy)(l:OO)(f:Tq)(hf:cC w l=Zj f):(aa T0 af (n+59)).ex (j'.body.drop 6) j'.scope (pU st ay ct (.int w.z) u items (.int l.z)++[(aP,.ref (pg g 35))]) ⟨(hc h c).e++gl g++[.a_ [],.a_ rec],Zk,cap+1⟩
   = (aa T0 af (n+56)).ex (j'.body.drop 9) j'.scope (qD st ct (.int w.z) u items (.int l.z) g) (OP { h with m_:=h.m_++[.str f] } c g rec (gp (.int l.z)) [m1] cap):=by
 cases w
 case w2=>cases l<;>first|(cases hf;(apply bt g;kernel_rfl))|cases hf
 case w3=>cases l<;>first|(cases hf;(apply bt g;kernel_rfl))|cases hf
 all_goals (cases hf;(apply bt g;kernel_rfl))
theorem H4(g:Bool)(w:Wy)(l:OO)(f:Tq)(hf:cC w l=Zj f):(aa T0 af (n+59)).ex (j'.body.drop 6) j'.scope (pU st aY ct (.int w.z) u items (.int l.z)++[(aP,.d .none)]) ⟨(hc h c).e++gl g,Zk,cap+1⟩
   = (aa T0 af (n+56)).ex (j'.body.drop 9) j'.scope (xY st ct (.int w.z) u items (.int l.z) g) (Pr { h with m_:=h.m_++[.str f] } c g (gp (.int l.z)) [m1] [] cap):=by
 cases w
 case w2=>cases l<;>first|(cases hf;(apply bt g;kernel_rfl))|cases hf
 case w3=>cases l<;>first|(cases hf;(apply bt g;kernel_rfl))|cases hf
 all_goals (cases hf;(apply bt g;kernel_rfl))
end
end
section
open PySem
noncomputable def ln(e:Expr):Vw:=ax e
section
variable{T:Tab}{Sp:eR}{n:Nat}{sc:Tz}{le le':LE}{σ σ':VS}
theorem J0{e0 e1:Expr}{p:Vw}(h:(aa T Sp n).te e0 sc le σ = .ok Zn σ'):(aa T Sp (n+2)).te (.BoolOp .Or [e0,e1] p) sc le σ=(aa T Sp n).ts .Or [e1] sc le σ':=by
 show R.bind ((aa T Sp n).te e0 sc le σ) _=_
 (refine b_ h ?_);rfl
theorem wn{t:Expr}{b:List T9}{i m k:Nat}{xs:List SQ}{x:SQ}{K_:LE}{σ₁:VS}{r:R (Fl×LE)}(hg:σ.get i=Zj (.a_ xs))(hx:σ.x=Zk)(hn:f9 xs k=Zj x)(ha:assign T (aa T Sp n) t sc le (.d x) σ = .ok K_ σ₁)
  (h:(aa T Sp n).ex b sc K_ σ₁=r):fh T (aa T Sp n) t b sc i (m+1) k le σ=aT sc (len σ.o) (fh T (aa T Sp n) t b sc i m (k+1)) r:=by
 show ag (ag (σ.get i) Zk Lo) _ _=_
 refine b_ hg ?_
 show calm σ (ag (f9 xs k) _ _)=_
 unfold calm;refine b_ hx ?_;refine b_ hn ?_
 show R.bind (assign T (aa T Sp n) t sc le (.d x) σ) _=_
 refine b_ ha ?_
 show aT sc (len σ.o) _ ((aa T Sp n).ex b sc K_ σ₁)=_
 refine b_ h ?_
 rfl
theorem Hj{t:Expr}{b:List T9}{i m k:Nat}{xs:List SQ}(hg:σ.get i=Zj (.a_ xs))(hx:σ.x=Zk)(hn:f9 xs k=Zk):fh T (aa T Sp n) t b sc i (m+1) k le σ = .ok (.next,le) σ:=by
 show ag (ag (σ.get i) Zk Lo) _ _=_
 refine b_ hg ?_
 show calm σ (ag (f9 xs k) _ _)=_
 unfold calm;refine b_ hx ?_;refine b_ hn ?_
 rfl
theorem H9{t i:Expr}{b:List T9}{p:Vw}{j:Nat}(h:(aa T Sp n).ev i sc le σ = .ok (.ref j) σ'):aA T (aa T Sp n) (.For t i b [] p) sc le σ=fh T (aa T Sp n) t b sc j 1000 0 le σ':=by
 show R.bind ((aa T Sp n).ev i sc le σ) _=_
 (refine b_ h ?_);rfl
end
end
section
open PySem
theorem Jd(rec:List Ent)(h:rec.length<=4):qp (.list (rec.map Ent.d))=Zm:=by
 apply F7 rec (Uy h)
 ·kernel_rfl
 ·intro a;cases a<;>kernel_rfl
 ·intro a b;cases a<;>cases b<;>kernel_rfl
 ·intro a b c;cases a<;>cases b<;>cases c<;>kernel_rfl
 ·intro a b c d;cases a<;>cases b<;>cases c<;>cases d<;>kernel_rfl
noncomputable def cf:T9:=ai j'.body 9
noncomputable def Nf:T9:=ai (az cf) 0
noncomputable def sy:T9:=ai (az cf) 1
noncomputable def Mw:T9:=ai (az cf) 2
noncomputable def HM:T9:=ai (az sy) 0
noncomputable def jH:T9:=ai (uH HM) 0
noncomputable def HY:T9:=ai (uH jH) 0
noncomputable def J2:T9:=ai (az jH) 0
noncomputable def Le:Expr:=bl (aN (ae jH)) 0
noncomputable def Lv:Expr:=bl (aN (ae jH)) 1
theorem Lu:az cf=[Nf,sy,Mw]:=by kernel_rfl
theorem LX:sy = .For (aq sy) (ae sy) (az sy) [] (bQ sy):=by kernel_rfl
theorem FY:az sy=[HM]:=by kernel_rfl
theorem JV:HM = .If (ae HM) (az HM) [jH] (bQ HM):=by kernel_rfl
theorem E6:jH = .If (.BoolOp .Or [Le,Lv] (ln (ae jH))) [J2] [HY] (bQ jH):=by kernel_rfl
noncomputable def eI(k4 wh:Bool):List SQ:=ac k4 (ac wh [.int 3,.int 4] [.int 3]) (ac wh [.int 0,.int 1,.int 2] [.int 0])
noncomputable def dA(n:Nat)(l:List V)(le:LE)(σ:VS):R (Fl×LE):=aK T0 (aa T0 af (n+55)) (aq cf) (az cf) j'.scope l le σ
noncomputable def G5(a b c:SQ):LE:=[(eC,.d a),(hJ,.d b),(kX,.d c)]
section
variable(n:Nat)(h:Hp)(c:n_)(cap:Nat)(u:SQ)(ct:List (SQ×SQ))(items:SQ)(way st d_:SQ)(f_ ways os:List SQ)(x:Int)(l:List V)(a1 a2 a3 a4:SQ)
noncomputable def IL(k4 wh:Bool):SQ:=ac k4 (ac wh (.int 4) (.int 3)) (ac wh (.int 2) (.int 0))
noncomputable def C6(k4 wh:Bool):Nat:=ac wh (ac k4 3 4) 2
noncomputable def BO(c:n_)(os:List SQ)(k4 wh:Bool)(x:Int):List SQ:=match k4,wh with
 | false,Zn=>os++[.tuple [.int 0,uI Zn x]]
 | false,Zm=>os++[.tuple [.int 0,.int c.c0]]++[.tuple [.int 0,.int c.c1]]++[.tuple [.int 0,.int c.c2]]
 | true,Zn=>os++[.tuple [.int 4,uI Zm x]]
 | true,Zm=>os++[.tuple [.int 4,.bool c.b3]]++[.tuple [.int 4,.bool c.b4]]
theorem zb(k4 wh:Bool):BO c os k4 wh x=os++ju c ⟨k4,wh,x⟩:=by
 cases k4<;>cases wh<;>simp [BO,ju]
theorem JO(i_ g k4 wh:Bool):dA n (.d (mP k4 wh x)::l) (xY st ct way u items d_ g++ac i_ [] (G5 a1 a2 a3++[(cu,.d a4)])) (Pr h c g f_ ways os (cap+C6 k4 wh))
  = dA n l (xY st ct way u items d_ g++(G5 (kd k4) (.bool wh) (.int x)++[(cu,.d (IL k4 wh))])) (Pr h c g f_ (ways++[m1]) (BO c os k4 wh x) cap):=by
 (apply km k4 wh i_ g;kernel_rfl)
noncomputable def xg(n:Nat)(g:Bool)(m k:Nat)(le:LE)(σ:VS):R (Fl×LE):=fh T0 (aa T0 af (n+53)) (aq sy) (az sy) j'.scope (pg g 39) m k le σ
noncomputable def u_(h:Hp)(c:n_)(g:Bool)(rec f_ ways sp:List SQ)(tl:List O)(cap:Nat):VS:=⟨(hc h c).e++(gl g ++ .a_ [] :: .a_ rec :: .a_ f_ :: .a_ ways :: .a_ [] :: .a_ sp::tl),Zk,cap⟩
inductive Sh where
 | a0|a1|b
noncomputable def tS{α:Type}(f:Sh->α):α×α×α:=(f .a0,f .a1,f .b)
noncomputable def tT{α:Type}(f:Sh->α):α×α×α:=(f .a0,f .a1,f .b)
theorem sq{α:Type}{f g:Sh->α}(s:Sh)(h:tS f=tT g):f s=g s:=by
 cases s with
 | a0=>exact congrArg Prod.fst h
 | a1=>exact congrArg (λp=>p.2.1) h
 | b=>exact congrArg (λp=>p.2.2) h
theorem xX{α:Type}{f g:Sh->Bool->α}(s:Sh)(b:Bool)(h:tS (λs=>tA (f s))=tT λs=>tB (g s)):f s b=g s b:=bt b (sq (f:=λs=>tA (f s)) (g:=λs=>tB (g s)) s h)
theorem Mh{α:Type}{f g:Sh->Bool->Bool->Bool->Bool->α}(s:Sh)(a b c d:Bool)(h:tS (λs=>tA λa=>tA λb=>tA λc=>tA (f s a b c))=tT λs=>tB λa=>tB λb=>tB λc=>tB (g s a b c)):f s a b c d=g s a b c d:=
 km a b c d (sq (f:=λs=>tA λa=>tA λb=>tA λc=>tA (f s a b c)) (g:=λs=>tB λa=>tB λb=>tB λc=>tB (g s a b c)) s h)
noncomputable def Sh.nx:Sh->Sh
 | .a0 => .a1
 | .a1 => .a1
 | .b => .b
noncomputable def Ob(sh:Sh)(g:Bool)(kdv wh xv OD:SQ):LE:=G5 kdv wh xv++match sh with
 | .a0=>[(om,.ref (pg g 39))]
 | .a1=>[(om,.ref (pg g 39)),(cu,.d OD)]
 | .b=>[(cu,.d OD),(om,.ref (pg g 39))]
noncomputable def qb(k4 wh:Bool):Nat:=ac wh (ac k4 2 3) 1
noncomputable def b9(k4:Bool)(k:Nat):Nat:=ac k4 (k+3) k
noncomputable def dB(st:SQ)(ct:List (SQ×SQ))(way u items d_:SQ)(g:Bool)(sh:Sh)(k4 wh:Bool)(x:Int)(OD:SQ):LE:=qD st ct way u items d_ g++Ob sh g (kd k4) (.bool wh) (.int x) OD
theorem BC{P:Bool->Bool->Nat->Prop}{k4 wh:Bool}{k:Nat}(hk:k < qb k4 wh)(a1:P Zn Zn 0)(a2:P Zn Zm 0)(a3:P Zn Zm 1)(a4:P Zn Zm 2)(a5:P Zm Zn 0)(a6:P Zm Zm 0)(a7:P Zm Zm 1):P k4 wh k:=by
 cases k4 with
 | false=>
  cases wh with
  | false=>exact B7 a1 L1 k hk
  | true=>exact sB k hk a2 a3 a4
 | true=>
  cases wh with
  | false=>exact B7 a5 L1 k hk
  | true=>exact ME k hk a6 a7
theorem y7(g:Bool)(sh:Sh)(k4 wh:Bool)(k:Nat)(hk:k < qb k4 wh)(OD:SQ)(rec:List SQ):assign T0 (aa T0 af (n+53)) (aq sy) j'.scope (dB st ct way u items d_ g sh k4 wh x OD) (.d (.int (b9 k4 k:Nat))) (u_ h c g rec f_ ways (eI k4 wh) [] cap)
  = .ok (dB st ct way u items d_ g sh.nx k4 wh x (.int (b9 k4 k:Nat))) (u_ h c g rec f_ ways (eI k4 wh) [] cap):=by
 (apply xX sh g;kernel_rfl)
theorem B5(k4 wh:Bool)(k:Nat)(hk:k < qb k4 wh):f9 (eI k4 wh) k=Zj (.int (b9 k4 k:Nat)):=BC (P:=λk4 wh k=>f9 (eI k4 wh) k=Zj (.int (b9 k4 k:Nat))) hk rfl rfl rfl rfl rfl rfl rfl
theorem uC(g:Bool)(rec sp:List SQ)(tl:List O):(u_ h c g rec f_ ways sp tl cap).get (pg g 39)=Zj (.a_ sp):=by(apply bt g;kernel_rfl)
theorem FQ(g:Bool)(sh:Sh)(k4 wh:Bool)(OD:SQ)(rec sp:List SQ):(aa T0 af (n+52)).te (ae HM) j'.scope (dB st ct way u items d_ g sh k4 wh x OD) (u_ h c g rec f_ ways sp [] cap) = .ok Zn (u_ h c g rec f_ ways sp [] cap):=by
 (apply xX sh g;kernel_rfl)
theorem Ap(g:Bool)(sh:Sh)(k4 wh:Bool)(OD:SQ)(e:SQ)(rest sp:List SQ)(hok:qp (.list (e::rest))=Zm):(aa T0 af (n+49)).te Le j'.scope (dB st ct way u items d_ g sh k4 wh x OD) (u_ h c g (e::rest) f_ ways sp [] cap) = .ok Zn (u_ h c g (e::rest) f_ ways sp [.a_ []] cap):=by
 have e1:(aa T0 af (n+49)).te Le j'.scope (dB st ct way u items d_ g sh k4 wh x OD) (u_ h c g (e::rest) f_ ways sp [] cap)=o7 (D8 (.list (e::rest)) (.list [])) (u_ h c g (e::rest) f_ ways sp [.a_ []] cap):=by
  (apply xX sh g;kernel_rfl)
 (refine b_ e1 ?_;refine b_ (r0 hok) ?_);rfl
noncomputable def pV(k4:Bool):Ent->Bool
 | .i _=>k4
 | .b _ => !k4
theorem zi(g:Bool)(sh:Sh)(k4 wh:Bool)(OD:SQ)(e:Ent)(rest sp:List SQ):(aa T0 af (n+49)).ts .Or [Lv] j'.scope (dB st ct way u items d_ g sh k4 wh x OD) (u_ h c g (e.d::rest) f_ ways sp [.a_ []] cap) = .ok (pV k4 e) (u_ h c g (e.d::rest) f_ ways sp [.a_ []] cap):=by
 cases sh<;>cases e<;>(apply Cn g k4;kernel_rfl)
theorem G6(g:Bool)(sh:Sh)(k4 wh:Bool)(k:Nat)(hk:k < qb k4 wh)(e:Ent):pV k4 e=Zn->∀ rest:List SQ,(aa T0 af (n+51)).ex [HY] j'.scope (dB st ct way u items d_ g sh.nx k4 wh x (.int (b9 k4 k:Nat))) (u_ h c g (e.d::rest) f_ ways (eI k4 wh) [.a_ []] cap) = .ok (.next,dB st ct way u items d_ g sh.nx k4 wh x (.int (b9 k4 k:Nat))) (u_ h (c.put (b9 k4 k) e) g rest f_ ways (eI k4 wh) [.a_ []] cap):=by
 refine BC (P:=λk4 wh k=>pV k4 e=Zn->∀ rest:List SQ,(aa T0 af (n+51)).ex [HY] j'.scope (dB st ct way u items d_ g sh.nx k4 wh x (.int (b9 k4 k:Nat))) (u_ h c g (e.d::rest) f_ ways (eI k4 wh) [.a_ []] cap) = .ok (.next,dB st ct way u items d_ g sh.nx k4 wh x (.int (b9 k4 k:Nat))) (u_ h (c.put (b9 k4 k) e) g rest f_ ways (eI k4 wh) [.a_ []] cap)) hk ?_ ?_ ?_ ?_ ?_ ?_ ?_<;>intro he rest<;>cases e<;>first|exact Ti he|(apply xX sh g;kernel_rfl)
theorem Ji(g:Bool)(sh:Sh)(k4 wh:Bool)(k m:Nat)(hk:k < qb k4 wh)(OD:SQ)(e:Ent)(he:pV k4 e=Zn)(rest:List SQ)(hok:qp (.list (e.d::rest))=Zm) :
  xg n g (m+1) k (dB st ct way u items d_ g sh k4 wh x OD) (u_ h c g (e.d::rest) f_ ways (eI k4 wh) [] cap)
   = xg n g m (k+1) (dB st ct way u items d_ g sh.nx k4 wh x (.int (b9 k4 k:Nat))) (u_ h (c.put (b9 k4 k) e) g rest f_ ways (eI k4 wh) [] cap):=by
 have tt:=(J0 (p:=ln (ae jH)) (Ap n h c cap u ct items way st d_ f_ ways x g sh.nx k4 wh (.int (b9 k4 k:Nat)) e.d rest (eI k4 wh) hok)).trans (zi n h c cap u ct items way st d_ f_ ways x g sh.nx k4 wh (.int (b9 k4 k:Nat)) e rest (eI k4 wh))
 rw[he]at tt;have e2:aA T0 (aa T0 af (n+51)) jH j'.scope (dB st ct way u items d_ g sh.nx k4 wh x (.int (b9 k4 k:Nat))) (u_ h c g (e.d::rest) f_ ways (eI k4 wh) [] cap) = .ok (.next,dB st ct way u items d_ g sh.nx k4 wh x (.int (b9 k4 k:Nat))) (u_ h (c.put (b9 k4 k) e) g rest f_ ways (eI k4 wh) [.a_ []] cap):=by
  refine b_ E6 ?_
  exact(jU tt).trans (G6 n h c cap u ct items way st d_ f_ ways x g sh k4 wh k hk e he rest :)
 have e1:(aa T0 af (n+53)).ex (az sy) j'.scope (dB st ct way u items d_ g sh.nx k4 wh x (.int (b9 k4 k:Nat))) (u_ h c g (e.d::rest) f_ ways (eI k4 wh) [] cap) = .ok (.next,dB st ct way u items d_ g sh.nx k4 wh x (.int (b9 k4 k:Nat))) (u_ h (c.put (b9 k4 k) e) g rest f_ ways (eI k4 wh) [.a_ []] cap):=by
  refine b_ FY ?_
  refine(aC ?_).trans iU
  refine b_ JV ?_
  refine(jU (FQ n h c cap u ct items way st d_ f_ ways x g sh.nx k4 wh _ _ _)).trans ?_
  exact(aC e2).trans iU
 refine(wn (m:=m) (uC h c cap f_ ways g (e.d::rest) (eI k4 wh) []) rfl (B5 k4 wh k hk) (y7 n h c cap u ct items way st d_ f_ ways x g sh k4 wh k hk OD (e.d::rest)) e1 :).trans ?_
 (apply xX sh g;kernel_rfl)
theorem EW(io en er g:Bool)(sh:Sh)(k4 wh:Bool)(k m:Nat)(hk:k < qb k4 wh)(OD:SQ)(rec:List SQ)
  (tt:(aa T0 af (n+51)).te (.BoolOp .Or [Le,Lv] (ln (ae jH))) j'.scope (dB st (b7 io en er) way u items d_ g sh.nx k4 wh x (.int (b9 k4 k:Nat))) (u_ h c g rec f_ ways (eI k4 wh) [] (cap+1)) = .ok Zm (u_ h c g rec f_ ways (eI k4 wh) [.a_ []] (cap+1))) :
  xg n g (m+1) k (dB st (b7 io en er) way u items d_ g sh k4 wh x OD) (u_ h c g rec f_ ways (eI k4 wh) [] (cap+1))
   = .ok (.ret (.ref (pg g 42)),dB st (b7 io en er) way u items d_ g sh.nx k4 wh x (.int (b9 k4 k:Nat))) (u_ h (c.st io 7) g rec f_ ways (eI k4 wh) [.a_ [],.a_ [gd Zn io en er],.a_ (ways++[gd Zn io en er])] cap):=by
 have ret:(aa T0 af (n+51)).ex [J2] j'.scope (dB st (b7 io en er) way u items d_ g sh.nx k4 wh x (.int (b9 k4 k:Nat))) (u_ h c g rec f_ ways (eI k4 wh) [.a_ []] (cap+1)) = .ok (.ret (.ref (pg g 42)),dB st (b7 io en er) way u items d_ g sh.nx k4 wh x (.int (b9 k4 k:Nat))) (u_ h (c.st io 7) g rec f_ ways (eI k4 wh) [.a_ [],.a_ [gd Zn io en er],.a_ (ways++[gd Zn io en er])] cap):=by
  (apply Mh sh io en er g;kernel_rfl)
 have e2:aA T0 (aa T0 af (n+51)) jH j'.scope (dB st (b7 io en er) way u items d_ g sh.nx k4 wh x (.int (b9 k4 k:Nat))) (u_ h c g rec f_ ways (eI k4 wh) [] (cap+1)) = .ok (.ret (.ref (pg g 42)),dB st (b7 io en er) way u items d_ g sh.nx k4 wh x (.int (b9 k4 k:Nat))) (u_ h (c.st io 7) g rec f_ ways (eI k4 wh) [.a_ [],.a_ [gd Zn io en er],.a_ (ways++[gd Zn io en er])] cap):=by
  refine b_ E6 ?_
  exact(vB tt).trans ret
 have e1:(aa T0 af (n+53)).ex (az sy) j'.scope (dB st (b7 io en er) way u items d_ g sh.nx k4 wh x (.int (b9 k4 k:Nat))) (u_ h c g rec f_ ways (eI k4 wh) [] (cap+1)) = .ok (.ret (.ref (pg g 42)),dB st (b7 io en er) way u items d_ g sh.nx k4 wh x (.int (b9 k4 k:Nat))) (u_ h (c.st io 7) g rec f_ ways (eI k4 wh) [.a_ [],.a_ [gd Zn io en er],.a_ (ways++[gd Zn io en er])] cap):=by
  refine b_ FY ?_
  refine gh ?_
  refine b_ JV ?_
  refine(jU (FQ n h c (cap+1) u (b7 io en er) items way st d_ f_ ways x g sh.nx k4 wh _ _ _)).trans ?_
  exact gh e2
 exact(wn (m:=m) (uC h c (cap+1) f_ ways g rec (eI k4 wh) []) rfl (B5 k4 wh k hk) (y7 n h c (cap+1) u (b7 io en er) items way st d_ f_ ways x g sh k4 wh k hk OD rec) e1 :)
end
end
section
open PySem
theorem Ct{k4 wh:Bool}{k:Nat}(hk:k < qb k4 wh):(bj k4 wh).drop k=b9 k4 k::(bj k4 wh).drop (k+1):=
 BC (P:=λk4 wh k=>(bj k4 wh).drop k=b9 k4 k::(bj k4 wh).drop (k+1)) hk rfl rfl rfl rfl rfl rfl rfl
theorem GY(k4 wh:Bool):(bj k4 wh).drop (qb k4 wh)=[]:=by cases k4<;>cases wh<;>rfl
theorem HX(k4 wh:Bool):f9 (eI k4 wh) (qb k4 wh)=Zk:=by cases k4<;>cases wh<;>rfl
theorem HV(k4 wh:Bool):0 < qb k4 wh:=by cases k4<;>cases wh<;>simp [qb,ac]
theorem k9{k4:Bool}{s:Nat}{ss:List Nat}{e:Ent}{r:List Ent}{c:n_}(h:pV k4 e=Zn):cj k4 (s::ss) (e::r) c=cj k4 ss r (c.put s e):=by
 cases k4<;>cases e<;>first|rfl|exact Ti (show Zm=Zn from h)
theorem lW{k4:Bool}{s:Nat}{ss:List Nat}{e:Ent}{r:List Ent}{c:n_}(h:pV k4 e=Zm):cj k4 (s::ss) (e::r) c=(Zn,e::r,c):=by
 cases k4<;>cases e<;>first|rfl|exact Ti (show Zn=Zm from h)
section
variable(n:Nat)(h:Hp)(cap:Nat)(u:SQ)(items:SQ)(way st d_:SQ)(f_ ways:List SQ)(x:Int)(l:List V)(a1 a2 a3 a4:SQ)
noncomputable def CA(io en er:Bool)(ways:List SQ):List O:=[.a_ [],.a_ [gd Zn io en er],.a_ (ways++[gd Zn io en er])]
def Nd(io en er g:Bool)(sh:Sh)(k4 wh:Bool)(z:Bool×List Ent×n_)(r:R (Fl×LE)):Prop:=match z with
 | (Zm,r',c')=>∃ OD,r = .ok (.next,dB st (b7 io en er) way u items d_ g sh.nx k4 wh x OD) (u_ h c' g (r'.map Ent.d) f_ ways (eI k4 wh) [] (cap+1))
 | (Zn,r',c')=>∃ le',r = .ok (.ret (.ref (pg g 42)),le') (u_ h (c'.st io 7) g (r'.map Ent.d) f_ ways (eI k4 wh) (CA io en er ways) cap)
theorem EN(sh:Sh):sh.nx.nx=sh.nx:=by cases sh<;>rfl
theorem Hl(io en er g k4 wh:Bool)(j:Nat):∀ (k m:Nat) (sh:Sh) (OD:SQ) (rec:List Ent) (c:n_),k+j=qb k4 wh->(0 < j\/sh.nx=sh)->rec.length<=4->
  Nd h cap u items way st d_ f_ ways x io en er g sh k4 wh (cj k4 ((bj k4 wh).drop k) rec c) (xg n g (m+j+1) k (dB st (b7 io en er) way u items d_ g sh k4 wh x OD) (u_ h c g (rec.map Ent.d) f_ ways (eI k4 wh) [] (cap+1))):=by
 induction j with
 | zero=>
  intro k m sh OD rec c hk hs hr
  obtain rfl:k=qb k4 wh:=hk
  have hs':sh.nx=sh:=hs.resolve_left (YD 0)
  rw[GY]
  refine⟨OD,?_⟩
  rw[hs'];exact Hj (uC h c (cap+1) f_ ways g (rec.map Ent.d) (eI k4 wh) []) rfl (HX k4 wh)
 | succ j ih=>
  intro k m sh OD rec c hk hs hr;have hk':k < qb k4 wh:=hk▸Nat.lt_add_of_pos_right (Y9 j)
  rw[Ct hk'];cases rec with
  | nil=>
   refine⟨_,EW n h c cap u items way st d_ f_ ways x io en er g sh k4 wh k (m+(j+1)) hk' OD [] ?_⟩
   (apply xX sh g;kernel_rfl)
  | cons e r=>
   have hok:qp (.list (e.d::r.map Ent.d))=Zm:=Jd (e::r) hr
   cases hm:pV k4 e with
   | true=>
    rw[lW hm];have tt:=(J0 (p:=ln (ae jH)) (Ap n h c (cap+1) u (b7 io en er) items way st d_ f_ ways x g sh.nx k4 wh (.int (b9 k4 k:Nat)) e.d (r.map Ent.d) (eI k4 wh) hok)).trans (zi n h c (cap+1) u (b7 io en er) items way st d_ f_ ways x g sh.nx k4 wh (.int (b9 k4 k:Nat)) e (r.map Ent.d) (eI k4 wh))
    rw[hm]at tt
    exact⟨_,EW n h c cap u items way st d_ f_ ways x io en er g sh k4 wh k (m+(j+1)) hk' OD (e.d::r.map Ent.d) tt⟩
   | false=>
    rw[k9 hm];have IH:=ih (k+1) m sh.nx (.int (b9 k4 k:Nat)) r (c.put (b9 k4 k) e) ((TY k 1 j).trans hk) (.inr (EN sh)) (Y7 hr)
    unfold Nd at IH ⊢;rw[EN]at IH;rw[show xg n g (m+(j+1)+1) k (dB st (b7 io en er) way u items d_ g sh k4 wh x OD) (u_ h c g ((e::r).map Ent.d) f_ ways (eI k4 wh) [] (cap+1))=_ from Ji n h c (cap+1) u (b7 io en er) items way st d_ f_ ways x g sh k4 wh k (m+(j+1)) hk' OD e hm (r.map Ent.d) hok]
    exact IH
noncomputable def jQ(st:SQ)(ct:List (SQ×SQ))(way u items d_:SQ)(g i_:Bool)(a1 a2 a3 a4:SQ):LE:=qD st ct way u items d_ g++ac i_ [] (G5 a1 a2 a3++[(cu,.d a4)])
def M2(io en er g:Bool)(k4 wh:Bool)(z:Bool×List Ent×n_)(r:R (Fl×LE)):Prop:=match z with
 | (Zm,r',c')=>∃ OD,r=dA n l (jQ st (b7 io en er) way u items d_ g Zn (kd k4) (.bool wh) (.int x) OD) (OP h c' g (r'.map Ent.d) f_ (ways++[m1]) (cap+1))
 | (Zn,r',c')=>∃ le',r = .ok (.ret (.ref (pg g 42)),le') (u_ h (c'.st io 7) g (r'.map Ent.d) f_ ways (eI k4 wh) (CA io en er ways) (cap+1))
noncomputable def F9(i_:Bool):Sh:=ac i_ .a0 .b
theorem IC(io en er g i_ k4 wh:Bool)(rec:List Ent)(c:n_)(hr:rec.length<=4) :
  M2 n h cap u items way st d_ f_ ways x l io en er g k4 wh (cj k4 (bj k4 wh) rec c) (dA n (.d (mP k4 wh x)::l) (jQ st (b7 io en er) way u items d_ g i_ a1 a2 a3 a4) (OP h c g (rec.map Ent.d) f_ ways (cap+2))):=by
 have ha:assign T0 (aa T0 af (n+55)) (aq cf) j'.scope (jQ st (b7 io en er) way u items d_ g i_ a1 a2 a3 a4) (.d (mP k4 wh x)) (OP h c g (rec.map Ent.d) f_ ways (cap+2)) = .ok (qD st (b7 io en er) way u items d_ g++(G5 (kd k4) (.bool wh) (.int x)++ac i_ [] [(cu,.d a4)])) (OP h c g (rec.map Ent.d) f_ ways (cap+2)):=by
  (apply Cn i_ g;kernel_rfl)
 have e1:aA T0 (aa T0 af (n+54)) Nf j'.scope (qD st (b7 io en er) way u items d_ g++(G5 (kd k4) (.bool wh) (.int x)++ac i_ [] [(cu,.d a4)])) (OP h c g (rec.map Ent.d) f_ ways (cap+2)) = .ok (.next,dB st (b7 io en er) way u items d_ g (F9 i_) k4 wh x a4) (u_ h c g (rec.map Ent.d) f_ ways (eI k4 wh) [] (cap+2)):=by
  (apply km i_ g k4 wh;kernel_rfl)
 have e2:aA T0 (aa T0 af (n+53)) sy j'.scope (dB st (b7 io en er) way u items d_ g (F9 i_) k4 wh x a4) (u_ h c g (rec.map Ent.d) f_ ways (eI k4 wh) [] (cap+2))=xg n g 1000 0 (dB st (b7 io en er) way u items d_ g (F9 i_) k4 wh x a4) (u_ h c g (rec.map Ent.d) f_ ways (eI k4 wh) [] (cap+2)):=by
  refine b_ LX ?_
  refine H9 ?_
  (apply Cn i_ g;kernel_rfl)
 have I:=Hl n h (cap+1) u items way st d_ f_ ways x io en er g k4 wh (qb k4 wh) 0 (999 - qb k4 wh) (F9 i_) a4 rec c (XR _) (.inl (HV k4 wh)) hr
 rw[show 999 - qb k4 wh+qb k4 wh+1=1000 by cases k4<;>cases wh<;>rfl,<- e2,Yk]at I
 have e3:∀ r,aA T0 (aa T0 af (n+53)) sy j'.scope (dB st (b7 io en er) way u items d_ g (F9 i_) k4 wh x a4) (u_ h c g (rec.map Ent.d) f_ ways (eI k4 wh) [] (cap+2))=r->
   ∀ r2,(aa T0 af (n+54)).ex [sy,Mw] j'.scope (dB st (b7 io en er) way u items d_ g (F9 i_) k4 wh x a4) (u_ h c g (rec.map Ent.d) f_ ways (eI k4 wh) [] (cap+2))=r2->
   dA n (.d (mP k4 wh x)::l) (jQ st (b7 io en er) way u items d_ g i_ a1 a2 a3 a4) (OP h c g (rec.map Ent.d) f_ ways (cap+2))=aT j'.scope (len (OP h c g (rec.map Ent.d) f_ ways (cap+2)).o) (dA n l) r2:=by
  intro r _ r2 h2;refine bG rfl ha ?_
  refine b_ Lu ?_
  exact(aC e1).trans h2
 cases hz:cj k4 (bj k4 wh) rec c with
 | mk b z=>
  obtain⟨r',c'⟩:=z;rw[hz]at I;cases b with
  | true=>
   obtain⟨OD,e4⟩:=I;have e5:(aa T0 af (n+53)).ex [Mw] j'.scope (dB st (b7 io en er) way u items d_ g (F9 i_).nx k4 wh x OD) (u_ h c' g (r'.map Ent.d) f_ ways (eI k4 wh) [] (cap+2)) = .ok (.next,dB st (b7 io en er) way u items d_ g (F9 i_).nx k4 wh x OD) (u_ h c' g (r'.map Ent.d) f_ (ways++[m1]) (eI k4 wh) [] (cap+1)):=by
    (apply km i_ g k4 wh;kernel_rfl)
   refine⟨OD,(e3 _ rfl _ ((aC e4).trans e5)).trans ?_⟩
   (apply km i_ g k4 wh;kernel_rfl)
  | false=>
   obtain⟨le',e4⟩:=I
   exact⟨le',e3 _ rfl _ (gh e4)⟩
def Nw(io en er g:Bool)(d:Nat)(z:Nat×Bool×n_)(r:R (Fl×LE)):Prop:=match z with
 | (j,Zm,c')=>X6 λ(rec':List SQ) (i_:Bool) (b1 b2 b3 b4:SQ)=>r = .ok (.next,jQ st (b7 io en er) way u items d_ g i_ b1 b2 b3 b4) (OP h c' g rec' f_ (wl (d+1+j)) (cap+1))
 | (j,Zn,c')=>X4 λ(le':LE) (rec' sp:List SQ) (dW:Nat)=>cap<=dW/\r = .ok (.ret (.ref (pg g 42)),le') (u_ h (c'.st io 7) g rec' f_ (wl (d+1+j)) sp (CA io en er (wl (d+1+j))) dW)
theorem kA(d:Nat):wl d++[m1]=wl (d+1):=by
 unfold wl;(exact b_ List.replicate_succ' rfl)
theorem xx(k4:Bool)(ss:List Nat):∀ (r r':List Ent) (c c':n_) (b:Bool),cj k4 ss r c=(b,r',c')->r'.length<=r.length:=by
 induction ss with
 | nil=>intro r r' c c' b e;cases e;exact UG _
 | cons s ss ih=>
  intro r r' c c' b e;cases r with
  | nil=>cases e;exact UG _
  | cons x r=>
   cases hm:pV k4 x with
   | true=>rw[lW hm]at e;cases e;exact UG _
   | false=>rw[k9 hm]at e;exact Te (ih r r' _ c' b e) (Xn _)
theorem uX(d j:Nat):d+1+(j+1)=d+1+1+j:=TY (d+1) j 1
theorem x7(io en er g:Bool)(is:List q_):∀ (rec:List Ent) (c:n_) (d:Nat) (i_:Bool) (a1 a2 a3 a4:SQ),rec.length<=4->
  Nw h cap u items way st d_ f_ io en er g d (reads is rec c) (dA n (its is) (jQ st (b7 io en er) way u items d_ g i_ a1 a2 a3 a4) (OP h c g (rec.map Ent.d) f_ (wl (d+1)) (cap+is.length+1))):=by
 induction is with
 | nil=>exact λrec c d i_ a1 a2 a3 a4 hr=>⟨_,i_,a1,a2,a3,a4,bM rfl⟩
 | cons i is ih=>
  intro rec c d i_ a1 a2 a3 a4 hr;obtain⟨k4,wh,x⟩:=i;have T:M2 n h (cap+is.length) u items way st d_ f_ (wl (d+1)) x (its is) io en er g k4 wh (cj k4 (bj k4 wh) rec c) (dA n (its (⟨k4,wh,x⟩::is)) (jQ st (b7 io en er) way u items d_ g i_ a1 a2 a3 a4) (OP h c g (rec.map Ent.d) f_ (wl (d+1)) (cap+(is.length+1)+1))):=
   IC n h (cap+is.length) u items way st d_ f_ (wl (d+1)) x (its is) a1 a2 a3 a4 io en er g i_ k4 wh rec c hr
  cases hz:cj k4 (bj k4 wh) rec c with
  | mk b z=>
   obtain⟨r',c'⟩:=z;rw[hz]at T;cases b with
   | true=>
    obtain⟨OD,e⟩:=T;have IH:=ih r' c' (d+1) Zn (kd k4) (.bool wh) (.int x) OD (Te (xx k4 _ _ _ _ _ _ hz) hr)
    rw[kA]at e;rw[jf (i:=⟨k4,wh,x⟩) hz,Ug,e]
    generalize reads is r' c'=q at IH
    obtain⟨j,b,c2⟩:=q;cases b with
    | true=>
     obtain⟨rec',le1,b1,b2,b3,b4,e2⟩:=IH
     exact⟨rec',le1,b1,b2,b3,b4,by rw[e2,<- uX d j]⟩
    | false=>
     obtain⟨le',rec',sp,dW,hc,e2⟩:=IH
     exact⟨le',rec',sp,dW,hc,by rw[e2,<- uX d j]⟩
   | false=>
    obtain⟨le',e⟩:=T;rw[iv (i:=⟨k4,wh,x⟩) hz]
    exact⟨le',_,_,_,Nat.le_succ_of_le (TX ..),e⟩
end
end
section
open PySem
def mD(k:Nat)(x:SQ):Prop:=x.canLay0=Zm/\x.depth<=k
theorem ph{k:Nat}:∀ {xs:List SQ},(∀ x∈xs,mD k x)->VK xs=Zm/\V4 xs<=k
 | [],_=>by simp [VK,V4]
 | x::xs,h=>by
  have h1:=h x (.head _)
  have h2:=ph λy hy=>h y (.tail _ hy)
  simp only[VK,V4,h1.1,h2.1,Yz,true_and]
  have a1:=h1.2
  have a2:=h2.2
  exact Nat.max_le_of_le_of_le a1 a2
theorem i7{k:Nat}{xs:List SQ}(h:∀ x∈xs,mD k x):mD (k+1) (.list xs):=by
 have q:=ph h
 have q2:=q.2
 refine⟨?_,?_⟩
 ·simpa only[Vi]using q.1
 ·simp only[V9];exact Wc q2 1
theorem B1{k:Nat}{x:SQ}(h:mD k x)(hk:k<=100):qp x=Zm:=by
 unfold qp;rw[h.1];exact WW.mpr (Te h.2 hk)
theorem CQ(e:Ent):mD 1 e.d:=by
 cases e<;>exact⟨by kernel_rfl,Tw (by kernel_rfl)⟩
theorem Ey(r:List Ent):mD 2 (fe r):=i7 λx hx=>by
 obtain⟨e,_,rfl⟩:=Xd.mp hx;exact CQ e
theorem yW(l:List (List Ent)):mD 3 (.list (am l)):=i7 λx hx=>by
 obtain⟨e,_,rfl⟩:=Xd.mp hx;exact Ey e
section
variable(n:Nat)(h:Hp)(cap:Nat)(u:SQ)(items:SQ)(way st d_:SQ)(f_ ways:List SQ)
noncomputable def BQ(st:SQ)(ct:List (SQ×SQ))(way u items d_:SQ)(g i_:Bool)(a1 a2 a3 a4:SQ):LE:=xY st ct way u items d_ g++ac i_ [] (G5 a1 a2 a3++[(cu,.d a4)])
theorem C4(k4 wh:Bool):C6 k4 wh<=4:=by cases k4<;>cases wh<;>decide
theorem JN{a b c:Nat}(h:a+(4 - c)<=b):a<=b:=Te (TX ..) h
theorem Jf{a c n:Nat}(h:c<=4):a+4*(n+1)=a+(4 - c)+4*n+c:=by
 rw[TY (a+(4 - c)),Xp a,Uq h,Xp,Zd 4]
 rfl
theorem z6(d n:Nat):d+1+(n+1)=d+1+1+n:=TY (d+1) n 1
theorem s8(ct:List (SQ×SQ))(g:Bool)(c:n_):∀ (is:List q_) (d cap:Nat) (os:List SQ) (i_:Bool) (a1 a2 a3 a4:SQ),
  X6 λ(le1:Bool) (b1 b2 b3 b4:SQ) (dW:Nat)=>cap<=dW/\dA n (its is) (BQ st ct way u items d_ g i_ a1 a2 a3 a4) (Pr h c g f_ (wl (d+1)) os (cap+4*is.length))
   = .ok (.next,BQ st ct way u items d_ g le1 b1 b2 b3 b4) (Pr h c g f_ (wl (d+1+is.length)) (os++cb c is) dW):=by
 intro is
 induction is with
 | nil=>
  intro d cap os i_ a1 a2 a3 a4
  refine⟨i_,a1,a2,a3,a4,cap,UG _,?_⟩
  rw[show os++cb c []=os from U8 os]
  exact bM rfl
 | cons i is ih=>
  obtain⟨k4,wh,x⟩:=i;intro d cap os i_ a1 a2 a3 a4;obtain⟨le1,b1,b2,b3,b4,dW,hc,IH⟩:=ih (d+1) (cap+(4 - C6 k4 wh)) (os++ju c ⟨k4,wh,x⟩) Zn (kd k4) (.bool wh) (.int x) (.int (match k4,wh with|false,Zn=>0|false,Zm=>2|true,Zn=>3|true,Zm=>4))
  refine⟨le1,b1,b2,b3,b4,dW,JN hc,?_⟩
  have e:=JO n h c (cap+(4 - C6 k4 wh)+4*is.length) u ct items way st d_ f_ (wl (d+1)) os x (its is) a1 a2 a3 a4 i_ g k4 wh
  rw[kA,zb]at e;rw[Ug,Jf (C4 k4 wh),z6,show os++cb c (⟨k4,wh,x⟩::is)=os++ju c ⟨k4,wh,x⟩++cb c is from(Vs _ _ _).symm]
  refine(show dA n (its (⟨k4,wh,x⟩::is)) _ _=_ from e).trans (Eq.trans ?_ IH)
  cases k4<;>cases wh<;>rfl
theorem Nb:j'.body.drop 9=cf::j'.body.drop 10:=by kernel_rfl
theorem F0:cf = .For (aq cf) (ae cf) (az cf) [] (bQ cf):=by kernel_rfl
theorem Ix(ct:List (SQ×SQ))(g i_:Bool)(a1 a2 a3 a4:SQ)(c:n_)(os:List SQ):((aa T0 af (n+55)).ex (j'.body.drop 10) j'.scope (BQ st ct way u items d_ g i_ a1 a2 a3 a4) (Pr h c g f_ ways os (cap+2))).bind (λp s=>br 34 p s)
  = .ok (.d (.list (ways++[m1]))) ⟨(hc { h with OW:=h.OW++[Uz os] } c).e,Zk,cap⟩:=by
 (apply Cn i_ g;kernel_rfl)
theorem He(ct:List (SQ×SQ))(g i_:Bool)(a1 a2 a3 a4:SQ)(c:n_)(rec:List SQ):((aa T0 af (n+55)).ex (j'.body.drop 10) j'.scope (jQ st ct way u items d_ g i_ a1 a2 a3 a4) (OP h c g rec f_ ways (cap+1))).bind (λp s=>br 34 p s)
  = .ok (.d (.list (ways++[m1]))) ⟨(hc h c).e,Zk,cap⟩:=by
 (apply Cn i_ g;kernel_rfl)
theorem Hd(g io en er:Bool)(c:n_)(rec sp:List SQ)(le:LE):br 34 (.ret (.ref (pg g 42)),le) (u_ h c g rec f_ ways sp (CA io en er ways) cap) = .ok (.d (.list (ways++[gd Zn io en er]))) ⟨(hc h c).e,Zk,cap⟩:=by
 (apply bt g;kernel_rfl)
theorem Ea(ct:List (SQ×SQ))(g:Bool)(c:n_)(is:List q_)(os:List SQ){r:R (Fl×LE)}(hr:dA n (its is) (xY st ct way u (.list (is.map q_.d)) d_ g) (Pr h c g f_ ways os cap)=r):aA T0 (aa T0 af (n+55)) cf j'.scope (xY st ct way u (.list (is.map q_.d)) d_ g) (Pr h c g f_ ways os cap)=r:=by
 rw[F0]
 refine(sa (xs:=is.map q_.d) (σ':=Pr h c g f_ ways os cap) ?_).trans hr
 (apply bt g;kernel_rfl)
theorem vT(ct:List (SQ×SQ))(g:Bool)(c:n_)(is:List q_)(rec:List SQ){r:R (Fl×LE)}(hr:dA n (its is) (qD st ct way u (.list (is.map q_.d)) d_ g) (OP h c g rec f_ ways cap)=r):aA T0 (aa T0 af (n+55)) cf j'.scope (qD st ct way u (.list (is.map q_.d)) d_ g) (OP h c g rec f_ ways cap)=r:=by
 rw[F0]
 refine(sa (xs:=is.map q_.d) (σ':=OP h c g rec f_ ways cap) ?_).trans hr
 (apply bt g;kernel_rfl)
end
def Dz(i:Int):Prop:=i = -1\/i=0\/i=1\/i=2
def GX(m:Nat)(h:Hp)(p:OC)(recs:List (List Ent))(r:R V):Prop:=X3 λ(j:Nat) (last:SQ) (cap:Nat)=>A4 (j<=4) (m<=cap) (r = .ok (.d (.list (wl j++[last]))) ⟨(hc { h with OG:=am (recs.drop p.B'),m_:=p.seen,OW:=p.t_ } p.c).e,Zk,cap⟩) (match p.out with
 | .ok v=>v = .list (wl j++[last])/\∃ i,last = .int i/\Dz i
 | .exc k _=>last = .str (cY k))
noncomputable def sQ(n:Nat)(isW io en er:Bool)(w:Wy)(star:Bool)(u:Int)(is:List q_)(σ:VS):R V:=(aa T0 af (n+66)).cl (.val (.ref 799)) [.ref 30,.ref 33,.ref 3,.d (a9 isW io en er w star u is)] σ
theorem Ij:T0.fn 799=Zj j':=by kernel_rfl
theorem xR{isEnd io en er:Bool}(hw:cP isEnd io en er=Zk):io=Zn:=by
 have h:ag (cP isEnd io en er) (!io) (λ_=>Zm)=Zm:=by(apply km isEnd io en er;kernel_rfl)
 rw[hw]at h;cases io with
 | false=>rfl
 | true=>exact h.symm
section
variable(n:Nat)(h:Hp)(c:n_)(l:OO)(is:List q_)
theorem n9(isEnd io en er:Bool)(code:Int)(k:Tc)(hk:(isEnd=Zm/\k=89)\/(isEnd=Zn/\k=70))(pre:Nat)(h4:pre<=4)(seen:List SQ)(B':Nat)(t_:List SQ)(recs:List (List Ent))(m cap:Nat)(hm:m<=cap)(r:R V)
  (hr:r = .ok (.d (.list (wl pre++[gd isEnd io en er]))) ⟨(hc { h with OG:=am (recs.drop B'),m_:=seen,OW:=t_ } (c.st io code)).e,Zk,cap⟩) :
  GX m h (jC isEnd io en er code k (wl pre) c seen B' t_) recs r:=by
 unfold jC GX;unfold gd at hr;cases hw:cP isEnd io en er with
 | none=>
  rw[hw]at hr;have hio:=xR hw
  subst hio
  refine⟨pre,_,cap,h4,hm,hr,?_⟩
  rcases hk with ⟨rfl,rfl⟩|⟨rfl,rfl⟩<;>rfl
 | some wv=>
  rw[hw]at hr
  refine⟨pre,_,cap,h4,hm,hr,rfl,wv,rfl,?_⟩
  exact .inr (on hw)
theorem yJ(h:Hp){X Y Z:List SQ}(h1:h.OG=X)(h2:h.m_=Y)(h3:h.OW=Z):({ h with OG:=X,m_:=Y,OW:=Z }:Hp)=h:=by
 rw[<- h1,<- h2,<- h3]
theorem wE(h:Hp){X:List SQ}(h1:h.OG=X):({ h with OG:=X }:Hp)=h:=by
 rw[<- h1]
theorem FR(Ph:c.d_=l.z):lz c l=c:=by obtain⟨c0,c1,c2,b3,b4,c5,d_⟩:=c;cases Ph;rfl
theorem M1{n:Nat}(h:n<=3):4*n<=12:=Wm 4 h
theorem L3{m n:Nat}(h:n<=3):m+19 - 4*n+4*n=m+19:=Uq (Te (M1 h) (Ve 12 (m+7)))
theorem My{m n:Nat}(h:n<=3):m+18 - n+n+1=m+19:=congrArg Ul (Uq (Te h (Ve 3 (m+15))))
theorem J6{m n c:Nat}(h:n<=3)(h2:m+19 - 4*n<=c):m+2<=c:=Te (Uh (Te (Vb (M1 h) (m+2)) (TX (m+14) 5))) h2
theorem FI{m n:Nat}(h:n<=3):m<=m+18 - n:=Uh (Vb (Te h (by decide)) m)
theorem z1(j:Nat):0+1+j=j+1:=Zd 1 j
section
variable(isW io en er:Bool)(w:Wy)(uu:Un)(f:Tq)(m:Nat)
noncomputable def Lz:LE:=pU (a9 isW io en er w uu.st uu.z is) (jh isW) (b7 io en er) (.int w.z) (cN uu.st isW) (.list (is.map q_.d)) (.int l.z)
theorem Fc(Ph:c.d_=l.z)(hf:cC w l=Zj f){r:R (Fl×LE)}(hr:(aa T0 af (n+62)).ex (j'.body.drop 3) j'.scope (pU (a9 isW io en er w uu.st uu.z is) (jh isW) (b7 io en er) (.int w.z) (uD uu.st uu.z) (.list (is.map q_.d)) (.int l.z)) ⟨(hc h c).e,Zk,m+20⟩=r) :
  sQ n isW io en er w uu.st uu.z is ⟨(hc h c).e,Zk,m+20⟩=r.bind λp s=>br 34 p s:=by
 have A:=JJ n h c (m+20) (uD uu.st uu.z) (b7 io en er) (jh isW) (.list (is.map q_.d)) w l f hf
 rw[FR c l Ph]at A
 exact(iY (n:=n+65) (fn:=j') (l:=KG (a9 isW io en er w uu.st uu.z is)) rfl Ij (by kernel_rfl) (A.trans hr)).trans (by rw[show len (hc h c).e=34 from by kernel_rfl])
theorem uB(Ph:c.d_=l.z)(hf:cC w l=Zj f)(hs:uu.std isW=Zm){r:R (Fl×LE)}(hr:(aa T0 af (n+61)).ex (j'.body.drop 4) j'.scope (Lz l is isW io en er w uu) ⟨(hc h c).e++gl (!uu.st),Zk,m+20⟩=r) :
  sQ n isW io en er w uu.st uu.z is ⟨(hc h c).e,Zk,m+20⟩=r.bind λp s=>br 34 p s:=by
 refine Fc n h c l is isW io en er w uu f m Ph hf ?_
 rw[pi hs]
 exact(KB n h c (m+20) (b7 io en er) (.list (is.map q_.d)) (.int w.z) isW uu.st (.int l.z) (a9 isW io en er w uu.st uu.z is)).trans hr
theorem Ec(Ph:c.d_=l.z)(hf:cC w l=Zj f)(hs:uu.std Zm=Zm)(hl3:is.length<=3):∃ cap,m<=cap/\sQ n Zm io en er w uu.st uu.z is ⟨(hc h c).e,Zk,m+20⟩ = .ok (.d (.list (wl (is.length+1)++[m1]))) ⟨(hc { h with m_:=h.m_++[.str f],OW:=h.OW++[Uz (cb c is)] } c).e,Zk,cap⟩:=by
 obtain⟨le1,b1,b2,b3,b4,dW,h3,e3⟩:=s8 n { h with m_:=h.m_++[.str f] } (cN uu.st Zm) (.list (is.map q_.d)) (.int w.z) (a9 Zm io en er w uu.st uu.z is) (.int l.z) (gp (.int l.z)) (b7 io en er) (!uu.st) c is 0 (m+19 - 4*is.length) [] Zm .none .none .none .none
 rw[L3 hl3]at e3;have c2:=J6 hl3 h3
 refine⟨dW - 2,Uh c2,?_⟩
 have e5:=Ix n { h with m_:=h.m_++[.str f] } (dW - 2) (cN uu.st Zm) (.list (is.map q_.d)) (.int w.z) (a9 Zm io en er w uu.st uu.z is) (.int l.z) (gp (.int l.z)) (wl (0+1+is.length)) (b7 io en er) (!uu.st) le1 b1 b2 b3 b4 c ([]++cb c is)
 rw[Uq (Te (Ve ..) c2)]at e5;rw[<- z1 is.length]
 refine(uB n h c l is Zm io en er w uu f m Ph hf hs ((Hm n h c (m+20) (cN uu.st Zm) (b7 io en er) (.list (is.map q_.d)) (.int w.z) (a9 Zm io en er w uu.st uu.z is) (!uu.st) (.int l.z)).trans
  ((H4 n h c (m+19) (cN uu.st Zm) (b7 io en er) (.list (is.map q_.d)) (a9 Zm io en er w uu.st uu.z is) (!uu.st) w l f hf).trans (by rw[Nb];exact aC (Ea n { h with m_:=h.m_++[.str f] } (m+19) (cN uu.st Zm) (.int w.z) (a9 Zm io en er w uu.st uu.z is) (.int l.z) (gp (.int l.z)) [m1] (b7 io en er) (!uu.st) c is [] e3))))).trans e5
theorem DH(Ph:c.d_=l.z)(hf:cC w l=Zj f)(hs:uu.std Zn=Zm)(hi0:h.OG=[]):sQ n Zn io en er w uu.st uu.z is ⟨(hc h c).e,Zk,m+20⟩ = .ok (.d (.list (wl 0++[gd Zm io en er]))) ⟨(hc { h with OG:=[],m_:=h.m_++[.str f] } (c.st io (-1))).e,Zk,m+19⟩:=by
 have e:=Cj n h c (m+19) (cN uu.st Zn) (.list (is.map q_.d)) (a9 Zn io en er w uu.st uu.z is) (!uu.st) io en er w l f hf
 rw[show({ h with OG:=[] }:Hp)=h from wE h hi0]at e
 exact(uB n h c l is Zn io en er w uu f m Ph hf hs rfl).trans e
variable(rec:List Ent)(post:List (List Ent))(h4:rec.length<=4)(hi':h.OG=Uz (rec.map Ent.d)::am post)
include h4 hi' in
theorem uU(Ph:c.d_=l.z)(hf:cC w l=Zj f)(hs:uu.std Zn=Zm){r:R (Fl×LE)}
  (hr:(aa T0 af (n+56)).ex (cf::j'.body.drop 10) j'.scope (qD (a9 Zn io en er w uu.st uu.z is) (b7 io en er) (.int w.z) (cN uu.st Zn) (.list (is.map q_.d)) (.int l.z) (!uu.st)) (OP { h with OG:=am post,m_:=h.m_++[.str f] } c (!uu.st) (rec.map Ent.d) (gp (.int l.z)) [m1] (m+19))=r) :
  sQ n Zn io en er w uu.st uu.z is ⟨(hc h c).e,Zk,m+20⟩=r.bind λp s=>br 34 p s:=by
 have e1:=CV n h c (m+20) (cN uu.st Zn) (b7 io en er) (.list (is.map q_.d)) (.int w.z) (a9 Zn io en er w uu.st uu.z is) (!uu.st) (.int l.z) rec h4 (am post) (B1 (yW (rec::post)) (by decide))
 rw[show({ h with OG:=Uz (rec.map Ent.d)::am post }:Hp)=h from wE h hi']at e1
 refine uB n h c l is Zn io en er w uu f m Ph hf hs (e1.trans ((GU n { h with OG:=am post } c (m+19) (cN uu.st Zn) (b7 io en er) (.list (is.map q_.d)) (a9 Zn io en er w uu.st uu.z is) (!uu.st) (rec.map Ent.d) w l f hf).trans ?_))
 rw[Nb];exact hr
def LG(z:Nat×Bool×n_)(r:R V):Prop:=match z with
 | (_,Zm,c')=>r = .ok (.d (.list (wl (is.length+1)++[m1]))) ⟨(hc { h with OG:=am post,m_:=h.m_++[.str f] } c').e,Zk,m+18 - is.length⟩
 | (j,Zn,c')=>∃ cap,m+18 - is.length<=cap/\r = .ok (.d (.list (wl (j+1)++[gd Zn io en er]))) ⟨(hc { h with OG:=am post,m_:=h.m_++[.str f] } (c'.st io 7)).e,Zk,cap⟩
include h4 hi' in
theorem EJ(Ph:c.d_=l.z)(hf:cC w l=Zj f)(hs:uu.std Zn=Zm)(hl3:is.length<=3):LG h is io en er f m post (reads is rec c) (sQ n Zn io en er w uu.st uu.z is ⟨(hc h c).e,Zk,m+20⟩):=by
 have T:=x7 n { h with OG:=am post,m_:=h.m_++[.str f] } (m+18 - is.length) (cN uu.st Zn) (.list (is.map q_.d)) (.int w.z) (a9 Zn io en er w uu.st uu.z is) (.int l.z) (gp (.int l.z)) io en er (!uu.st) is rec c 0 Zm .none .none .none .none h4
 rw[My hl3]at T;cases hz:reads is rec c with
 | mk j z=>
  obtain⟨b,c'⟩:=z;rw[hz]at T;cases b with
  | true=>
   have hj:=nN is rec c c' j hz
   subst hj;obtain⟨rec',i_,b1,b2,b3,b4,e3⟩:=T
   refine((uU n h c l is io en er w uu f m rec post h4 hi' Ph hf hs (aC (vT n { h with OG:=am post,m_:=h.m_++[.str f] } (m+19) (cN uu.st Zn) (.int w.z) (a9 Zn io en er w uu.st uu.z is) (.int l.z) (gp (.int l.z)) [m1] (b7 io en er) (!uu.st) c is (rec.map Ent.d) e3))).trans
    (He n { h with OG:=am post,m_:=h.m_++[.str f] } (m+18 - is.length) (cN uu.st Zn) (.list (is.map q_.d)) (.int w.z) (a9 Zn io en er w uu.st uu.z is) (.int l.z) (gp (.int l.z)) (wl (0+1+is.length)) (b7 io en er) (!uu.st) i_ b1 b2 b3 b4 c' rec')).trans ?_
   rw[z1]
  | false=>
   obtain⟨le',rec',sp,dW,h3,e3⟩:=T
   refine⟨dW,h3,((uU n h c l is io en er w uu f m rec post h4 hi' Ph hf hs (gh (vT n { h with OG:=am post,m_:=h.m_++[.str f] } (m+19) (cN uu.st Zn) (.int w.z) (a9 Zn io en er w uu.st uu.z is) (.int l.z) (gp (.int l.z)) [m1] (b7 io en er) (!uu.st) c is (rec.map Ent.d) e3))).trans
    (Hd { h with OG:=am post,m_:=h.m_++[.str f] } dW (gp (.int l.z)) (wl (0+1+j)) (!uu.st) io en er (c'.st io 7) rec' sp le')).trans ?_⟩
   rw[z1]
end
theorem xO{α:Type}{l post:List α}{a:α}{k:Nat}(h:l.drop k=a::post):l.drop (k+1)=post/\a∈l:=
 ⟨List.drop_drop.symm.trans (congrArg (List.drop 1) h),W3 (i:=k) (h ▸ .head _)⟩
theorem IK(isW io en er:Bool)(w:Wy)(uu:Un)(Ph:c.d_=l.z)(hl3:is.length<=3)(recs:List (List Ent))(PT:∀ r∈recs,r.length<=4)(k:Nat)(hi:h.OG=am (recs.drop k))(m:Nat) :
  GX m h (wB isW io en er w l uu is c h.m_ recs k h.OW) recs (sQ n isW io en er w uu.st uu.z is ⟨(hc h c).e,Zk,m+20⟩):=by
 unfold wB;cases hf:cC w l with
 | none=>
  have e:=DZ n h c (m+20) (uD uu.st uu.z) (b7 io en er) (jh isW) (.list (is.map q_.d)) w l hf
  rw[FR c l Ph]at e
  refine⟨0,.str yV,m+20,U4 _,TX ..,?_,rfl⟩
  rw[yJ h hi rfl rfl];exact e
 | some f=>
  dsimp only;cases hs:uu.std isW with
  | false=>
   dsimp only;obtain⟨six,hu,_⟩:=yY hs;refine n9 h c Zn io en er 11 70 (.inr ⟨rfl,rfl⟩) 0 (U4 _) _ _ _ _ m (m+20) (TX ..) _ ?_
   rw[yJ h hi rfl rfl]
   refine(Fc n h c l is isW io en er w uu f m Ph hf rfl).trans ?_
   rw[hu];exact Dv n h c (m+20) (.list (is.map q_.d)) (.int w.z) isW six io en er (.int l.z) (a9 isW io en er w uu.st uu.z is)
  | true=>
   dsimp only;cases isW with
   | true=>
    dsimp only;obtain⟨cap,h1,e⟩:=Ec n h c l is io en er w uu f m Ph hf hs hl3
    refine⟨is.length+1,m1,cap,Wh hl3,h1,e.trans ?_,by rw[kA],-1,rfl,.inl rfl⟩
    dsimp only;rw[<- hi]
   | false=>
    cases hd:recs.drop k with
    | nil=>
     dsimp only;refine n9 h c Zm io en er (-1) 89 (.inl ⟨rfl,rfl⟩) 0 (U4 _) _ _ _ _ m (m+19) (TX ..) _ ?_
     rw[hd];exact DH n h c l is io en er w uu f m Ph hf hs (by rw[hi,hd];rfl)
    | cons rec post=>
     dsimp only;obtain⟨q1,q2⟩:=xO hd;have T:=EJ n h c l is io en er w uu f m rec post (PT rec q2) (by rw[hi,hd];rfl) Ph hf hs hl3
     rw[<- q1]at T;cases hz:reads is rec c with
     | mk j z=>
      obtain⟨b,c'⟩:=z;rw[hz]at T;cases b with
      | true=>exact⟨is.length+1,m1,m+18 - is.length,Wh hl3,FI hl3,T,by rw[kA],-1,rfl,.inl rfl⟩
      | false=>
       obtain⟨dW,h3,e⟩:=T;exact n9 h c' Zn io en er 7 70 (.inr ⟨rfl,rfl⟩) (j+1) (Wh (Te (Wi (rF is rec c c' j hz)) hl3)) _ _ _ _ m dW (Te (FI hl3) h3) _ e
end
end
section
open PySem
section
variable{T:Tab}{Sp:eR}{n:Nat}{sc:Tz}{le le':LE}{σ σ':VS}
theorem LF{t b o:Expr}{p:Vw}{c:Bool}(h:(aa T Sp n).te t sc le σ = .ok c σ'):(aa T Sp (n+1)).ev (.IfExp t b o p) sc le σ=ac c ((aa T Sp n).ev b sc le σ') ((aa T Sp n).ev o sc le σ'):=by
 show R.bind ((aa T Sp n).te t sc le σ) _=_
 (refine b_ h ?_);rfl
theorem mY{o i:Expr}{p:Vw}{a a' b:V}{σ₁ E_:VS}(hs:dK i=Zk)(h1:(aa T Sp n).ev o sc le σ = .ok a σ')(hg:fZ o i (len σ.o) a σ' = .ok a' σ₁)(h2:(aa T Sp n).ev i sc le σ₁ = .ok b E_):(aa T Sp (n+1)).ev (.Subscript o i p) sc le σ=getItem a' b E_:=by
 show(match dK i with
 | some (l,h,Zk)=>(R.bind ((aa T Sp n).ev o sc le σ) λo s=>(ld (aa T Sp n) l sc le s).bind λl s=>(ld (aa T Sp n) h sc le s).bind λh s=>iS o l h s:R V)
 | some (_,_,Zj _) => .no
 | none=>R.bind ((aa T Sp n).ev o sc le σ) λv s₁=>(fZ o i (len σ.o) v s₁).bind λv s=>((aa T Sp n).ev i sc le s).bind λi s=>getItem v i s)=_
 refine b_ hs ?_
 show R.bind ((aa T Sp n).ev o sc le σ) _=_
 refine b_ h1 ?_
 show R.bind (fZ o i (len σ.o) a σ') _=_
 refine b_ hg ?_
 show R.bind ((aa T Sp n).ev i sc le σ₁) _=_
 (refine b_ h2 ?_);rfl
end
theorem uE{mark:Nat}{v:V}{σ:VS}(h:len σ.o=mark):cz mark v σ = .ok v σ:=by
 unfold cz;refine b_ h ?_;refine b_ (show Ue mark mark=Zm from Xh mark) ?_
 rfl
noncomputable def Qb:Fn:=aI 93
noncomputable def Cq:T9:=ai Qb.body 3
noncomputable def E8:Expr:=ba (ae Cq)
noncomputable def bh(a:Nat)(xs:List SQ)(tl:List O)(cap:Nat):VS:=⟨.dict [(.str bX,.ref 1),(.str H3,.d (.int (Tn a)))] :: .a_ xs::tl,Zk,cap⟩
noncomputable def yC(a:Nat)(sz:Int):LE:=[(a8,.ref 0),(tj,.d (.int sz)),(H3,.d (.int (Tn a))),(bX,.ref 1)]
noncomputable def Np:Expr:=ba E8
noncomputable def HJ:Expr:=match E8 with
 | .IfExp _ b _ _=>b
 | _=>xq
noncomputable def DL:Expr:=match E8 with
 | .IfExp _ _ o _=>o
 | _=>xq
noncomputable def uA:Expr:=ba DL
noncomputable def qu:Expr:=ba uA
theorem J7:T0.fn 766=Zj Qb:=by kernel_rfl
theorem Md:Cq = .Return (Zj (.BinOp E8 .Mod (Oz (ae Cq)) (ax (ae Cq)))) (match Cq with | .Return _ p=>p|_=>default):=by kernel_rfl
theorem MB:E8 = .IfExp Np HJ DL (ax E8):=by kernel_rfl
theorem LK:HJ = .Subscript (ba HJ) (Oz HJ) (ax HJ):=by kernel_rfl
theorem Lq:DL = .BinOp uA .Add (Oz DL) (ax DL):=by kernel_rfl
theorem J8:uA = .BinOp qu .Add (Oz uA) (ax uA):=by kernel_rfl
theorem KX:qu = .BinOp (ba qu) .Mult (Oz qu) (ax qu):=by kernel_rfl
theorem Dh{i j:Int}{s:VS}(hi:bW i=Zm)(hj:bW j=Zm):nX .Mult (.d (.int i)) (.d (.int j)) s = .ok (.d (.int (i*j))) s:=by
 show ac (bW i) (ac (bW j) (R.ok (int (i*j)) s) .no) .no=_
 (refine b_ hi ?_;refine b_ hj ?_);rfl
theorem wz{α β:Type}(f:α->β):∀ (l:List α) (i:Nat),i < l.length->∃ a,f9 (l.map f) i=Zj (f a)
 | [],_,h=>absurd h (W9 _)
 | a::_,0,_=>⟨a,rfl⟩
 | a::l,i+1,h=>wz f l i (Vz h)
theorem wb{α:Type}:∀ (l:List α),len l=l.length
 | []=>rfl
 | _::l=>congrArg Ul (wb l)
section
variable(n:Nat)(a:Nat)(xs:List Int)(sz:Int)(tl:List O)(cap:Nat)
theorem JL:(aa T0 af (n+9)).te Np Qb.scope (yC a sz) (bh a' (xs.map Td) tl cap) = .ok (!Nat.ble (len (xs.map Td)) a) (bh a' (xs.map Td) tl cap):=by kernel_rfl
theorem HR(ha:a < 1000000)(a':Nat):∃ z:Int,(aa T0 af (n+10)).ev E8 Qb.scope (yC a sz) (bh a' (xs.map Td) tl cap) = .ok (.d (.int z)) (bh a' (xs.map Td) tl cap):=by
 refine b_ MB ?_
 have e:=LF (b:=HJ) (o:=DL) (p:=ax E8) (JL n a xs sz tl cap (a':=a'))
 cases hb:U9 (len (xs.map Td)) a with
 | false=>
  have hlt:a < xs.length:=by
   rcases Nat.lt_or_ge a xs.length with h|h
   ·exact h
   ·rw[wb,Vl,WW.mpr h]at hb;cases hb
  obtain⟨z,hz⟩:=wz Td xs a hlt;rw[hb]at e
  refine⟨z,e.trans ?_⟩
  show(aa T0 af (n+9)).ev HJ _ _ _=_
  refine b_ LK ?_
  refine(mY (a := .ref 1) (a' := .ref 1) (b := .d (.int (Tn a))) (σ':=bh a' (xs.map Td) tl cap) (σ₁:=bh a' (xs.map Td) tl cap) (E_:=bh a' (xs.map Td) tl cap) (by kernel_rfl) (by kernel_rfl) (by kernel_rfl) (by kernel_rfl)).trans ?_
  show ag (ac (U9 a 1000000) (Zj a) Zk) R.no (λn=>ag (f9 (xs.map Td) n) R.no λx=>R.ok (V.d x) _)=_
  refine b_ (WW.mpr (Wi ha)) ?_
  show ag (f9 (xs.map Td) a) R.no _=_
  (refine b_ hz ?_);rfl
 | true=>
  rw[hb]at e
  refine⟨9*Tn a+Int.fdiv (Tn a) 2+1,e.trans ?_⟩
  show(aa T0 af (n+9)).ev DL _ _ _=_
  refine b_ Lq ?_;refine b_ J8 ?_;refine b_ KX ?_
  exact rP (op := .Add) (p:=ax DL) (r:=Oz DL) (b := .d (.int 1)) (E_:=bh a' (xs.map Td) tl cap) (rP (op := .Add) (p:=ax uA) (r:=Oz uA) (b := .d (.int (Int.fdiv (Tn a) 2))) (E_:=bh a' (xs.map Td) tl cap) ((rP (n:=n+6) (op := .Mult) (p:=ax qu) (T:=T0) (Sp:=af) (sc:=Qb.scope) (le:=yC a sz) (l:=ba qu) (r:=Oz qu) (a := .d (.int 9)) (b := .d (.int (Tn a))) (σ:=bh a' (xs.map Td) tl cap) (σ':=bh a' (xs.map Td) tl cap) (E_:=bh a' (xs.map Td) tl cap) (by kernel_rfl) (by kernel_rfl)).trans (Dh (i:=9) rfl (WW.mpr ha:bW (Tn a)=Zm)) :) (by kernel_rfl) :) (by kernel_rfl)
theorem Do(ha:a < 1000000)(m:Nat):∃ v:Nat,v < m+1/\(aa T0 af (n+16)).cl (.val (.ref 766)) [.ref 0,.d (.int (Tn (m+1)))] (bh a (xs.map Td) tl cap) = .ok (.d (.int (Tn v))) (bh (a+1) (xs.map Td) tl cap):=by
 obtain⟨z,hz⟩:=HR n a xs (Tn (m+1)) tl cap ha (a+1);have h0:0<=Y6 z (Tn (m+1)):=Int.fmod_nonneg_of_pos _ (by show(0:Int) < ((m+1:Nat):Int);exact Int.ofNat_succ_pos m)
 have h1:Y6 z (Tn (m+1)) < ((m+1:Nat):Int):=Int.fmod_lt_of_pos _ (by show(0:Int) < ((m+1:Nat):Int);exact Int.ofNat_succ_pos m)
 obtain⟨v,hv⟩:=Int.eq_ofNat_of_zero_le h0
 refine⟨v,by rw[hv]at h1;exact Int.ofNat_lt.mp h1,?_⟩
 have e4:nX .Mod (.d (.int z)) (.d (.int (Tn (m+1)))) (bh (a+1) (xs.map Td) tl cap) = .ok (.d (.int (Tn v))) (bh (a+1) (xs.map Td) tl cap):=by
  show R.ok (V.d (.int (Y6 z (Tn (m+1))))) _=_
  (refine b_ hv ?_);rfl
 have e5:(aa T0 af (n+12)).ex [Cq] Qb.scope (yC a (Tn (m+1))) (bh (a+1) (xs.map Td) tl cap) = .ok (.ret (.d (.int (Tn v))),yC a (Tn (m+1))) (bh (a+1) (xs.map Td) tl cap):=by
  refine b_ Md ?_
  exact gh (wo ((rP (op := .Mod) (p:=ax (ae Cq)) (r:=Oz (ae Cq)) (b := .d (.int (Tn (m+1)))) (E_:=bh (a+1) (xs.map Td) tl cap) hz (by kernel_rfl) :).trans e4))
 refine(iY (n:=n+15) (fn:=Qb) (l:=[(a8,.ref 0),(tj,.d (.int (Tn (m+1))))]) rfl J7 (by kernel_rfl) ((by kernel_rfl:(aa T0 af (n+15)).ex Qb.body Qb.scope [(a8,.ref 0),(tj,.d (.int (Tn (m+1))))] (bh a (xs.map Td) tl cap)=(aa T0 af (n+12)).ex [Cq] Qb.scope (yC a (Tn (m+1))) (bh (a+1) (xs.map Td) tl cap)).trans e5)).trans ?_
 exact uE rfl
end
end
section
open PySem
section
variable{T:Tab}{Sp:eR}{n:Nat}{sc:Tz}{le le':LE}{σ σ':VS}
theorem eS{e:Expr}{r:List Expr}{v:V}{vs:List V}{E_:VS}(h1:(aa T Sp n).ev e sc le σ = .ok v σ')(h2:(aa T Sp n).es r sc le σ' = .ok vs E_):(aa T Sp (n+1)).es (e::r) sc le σ = .ok (v::vs) E_:=by
 show R.bind ((aa T Sp n).ev e sc le σ) _=_
 refine b_ h1 ?_
 show R.bind ((aa T Sp n).es r sc le σ') _=_
 (refine b_ h2 ?_);rfl
theorem Ad{es:List Expr}{c:Nat}{p:Vw}{vs:List V}(h:(aa T Sp n).es es sc le σ = .ok vs σ'):(aa T Sp (n+1)).ev (.Tuple es c p) sc le σ=ac (U9 (len vs) 1000) (.ok (gS vs) σ') .no:=by
 show R.bind ((aa T Sp n).es es sc le σ) _=_
 (refine b_ h ?_);rfl
end
theorem bT{sc:Tz}{le:LE}(e:Expr)(n a:Nat)(xs:List Int)(tl:List O)(cap:Nat)(ha:a < 1000000)(m:Nat)(he:e = .Call (ba e) (aN e) [] (ax e))(hf:fP (ba e)=Zk)(hw:bH 20 (aN e)=Zm)
  (h1:(aa T0 af (n+16)).ev (ba e) sc le (bh a (xs.map Td) tl cap) = .ok (.val (.ref 766)) (bh a (xs.map Td) tl cap))
  (h2:(aa T0 af (n+16)).es (aN e) sc le (bh a (xs.map Td) tl cap) = .ok [.ref 0,.d (.int (Tn (m+1)))] (bh a (xs.map Td) tl cap)) :
  ∃ v:Nat,v < m+1/\(aa T0 af (n+17)).ev e sc le (bh a (xs.map Td) tl cap) = .ok (.d (.int (Tn v))) (bh (a+1) (xs.map Td) tl cap):=by
 obtain⟨v,h,e1⟩:=Do n a xs tl cap ha m
 refine⟨v,h,?_⟩
 refine b_ he ?_
 exact(bC hf hw h1 h2).trans e1
noncomputable def inF:Fn:=aI 95
noncomputable def iO:T9:=ai inF.body 1
noncomputable def Kq:T9:=ai (az iO) 0
noncomputable def iI:T9:=ai (az iO) 1
noncomputable def KQ:T9:=ai (az iO) 2
noncomputable def iK:T9:=ai (az iI) 0
noncomputable def iA:T9:=ai (az iI) 1
theorem LN:T0.fn 780=Zj inF:=by kernel_rfl
theorem Hv:inF.body=[ai inF.body 0,iO,ai inF.body 2]:=by kernel_rfl
theorem LY:az iO=[Kq,iI,KQ]:=by kernel_rfl
theorem NP:iO = .For (aq iO) (.Call (ba (ae iO)) [bl (aN (ae iO)) 0] [] (ax (ae iO))) (az iO) [] (bQ iO):=by kernel_rfl
theorem NF:iI = .For (aq iI) (.Call (ba (ae iI)) [bl (aN (ae iI)) 0] [] (ax (ae iI))) (az iI) [] (bQ iI):=by kernel_rfl
theorem Lr:az iI=[iK,iA]:=by kernel_rfl
theorem NH:iK = .Assign [aq iK] (.Subscript (ba (ae iK)) (Oz (ae iK)) (ax (ae iK))) (match iK with | .Assign _ _ p=>p|_=>default):=by kernel_rfl
noncomputable def Ei:Expr:=ae iA
noncomputable def IW:Expr:=bl (aN Ei) 0
noncomputable def Nn:Expr:=bl (aN IW) 0
noncomputable def IU:Expr:=bl (aN IW) 1
noncomputable def Ig:Expr:=bl (aN IU) 0
noncomputable def H7:Expr:=bl (aN IU) 1
theorem N3:iA = .Expr (.Call (.Attribute (ba (ba Ei)) (Ie (ba Ei)) (ax (ba Ei))) [.Tuple [Nn,.Call (ba IU) [Ig,H7] [] (ax IU)] (match IW with | .Tuple _ c _=>c|_=>0) (match IW with | .Tuple _ _ p=>p|_=>default)] [] (ax Ei)) (match iA with | .Expr _ p=>p|_=>default):=by kernel_rfl
inductive Si where
 | a|b|c
noncomputable def Si.nx:Si->Si
 | .a => .b
 | .b => .b
 | .c => .c
noncomputable def sU(sh:Si)(t s k:SQ):LE:=[(a8,.ref 0),(bN,.ref 2),(eB,.d t)]++match sh with
 | .a=>[(aP,.ref 3)]
 | .b=>[(aP,.ref 3),(cu,.d s),(eC,.d k)]
 | .c=>[(cu,.d s),(eC,.d k),(aP,.ref 3)]
noncomputable def D3(sh:Si)(t s k:SQ):LE:=[(a8,.ref 0),(bN,.ref 2),(eB,.d t)]++match sh with
 | .a=>[(aP,.ref 3),(cu,.d s)]
 | .b=>[(aP,.ref 3),(cu,.d s),(eC,.d k)]
 | .c=>[(cu,.d s),(eC,.d k),(aP,.ref 3)]
noncomputable def sX(n:Nat)(l:List V)(le:LE)(σ:VS):R (Fl×LE):=aK T0 (aa T0 af (n+27)) (aq iI) (az iI) inF.scope l le σ
noncomputable def Lh(v:Nat):Bool:=match v with
 | 2=>Zm
 | _=>Zn
noncomputable def sV(k4:Bool)(v:Nat):Ent:=match k4 with
 | true => .b (bR (Y6 (Tn v) (Tn 2)) (Tn 1))
 | false => .i (Tn v - Tn 3)
def fp(i:Int):Prop := -100<=i/\i<=100
def gV(e:Ent):Prop:=match e with
 | .i v=>fp v
 | .b _=>True
theorem C2(k4:Bool){v:Nat}(h:v < 7):gV (sV k4 v):=by
 cases k4 with
 | true=>trivial
 | false=>show -100<=Tn v - Tn 3/\Tn v - Tn 3<=100;simp only[Yp];lia
section
variable(n:Nat)(xs:List Int)(recs rec:List SQ)(t s k:SQ)(l:List V)(cap:Nat)
noncomputable def NY{α:Type}(f:Si->α):α×α×α:=(f .a,f .b,f .c)
noncomputable def Ny{α:Type}(f:Si->α):α×α×α:=(f .a,f .b,f .c)
theorem yD{α:Type}{f g:Si->α}(s:Si)(h:NY f=Ny g):f s=g s:=by
 cases s with
 | a=>exact congrArg Prod.fst h
 | b=>exact congrArg (λp=>p.2.1) h
 | c=>exact congrArg (λp=>p.2.2) h
theorem wO{a:Nat}(h:a < 900000):a < 1000000:=V6 h (by decide)
theorem K4{a:Nat}(h:a < 900000):a+1 < 1000000:=U0 h (by decide)
theorem Mi(a:Nat)(sh:Si)(x:SQ):assign T0 (aa T0 af (n+27)) (aq iI) inF.scope (sU sh t s k) (.d x) (bh a (xs.map Td) [.a_ recs,.a_ rec] cap) = .ok (D3 sh t x k) (bh a (xs.map Td) [.a_ recs,.a_ rec] cap):=by
 (apply yD sh;kernel_rfl)
theorem MV(a:Nat)(ha:a < 900000)(sh:Si)(x:SQ):∃ k4:Bool,aA T0 (aa T0 af (n+26)) iK inF.scope (D3 sh t x k) (bh a (xs.map Td) [.a_ recs,.a_ rec] cap) = .ok (.next,sU sh.nx t x (kd k4)) (bh (a+1) (xs.map Td) [.a_ recs,.a_ rec] cap):=by
 obtain⟨v,hv,p1⟩:=bT (sc:=inF.scope) (le:=D3 sh t x k) (Oz (ae iK)) (n+8) a xs [.a_ recs,.a_ rec] cap (wO ha) 2 (by kernel_rfl) (by kernel_rfl) (by kernel_rfl) (by kernel_rfl) (by kernel_rfl)
 refine⟨Lh v,?_⟩
 rw[NH]
 refine(dF (by kernel_rfl) (by kernel_rfl) ((mY (a := .ref 4) (σ':=bh a (xs.map Td) [.a_ recs,.a_ rec,.a_ [.int 0,.int 0,.int 4]] cap) (by kernel_rfl) (by(apply yD sh;kernel_rfl)) (by kernel_rfl) p1).trans
  (sB (P:=λv=>getItem (.d (.list [.int 0,.int 0,.int 4])) (.d (.int (Tn v))) (bh (a+1) (xs.map Td) [.a_ recs,.a_ rec] cap) = .ok (.d (kd (Lh v))) (bh (a+1) (xs.map Td) [.a_ recs,.a_ rec] cap)) v hv (by kernel_rfl) (by kernel_rfl) (by kernel_rfl)))).trans ?_
 (apply yD sh;kernel_rfl)
theorem ML(k4:Bool)(w a:Nat):(aa T0 af (n+19)).cl (.val (.ref 773)) [.d (kd k4),.d (.int (Tn w))] (bh a (xs.map Td) [.a_ recs,.a_ rec] cap) = .ok (.d (sV k4 w).v) (bh a (xs.map Td) [.a_ recs,.a_ rec] cap):=by
 (apply bt k4;kernel_rfl)
theorem JU(k4:Bool)(w:Nat)(σ:VS):ac (U9 (len [V.d (kd k4),V.d (sV k4 w).v]) 1000) (R.ok (gS [V.d (kd k4),V.d (sV k4 w).v]) σ) .no = .ok (.d (sV k4 w).d) σ:=by
 (apply bt k4;kernel_rfl)
theorem Kl(k4:Bool)(a:Nat)(ha:a < 1000000)(sh:Si)(x:SQ):∃ e,gV e/\aA T0 (aa T0 af (n+25)) iA inF.scope (sU sh.nx t x (kd k4)) (bh a (xs.map Td) [.a_ recs,.a_ rec] (cap+1)) = .ok (.next,sU sh.nx t x (kd k4)) (bh (a+1) (xs.map Td) [.a_ recs,.a_ (rec++[e.d])] cap):=by
 obtain⟨w,hw,p2⟩:=bT (sc:=inF.scope) (le:=sU sh.nx t x (kd k4)) H7 n a xs [.a_ recs,.a_ rec] (cap+1) ha 6 (by kernel_rfl) (by kernel_rfl) (by kernel_rfl) (by(apply yD sh;kernel_rfl)) (by(apply yD sh;kernel_rfl))
 refine⟨sV k4 w,C2 _ hw,?_⟩
 rw[N3];have v2:=(bC (σ:=bh a (xs.map Td) [.a_ recs,.a_ rec] (cap+1)) (f:=ba IU) (as:=[Ig,H7]) (p:=ax IU) (vf := .val (.ref 773)) (vs:=[.d (kd k4),.d (.int (Tn w))]) (σ₁:=bh a (xs.map Td) [.a_ recs,.a_ rec] (cap+1)) (by kernel_rfl) (by kernel_rfl) (by(apply yD sh;kernel_rfl)) (eS (v := .d (kd k4)) (e:=Ig) (σ:=bh a (xs.map Td) [.a_ recs,.a_ rec] (cap+1)) (σ':=bh a (xs.map Td) [.a_ recs,.a_ rec] (cap+1)) (by(apply yD sh;kernel_rfl)) (d0 p2))).trans (ML n xs recs rec (cap+1) k4 w (a+1))
 have t1:=(Ad (c:=match IW with | .Tuple _ c _=>c|_=>0) (p:=match IW with | .Tuple _ _ p=>p|_=>default) (eS (v := .d (kd k4)) (e:=Nn) (σ':=bh a (xs.map Td) [.a_ recs,.a_ rec] (cap+1)) (σ:=bh a (xs.map Td) [.a_ recs,.a_ rec] (cap+1)) (by(apply yD sh;kernel_rfl)) (d0 v2))).trans (JU k4 w _)
 have t3:=sN (σ:=bh a (xs.map Td) [.a_ recs,.a_ rec] (cap+1)) (o:=ba (ba Ei)) (m:=Ie (ba Ei)) (p:=ax (ba Ei)) (p':=ax Ei) (vo := .ref 3) (k := .app) (by kernel_rfl) (by kernel_rfl) (by kernel_rfl) (by(apply yD sh;kernel_rfl)) (by kernel_rfl) (d0 t1)
 exact sH (by kernel_rfl) (t3.trans (show _=R.ok (V.d .none) (bh (a+1) (xs.map Td) [.a_ recs,.a_ (rec++[(sV k4 w).d])] cap)by kernel_rfl))
theorem Ir(a:Nat)(ha:a < 900000)(sh:Si)(x:SQ):X2 λ(e:Ent) (k':SQ)=>gV e/\sX n (.d x::l) (sU sh t s k) (bh a (xs.map Td) [.a_ recs,.a_ rec] (cap+1))=sX n l (sU sh.nx t x k') (bh (a+2) (xs.map Td) [.a_ recs,.a_ (rec++[e.d])] cap):=by
 obtain⟨k4,e1⟩:=MV n xs recs rec t k (cap+1) a ha sh x;obtain⟨e,he,e2⟩:=Kl n xs recs rec t cap k4 (a+1) (K4 ha) sh x
 refine⟨e,kd k4,he,(bG rfl (Mi n xs recs rec t s k (cap+1) a sh x) (congrArg (λb=>(aa T0 af (n+27)).ex b inF.scope (D3 sh t x k) (bh a (xs.map Td) [.a_ recs,.a_ rec] (cap+1))) Lr |>.trans ((aC e1).trans ((aC e2).trans iU)))).trans ?_⟩
 (apply yD sh;kernel_rfl)
end
end
section
open PySem
theorem wk:∀ l:List SQ,fL l=l.map V.d
 | []=>rfl
 | x::l=>congrArg (V.d x::·) (wk l)
noncomputable def mT(n:Nat):List SQ:=(List.range n).map λ(k:Nat)=>Td (k:Int)
theorem kf(n:Nat):eP n=fL (mT n):=by
 rw[wk,mT,List.map_map];rfl
theorem dw(n:Nat):(mT n).length=n:=by rw[mT,Vl,List.length_range]
theorem rH{v:Nat}(h:v < 1000000):bW (Tn v)=Zm:=WW.mpr h
noncomputable def wQ:V := .val (.type "range")
theorem pA(n v:Nat)(σ:VS)(h:v < 1000000):(aa T0 af (n+1)).cl wQ [.d (.int (Tn v))] σ = .ok (.rng (Tn v)) σ:=by
 refine b_ (by kernel_rfl:(aa T0 af (n+1)).cl wQ [.d (.int (Tn v))] σ=(match bW (Tn v) with|true=>R.ok (V.rng (Tn v)) σ|false => .no)) ?_;exact b_ (rH h) rfl
theorem uj{T:Tab}{Sp:eR}{n:Nat}{sc:Tz}{le:LE}{σ σ':VS}{t i:Expr}{b:List T9}{p:Vw}{v:Nat}{r:R (Fl×LE)}(h:(aa T Sp n).ev i sc le σ = .ok (.rng (Tn v)) σ')(h2:aK T (aa T Sp n) t b sc (fL (mT v)) le σ'=r) :
  aA T (aa T Sp n) (.For t i b [] p) sc le σ=r:=
 (zv h).trans ((congrArg (λl=>aK T (aa T Sp n) t b sc l le σ') (kf v)).trans h2)
theorem NA{a n m:Nat}(h:a+2*(n+1) < m):a+2+2*n < m:=TY a (2*n) 2▸h
theorem NI{a n m:Nat}(h:a+2*(n+1) < m):a < m:=U0 (TX ..) h
theorem Nx(a n:Nat):a+2*(n+1)=a+2+2*n:=TY a (2*n) 2
theorem Bh{α:Type}(f:α->SQ)(r:List SQ)(e:α)(es:List α):r++List.map f (e::es)=r++[f e]++es.map f:=List.append_cons ..
theorem Fe{α:Type}{P:α->Prop}{a:α}{l:List α}(h:P a)(h2:∀ x∈l,P x):∀ x∈a::l,P x:=λq hq=>by
 cases hq with
 | head=>exact h
 | tail _ hq=>exact h2 q hq
section
variable(n:Nat)(xs:List Int)(recs:List SQ)
theorem CD(t:SQ)(l:List SQ):∀ (rec:List SQ) (s k:SQ) (cap a:Nat) (sh:Si),a+2*l.length < 900000->X4 λ(es:List Ent) (s' k':SQ) (sh':Si)=>A3 (es.length=l.length) ((∀ e∈es,gV e)) (sX n (fL l) (sU sh t s k) (bh a (xs.map Td) [.a_ recs,.a_ rec] (cap+l.length)) = .ok (.next,sU sh' t s' k') (bh (a+2*l.length) (xs.map Td) [.a_ recs,.a_ (rec++es.map Ent.d)] cap)):=by
 induction l with
 | nil=>
  intro rec s k cap a sh ha
  refine⟨[],s,k,sh,rfl,λe h=>absurd h Vn,?_⟩
  rw[show rec++List.map Ent.d []=rec from U8 _]
  exact bM rfl
 | cons x l ih=>
  intro rec s k cap a sh ha;obtain⟨e,k1,he,h1⟩:=Ir n xs recs rec t s k (fL l) (cap+l.length) a (NI ha) sh x;obtain⟨es,s',k',sh',hl,hes,h2⟩:=ih (rec++[e.d]) x k1 cap (a+2) sh.nx (NA ha)
  refine⟨e::es,s',k',sh',congrArg Ul hl,Fe he hes,?_⟩
  rw[Ug,Nx,Bh];exact h1.trans h2
inductive So where
 | z|o|w
noncomputable def Bz(so:So)(t s k:SQ):LE:=[(a8,.ref 0),(bN,.ref 2)]++match so with
 | .z=>[]
 | .o=>[(eB,.d t)]
 | .w=>[(eB,.d t),(cu,.d s),(eC,.d k)]
noncomputable def GT(so:So)(t s k:SQ):LE:=[(a8,.ref 0),(bN,.ref 2)]++match so with
 | .z=>[(eB,.d t)]
 | .o=>[(eB,.d t)]
 | .w=>[(eB,.d t),(cu,.d s),(eC,.d k)]
noncomputable def Ld:So->Si
 | .w => .c
 | _ => .a
noncomputable def K5:Si->So
 | .a => .o
 | _ => .w
noncomputable def lR(n:Nat)(l:List V)(le:LE)(σ:VS):R (Fl×LE):=aK T0 (aa T0 af (n+29)) (aq iO) (az iO) inF.scope l le σ
def ei(r:List Ent):Prop:=r.length<=4/\∀ e∈r,gV e
noncomputable def Of{α:Type}(f:So->α):α×α×α:=(f .z,f .o,f .w)
noncomputable def NW{α:Type}(f:So->α):α×α×α:=(f .z,f .o,f .w)
theorem IQ{α:Type}{f g:So->α}(s:So)(h:Of f=NW g):f s=g s:=by
 cases s with
 | z=>exact congrArg Prod.fst h
 | o=>exact congrArg (λp=>p.2.1) h
 | w=>exact congrArg (λp=>p.2.2) h
theorem o8{c k m:Nat}(h:k<=m):c+m - k+k=c+m:=Uq (Te h (Ve m c))
theorem ur{c k m:Nat}(h:k<=m):c<=c+m - k:=Uh (Vb h c)
theorem w5{c v:Nat}(h:v < 5):c+4 - v+1+v=c+5:=(TY ..).trans (congrArg Ul (o8 (Vc h)))
theorem NE{c v:Nat}(h:v < 5):c<=c+4 - v:=ur (Vc h)
theorem Om{a v:Nat}(h:v < 5):a+1+2*v<=a+9:=Vb (Wm 2 (Vc h)) (a+1)
theorem NS{a v n:Nat}(h:v < 5)(ha:a < 800000)(hn:n=v):a+1+2*n < 900000:=by lia
theorem Mx(t s k x:SQ)(so:So)(a cap:Nat):assign T0 (aa T0 af (n+29)) (aq iO) inF.scope (Bz so t s k) (.d x) (bh a (xs.map Td) [.a_ recs] cap) = .ok (GT so x s k) (bh a (xs.map Td) [.a_ recs] cap):=by
 (apply IQ so;kernel_rfl)
theorem MN(s k x:SQ)(so:So)(a cap:Nat):aA T0 (aa T0 af (n+28)) Kq inF.scope (GT so x s k) (bh a (xs.map Td) [.a_ recs] cap) = .ok (.next,sU (Ld so) x s k) (bh a (xs.map Td) [.a_ recs,.a_ []] cap):=by
 (apply IQ so;kernel_rfl)
theorem LH(s k x:SQ)(sh:Si)(a cap:Nat)(rec:List SQ):(aa T0 af (n+27)).ex [KQ] inF.scope (sU sh x s k) (bh a (xs.map Td) [.a_ recs,.a_ rec] (cap+1)) = .ok (.next,sU sh x s k) (bh a (xs.map Td) [.a_ (recs++[.list rec]),.dead] cap):=by
 (apply yD sh;kernel_rfl)
theorem IX(l:List V)(s k x:SQ)(sh:Si)(a a0 cap Ps:Nat)(rec:List SQ):aT inF.scope (len (bh a0 (xs.map Td) [.a_ recs] Ps).o) (lR n l) (.ok (.next,sU sh x s k) (bh a (xs.map Td) [.a_ (recs++[.list rec]),.dead] cap))=lR n l (Bz (K5 sh) x s k) (bh a (xs.map Td) [.a_ (recs++[.list rec])] cap):=by
 (apply yD sh;kernel_rfl)
theorem Ik(l:List V)(t s k x:SQ)(so:So)(a cap:Nat)(ha:a < 800000):X6 λ(r:List Ent) (s' k':SQ) (so':So) (a' dW:Nat)=>A4 (ei r) (a'<=a+9) (cap<=dW) (lR n (.d x::l) (Bz so t s k) (bh a (xs.map Td) [.a_ recs] (cap+5))=lR n l (Bz so' x s' k') (bh a' (xs.map Td) [.a_ (recs++[fe r])] dW)):=by
 obtain⟨v,hv,p1⟩:=bT (sc:=inF.scope) (le:=sU (Ld so) x s k) (bl (aN (ae iI)) 0) (n+8) a xs [.a_ recs,.a_ []] (cap+5) (V6 ha (by decide)) 4 (by kernel_rfl) (by kernel_rfl) (by kernel_rfl) (by(apply IQ so;kernel_rfl)) (by(apply IQ so;kernel_rfl))
 have rg:=(bC (f:=ba (ae iI)) (as:=[bl (aN (ae iI)) 0]) (p:=ax (ae iI)) (σ:=bh a (xs.map Td) [.a_ recs,.a_ []] (cap+5)) (vf:=wQ) (σ₁:=bh a (xs.map Td) [.a_ recs,.a_ []] (cap+5)) (by kernel_rfl) (by kernel_rfl) (by(apply IQ so;kernel_rfl)) (d0 p1)).trans (pA _ v _ (V6 hv (by decide)))
 obtain⟨es,s',k',sh',hl,hes,lp⟩:=CD n xs recs x (mT v) [] s k (cap+4 - v+1) (a+1) (Ld so) (NS hv ha (dw v));rw[dw]at hl lp;rw[w5 hv]at lp
 exact⟨es,s',k',K5 sh',a+1+2*v,cap+4 - v,⟨hl▸Vc hv,hes⟩,Om hv,NE hv,(bG rfl (Mx n xs recs t s k x so a (cap+5)) (congrArg (λb=>(aa T0 af (n+29)).ex b inF.scope (GT so x s k) (bh a (xs.map Td) [.a_ recs] (cap+5))) LY |>.trans ((aC (MN n xs recs s k x so a (cap+5))).trans ((aC (congrArg (λb=>aA T0 (aa T0 af (n+27)) b inF.scope (sU (Ld so) x s k) (bh a (xs.map Td) [.a_ recs,.a_ []] (cap+5))) NF |>.trans (uj rg lp))).trans (LH n xs recs s' k' x sh' (a+1+2*v) (cap+4 - v) ([]++es.map Ent.d)))))).trans (IX n xs recs l s' k' x sh' (a+1+2*v) a (cap+4 - v) (cap+5) ([]++es.map Ent.d))⟩
theorem ND{a n m:Nat}(h:a+9*(n+1) < m):a < m:=U0 (TX ..) h
theorem NT{a b n m:Nat}(h:a+9*(n+1) < m)(hb:b<=a+9):b+9*n < m:=U0 (Te (Wc hb _) (VN (TY a 9 (9*n)))) h
theorem Og{a b c n:Nat}(hb:b<=a+9)(hc:c<=b+9*n):c<=a+9*(n+1):=Te hc (Te (Wc hb _) (VN (TY a 9 (9*n))))
theorem NJ(c n:Nat):c+5*(n+1)=c+5*n+5:=rfl
theorem Nz{c d n:Nat}(h:c+5*n<=d):d - 5*n+5*n=d:=Uq (Te (Ve ..) h)
theorem C7(l:List SQ):∀ (recs:List SQ) (t s k:SQ) (so:So) (a cap:Nat),a+9*l.length < 800000->X7 λ(rs:List (List Ent)) (t' s' k':SQ) (so':So) (a' dW:Nat)=>A5 (rs.length=l.length) ((∀ r∈rs,ei r)) (a'<=a+9*l.length) (cap<=dW) (lR n (fL l) (Bz so t s k) (bh a (xs.map Td) [.a_ recs] (cap+5*l.length)) = .ok (.next,Bz so' t' s' k') (bh a' (xs.map Td) [.a_ (recs++am rs)] dW)):=by
 induction l with
 | nil=>
  intro recs t s k so a cap ha
  refine⟨[],t,s,k,so,a,cap,rfl,λe h=>absurd h Vn,UG _,UG _,?_⟩
  rw[show recs++am []=recs from U8 _]
  exact bM rfl
 | cons x l ih=>
  intro recs t s k so a cap ha;obtain⟨r,s1,k1,Sx,a1,OH,hr,ha1,hc1,h1⟩:=Ik n xs recs (fL l) t s k x so a (cap+5*l.length) (ND ha);obtain⟨rs,t',s',k',so',a',dW,hl,PT,ha',hc',h2⟩:=ih (recs++[fe r]) x s1 k1 Sx a1 (OH - 5*l.length) (NT ha ha1);rw[Nz hc1]at h2
  refine⟨r::rs,t',s',k',so',a',dW,congrArg Ul hl,Fe hr PT,Og ha1 ha',Te (Uh hc1) hc',?_⟩
  rw[Ug,NJ,show recs++am (r::rs)=recs++[fe r]++am rs from Bh ..]
  exact h1.trans h2
theorem Ju(t s k:SQ)(so:So)(a cap:Nat):(aa T0 af (n+29)).ex [ai inF.body 2] inF.scope (Bz so t s k) (bh a (xs.map Td) [.a_ recs] cap) = .ok (.ret (.ref 2),Bz so t s k) (bh a (xs.map Td) [.a_ recs] cap):=by
 (apply IQ so;kernel_rfl)
theorem M7{v:Nat}(h:v < 4):5*v<=20:=Te (Wm 5 (Vc h)) (by decide)
theorem w4{c v:Nat}(h:v < 4):c+20 - 5*v+5*v=c+20:=o8 (M7 h)
theorem Ok{a v:Nat}(h:v < 4)(ha:a<=1+9*v):a<=100:=by lia
theorem NR{c d v:Nat}(h:v < 4)(hc:c+20 - 5*v<=d):c<=d:=Te (ur (M7 h)) hc
theorem NC{v n:Nat}(h:v < 4)(hn:n=v):1+9*n < 800000:=by lia
theorem yk(cap:Nat):X3 λ(recs:List (List Ent)) (a dW:Nat)=>A5 (recs.length<=3) ((∀ r∈recs,ei r)) (a<=100) (cap<=dW) ((aa T0 af (n+32)).cl (.val (.ref 780)) [.ref 0] (bh 0 (xs.map Td) [] (cap+20)) = .ok (.d (.list (am recs))) (bh a (xs.map Td) [] dW)):=by
 obtain⟨v,hv,p1⟩:=bT (sc:=inF.scope) (le:=Bz .z .none .none .none) (bl (aN (ae iO)) 0) (n+10) 0 xs [.a_ []] (cap+20) (by decide) 3 (by kernel_rfl) (by kernel_rfl) (by kernel_rfl) (by kernel_rfl) (by kernel_rfl)
 have rg:=(bC (f:=ba (ae iO)) (as:=[bl (aN (ae iO)) 0]) (p:=ax (ae iO)) (σ:=bh 0 (xs.map Td) [.a_ []] (cap+20)) (vf:=wQ) (σ₁:=bh 0 (xs.map Td) [.a_ []] (cap+20)) (by kernel_rfl) (by kernel_rfl) (by kernel_rfl) (d0 p1)).trans (pA _ v _ (V6 hv (by decide)))
 obtain⟨rs,t',s',k',so',a',dW,hl,PT,ha',hc',lp⟩:=C7 n xs (mT v) [] .none .none .none .z 1 (cap+20 - 5*v) (NC hv (dw v));rw[dw]at hl ha' lp;rw[w4 hv]at lp
 refine⟨rs,a',dW,hl▸Vc hv,PT,Ok hv ha',NR hv hc',(iY (n:=n+31) (fn:=inF) (l:=[(a8,.ref 0)]) rfl LN (by kernel_rfl) (congrArg (λb=>(aa T0 af (n+31)).ex b inF.scope [(a8,.ref 0)] (bh 0 (xs.map Td) [] (cap+20))) Hv |>.trans ((aC (le':=Bz .z .none .none .none) (σ':=bh 0 (xs.map Td) [.a_ []] (cap+20)) (by kernel_rfl)).trans
  ((aC (congrArg (λb=>aA T0 (aa T0 af (n+29)) b inF.scope (Bz .z .none .none .none) (bh 0 (xs.map Td) [.a_ []] (cap+20))) NP |>.trans (uj rg lp))).trans (Ju n xs ([]++am rs) t' s' k' so' a' dW))))).trans ?_⟩
 kernel_rfl
end
end
section
open PySem
section
variable{T:Tab}{Sp:eR}{n:Nat}{sc:Tz}{le le':LE}{σ σ':VS}
theorem KS{l r:Expr}{op:CmpOp}{p:Vw}{a b:V}{E_:VS}(h1:(aa T Sp n).ev l sc le σ = .ok a σ')(h2:(aa T Sp n).ev r sc le σ' = .ok b E_):(aa T Sp (n+1)).ev (.Compare l [op] [r] p) sc le σ=ag (HD op a b E_) .no λb => .ok (bool b) E_:=by
 show R.bind ((aa T Sp n).ev l sc le σ) _=_
 refine b_ h1 ?_
 show R.bind ((aa T Sp n).ev r sc le σ') _=_
 (refine b_ h2 ?_);rfl
end
noncomputable def OI:Fn:=aI 96
noncomputable def sS(k:Nat):T9:=ai OI.body k
noncomputable def sK:T9:=ai (az (sS 8)) 0
noncomputable def sA:T9:=ai (az (sS 8)) 1
noncomputable def ey(s:T9):Vw:=bQ s
noncomputable def Li(e:Expr):Nat:=(oM e).n
noncomputable def Lm(e:Expr):Vw:=ax e
theorem Kc:T0.fn 787=Zj OI:=by kernel_rfl
theorem D1:OI.body=[sS 0,sS 1]++(OI.body.drop 2):=by kernel_rfl
theorem Je:OI.body.drop 6=[sS 6,sS 7,sS 8,sS 9]:=by kernel_rfl
theorem Mb:sS 0 = .Assign [aq (sS 0)] (.Subscript (ba (ae (sS 0))) (Oz (ae (sS 0))) (ax (ae (sS 0)))) (ey (sS 0)):=by kernel_rfl
theorem LM:sS 1 = .Assign [aq (sS 1)] (ae (sS 1)) (ey (sS 1)):=by kernel_rfl
theorem LB:sS 6 = .Assign [aq (sS 6)] (.Subscript (ba (ae (sS 6))) (Oz (ae (sS 6))) (ax (ae (sS 6)))) (ey (sS 6)):=by kernel_rfl
theorem L9:sS 8 = .For (aq (sS 8)) (.Call (ba (ae (sS 8))) [bl (aN (ae (sS 8))) 0] [] (ax (ae (sS 8)))) [sK,sA] [] (bQ (sS 8)):=by kernel_rfl
theorem L4:sK = .Assign [aq sK] (.Subscript (ba (ae sK)) (Oz (ae sK)) (ax (ae sK))) (ey sK):=by kernel_rfl
noncomputable def Ej:Expr:=ae sA
noncomputable def HE:Expr:=bl (aN Ej) 0
noncomputable def M5:Expr:=bl (aN HE) 0
noncomputable def K0:Expr:=bl (aN HE) 1
noncomputable def M0:Expr:=bl (aN HE) 2
noncomputable def Jt:Expr:=Oz K0
noncomputable def gt(e:Expr):Vw:=ax e
theorem LT:sA = .Expr (.Call (.Attribute (ba (ba Ej)) (Ie (ba Ej)) (ax (ba Ej))) [.Tuple [M5,.Compare (ba K0) [.Eq] [Jt] (gt K0),M0] (Li HE) (Lm HE)] [] (ax Ej)) (ey sA):=by kernel_rfl
noncomputable def uV:Expr:=ae (sS 9)
theorem Mg:sS 9 = .Return (Zj (.Tuple [bl (aN uV) 0,bl (aN uV) 1,bl (aN uV) 2,bl (aN uV) 3,bl (aN uV) 4] (Li uV) (Lm uV))) (ey (sS 9)):=by kernel_rfl
noncomputable def oF(h:Hp):List O:=(h.o (.a_ [])).drop 2
noncomputable def ji(v:Nat):Un:=match v with
 | 1 => .five
 | 2 => .six
 | 3 => .seven
 | _ => .star
noncomputable def J1(v:Nat):Wy:=match v with
 | 0 => .w0
 | 1 => .w1
 | 2 => .w2
 | 3 => .w3
 | 4 => .w4
 | _ => .w5
noncomputable def Nc:O := .a_ [.str ay,.str aY]
noncomputable def Na:O := .a_ [.str fj,.int 5,.int 6,.int 7,.str fj,.str fj]
noncomputable def LJ:O := .a_ [.int 0,.int 0,.int 4]
noncomputable def b0(v:Nat):Bool:=Ue (v % 2) 1
noncomputable def Lf(v:Nat):Bool:=Ue (v / 2 % 2) 1
noncomputable def b2(v:Nat):Bool:=Ue (v / 4) 1
noncomputable def cO(v:Nat):O := .dict (cR (b7 (b0 v) (Lf v) (b2 v)))
noncomputable def D9(isW:Bool):LE:=[(a8,.ref 0),(pP,.d (.str (jh isW)))]
noncomputable def H8(isW:Bool)(v:Nat):LE:=D9 isW++[(DG,.d (.int (Tn v)))]
noncomputable def rt(isW:Bool)(v:Nat):LE:=H8 isW v++[(dZ,.ref 34)]
noncomputable def Kh(isW:Bool)(v:Nat)(u:SQ):LE:=rt isW v++[(jn,.d u),(i0,.ref 35)]
noncomputable def eD(isW:Bool)(v:Nat)(u:SQ)(f:Bool)(t k:SQ):LE:=Kh isW v u++ac f [] [(eB,.d t),(eC,.d k)]
noncomputable def ic(n:Nat)(l:List V)(le:LE)(σ:VS):R (Fl×LE):=aK T0 (aa T0 af (n+25)) (aq (sS 8)) [sK,sA] OI.scope l le σ
noncomputable def σs(h:Hp)(a:Nat)(xs:List Int)(tl:List O)(cap:Nat):VS:=bh a (xs.map Td) (oF h++tl) cap
section
variable(n:Nat)(h:Hp)(xs:List Int)
theorem H6(a cap:Nat)(ha:a < 900000):∃ isW,aA T0 (aa T0 af (n+33)) (sS 0) OI.scope [(a8,.ref 0)] (σs h a xs [] cap) = .ok (.next,D9 isW) (σs h (a+1) xs [] cap):=by
 obtain⟨v,hv,p1⟩:=bT (sc:=OI.scope) (le:=[(a8,.ref 0)]) (Oz (ae (sS 0))) (n+15) a xs (oF h++[]) cap (wO ha) 1 (by kernel_rfl) (by kernel_rfl) (by kernel_rfl) (by kernel_rfl) (by kernel_rfl)
 refine⟨Ue v 1,?_⟩
 refine b_ Mb ?_
 refine(dF (by kernel_rfl) (by kernel_rfl) (mY (by kernel_rfl) (by kernel_rfl:(aa T0 af (n+32)).ev (ba (ae (sS 0))) OI.scope [(a8,.ref 0)] (σs h a xs [] cap) = .ok (.ref 34) (σs h a xs [Nc] cap)) (by kernel_rfl:fZ (ba (ae (sS 0))) (Oz (ae (sS 0))) (len (σs h a xs [] cap).o) (.ref 34) (σs h a xs [Nc] cap) = .ok (.d (.list [.str ay,.str aY])) (bh a (xs.map Td) (oF h++[]) cap)) p1 |>.trans (show _=R.ok (V.d (.str (jh (Ue v 1)))) (σs h (a+1) xs [] cap)from ?_))).trans ?_
 ·apply ME v hv<;>kernel_rfl
 ·kernel_rfl
theorem C1(a cap:Nat)(ha:a < 900000)(isW:Bool):∃ v,v < 8/\aA T0 (aa T0 af (n+32)) (sS 1) OI.scope (D9 isW) (σs h a xs [] cap) = .ok (.next,H8 isW v) (σs h (a+1) xs [] cap):=by
 obtain⟨v,hv,p1⟩:=bT (sc:=OI.scope) (le:=D9 isW) (ae (sS 1)) (n+15) a xs (oF h++[]) cap (wO ha) 7 (by kernel_rfl) (by kernel_rfl) (by kernel_rfl) (by kernel_rfl) (by kernel_rfl)
 refine⟨v,hv,?_⟩
 refine b_ LM ?_
 refine(dF (by kernel_rfl) (by kernel_rfl) p1).trans ?_
 kernel_rfl
theorem JA(a cap:Nat)(isW:Bool)(v:Nat)(hv:v < 8):(aa T0 af (n+32)).ex (OI.body.drop 2) OI.scope (H8 isW v) (σs h a xs [] cap)=(aa T0 af (n+28)).ex (OI.body.drop 6) OI.scope (rt isW v) (σs h a xs [cO v] cap):=by
 apply M9 v hv<;>kernel_rfl
theorem Hb(a cap:Nat)(ha:a < 900000)(isW:Bool)(v:Nat):∃ u,aA T0 (aa T0 af (n+27)) (sS 6) OI.scope (rt isW v) (σs h a xs [cO v] cap) = .ok (.next,rt isW v++[(jn,.d (uD (ji u).st (ji u).z))]) (σs h (a+1) xs [cO v] cap):=by
 obtain⟨u,hv,p1⟩:=bT (sc:=OI.scope) (le:=rt isW v) (Oz (ae (sS 6))) (n+9) a xs (oF h++[cO v]) cap (wO ha) 5 (by kernel_rfl) (by kernel_rfl) (by kernel_rfl) (by kernel_rfl) (by kernel_rfl)
 refine⟨u,?_⟩
 refine b_ LB ?_
 have g1:fZ (ba (ae (sS 6))) (Oz (ae (sS 6))) (len (σs h a xs [cO v] cap).o) (.ref 35) (σs h a xs [cO v,Na] cap) = .ok (.d (.list [.str fj,.int 5,.int 6,.int 7,.str fj,.str fj])) (bh a (xs.map Td) (oF h++[cO v]) cap):=by
  unfold cO
  generalize b0 v=q1
  generalize Lf v=q2
  generalize b2 v=q3
  (apply IN q1 q2 q3;kernel_rfl)
 refine(dF (by kernel_rfl) (by kernel_rfl) (mY (by kernel_rfl) (by kernel_rfl:(aa T0 af (n+26)).ev (ba (ae (sS 6))) OI.scope (rt isW v) (σs h a xs [cO v] cap) = .ok (.ref 35) (σs h a xs [cO v,Na] cap)) g1 p1 |>.trans (show _=R.ok (V.d (uD (ji u).st (ji u).z)) (σs h (a+1) xs [cO v] cap)from ?_))).trans ?_
 ·apply MH u hv<;>kernel_rfl
 ·kernel_rfl
theorem Bp{α:Type}{f g:O->α}(v:Nat)(h:tA (λa=>tA λb=>tA λc=>f (.dict (cR (b7 a b c))))=tB λa=>tB λb=>tB λc=>g (.dict (cR (b7 a b c)))):f (cO v)=g (cO v):=IN (f:=λa b c=>f (.dict (cR (b7 a b c)))) (g:=λa b c=>g (.dict (cR (b7 a b c)))) (b0 v) (Lf v) (b2 v) h
noncomputable def EA(isW:Bool)(v:Nat)(u:SQ)(f:Bool)(x k:SQ):LE:=Kh isW v u++ac f [(eB,.d x)] [(eB,.d x),(eC,.d k)]
theorem MJ(a cap:Nat)(isW:Bool)(v:Nat)(u:SQ)(f:Bool)(t k x:SQ)(its:List SQ):assign T0 (aa T0 af (n+25)) (aq (sS 8)) OI.scope (eD isW v u f t k) (.d x) (σs h a xs [cO v,.a_ its] cap) = .ok (EA isW v u f x k) (σs h a xs [cO v,.a_ its] cap):=by
 (apply bt f;kernel_rfl)
theorem MS(a cap:Nat)(ha:a < 900000)(isW:Bool)(v:Nat)(u:SQ)(f:Bool)(k x:SQ)(its:List SQ):∃ k4,aA T0 (aa T0 af (n+24)) sK OI.scope (EA isW v u f x k) (σs h a xs [cO v,.a_ its] cap) = .ok (.next,eD isW v u Zn x (kd k4)) (σs h (a+1) xs [cO v,.a_ its] cap):=by
 obtain⟨q,hq,p1⟩:=bT (sc:=OI.scope) (le:=EA isW v u f x k) (Oz (ae sK)) (n+6) a xs (oF h++[cO v,.a_ its]) cap (wO ha) 2 (by kernel_rfl) (by kernel_rfl) (by kernel_rfl) (by(apply bt f;kernel_rfl)) (by(apply bt f;kernel_rfl))
 refine⟨Lh q,?_⟩
 rw[L4];have g1:fZ (ba (ae sK)) (Oz (ae sK)) (len (σs h a xs [cO v,.a_ its] cap).o) (.ref 36) (σs h a xs [cO v,.a_ its,LJ] cap) = .ok (.d (.list [.int 0,.int 0,.int 4])) (bh a (xs.map Td) (oF h++[cO v,.a_ its]) cap):=
  Bp (f:=λo=>fZ (ba (ae sK)) (Oz (ae sK)) (len (σs h a xs [o,.a_ its] cap).o) (.ref 36) (σs h a xs [o,.a_ its,LJ] cap)) (g:=λo => .ok (.d (.list [.int 0,.int 0,.int 4])) (bh a (xs.map Td) (oF h++[o,.a_ its]) cap)) v (by kernel_rfl)
 have e:=(mY (p:=ax (ae sK)) (by kernel_rfl) (by(apply bt f;kernel_rfl):(aa T0 af (n+23)).ev (ba (ae sK)) OI.scope (EA isW v u f x k) (σs h a xs [cO v,.a_ its] cap) = .ok (.ref 36) (σs h a xs [cO v,.a_ its,LJ] cap)) g1 p1).trans
  (sB (P:=λq=>getItem (.d (.list [.int 0,.int 0,.int 4])) (.d (.int (Tn q))) (σs h (a+1) xs [cO v,.a_ its] cap)=R.ok (V.d (kd (Lh q))) (σs h (a+1) xs [cO v,.a_ its] cap)) q hq (by kernel_rfl) (by kernel_rfl) (by kernel_rfl))
 refine(dF (by kernel_rfl) (by kernel_rfl) e).trans ?_
 (apply bt f;kernel_rfl)
theorem Me(a cap:Nat)(ha:a < 900001)(isW:Bool)(v:Nat)(u:SQ)(k4:Bool)(x:SQ)(its:List SQ):∃ i:q_,aA T0 (aa T0 af (n+23)) sA OI.scope (eD isW v u Zn x (kd k4)) (σs h a xs [cO v,.a_ its] (cap+1)) = .ok (.next,eD isW v u Zn x (kd k4)) (σs h (a+2) xs [cO v,.a_ (its++[i.d])] cap):=by
 obtain⟨w,hw,p2⟩:=bT (sc:=OI.scope) (le:=eD isW v u Zn x (kd k4)) (ba K0) n a xs (oF h++[cO v,.a_ its]) (cap+1) (V6 ha (by decide)) 1 (by kernel_rfl) (by kernel_rfl) (by kernel_rfl) (by kernel_rfl) (by kernel_rfl)
 obtain⟨y,hy,p3⟩:=bT (sc:=OI.scope) (le:=eD isW v u Zn x (kd k4)) M0 n (a+1) xs (oF h++[cO v,.a_ its]) (cap+1) (U0 ha (by decide)) 6 (by kernel_rfl) (by kernel_rfl) (by kernel_rfl) (by kernel_rfl) (by kernel_rfl)
 refine⟨⟨k4,Ue w 1,Tn y⟩,?_⟩
 rw[LT];exact sH (by kernel_rfl) ((sN (o:=ba (ba Ej)) (m:=Ie (ba Ej)) (p:=ax (ba Ej)) (p':=ax Ej) (vo := .ref 35) (k := .app) (by kernel_rfl) (by kernel_rfl) (by kernel_rfl) (by kernel_rfl) (by kernel_rfl) (d0 ((Ad (c:=Li HE) (p:=Lm HE) (eS (e:=M5) (σ:=σs h a xs [cO v,.a_ its] (cap+1)) (v := .d (kd k4)) (by kernel_rfl) (eS ((KS (op := .Eq) (r:=Jt) (p:=gt K0) (b := .d (.int 1)) (E_:=σs h (a+1) xs [cO v,.a_ its] (cap+1)) p2 (by kernel_rfl)).trans (show _=R.ok (V.d (.bool (Ue w 1))) (σs h (a+1) xs [cO v,.a_ its] (cap+1))by kernel_rfl) :) (d0 p3)) :)).trans (show _=R.ok (V.d (mP k4 (Ue w 1) (Tn y))) (σs h (a+2) xs [cO v,.a_ its] (cap+1))by kernel_rfl) :)) :).trans (show _=R.ok (V.d .none) (σs h (a+2) xs [cO v,.a_ (its++[mP k4 (Ue w 1) (Tn y)])] cap)by kernel_rfl))
theorem K9(a a0 cap Ps:Nat)(isW:Bool)(v:Nat)(u:SQ)(k x:SQ)(its:List SQ)(i:SQ)(l:List V):aT OI.scope (len (σs h a0 xs [cO v,.a_ its] Ps).o) (ic n l) (.ok (.next,eD isW v u Zn x k) (σs h a xs [cO v,.a_ (its++[i])] cap))=ic n l (eD isW v u Zn x k) (σs h a xs [cO v,.a_ (its++[i])] cap):=
 Bp (f:=λo=>aT OI.scope (len (σs h a0 xs [cO v,.a_ its] Ps).o) (ic n l) (.ok (.next,eD isW v u Zn x k) (σs h a xs [o,.a_ (its++[i])] cap))) (g:=λo=>ic n l (eD isW v u Zn x k) (σs h a xs [o,.a_ (its++[i])] cap)) v (by kernel_rfl)
theorem GF(a cap:Nat)(ha:a < 900000)(isW:Bool)(v:Nat)(u:SQ)(f:Bool)(t k x:SQ)(its:List SQ)(l:List V):X2 λ(i:q_) (k':SQ)=>ic n (.d x::l) (eD isW v u f t k) (σs h a xs [cO v,.a_ its] (cap+1))=ic n l (eD isW v u Zn x k') (σs h (a+3) xs [cO v,.a_ (its++[i.d])] cap):=by
 obtain⟨k4,e1⟩:=MS n h xs a (cap+1) ha isW v u f k x its;obtain⟨i,e2⟩:=Me n h xs (a+1) cap (U0 ha (by decide)) isW v u k4 x its
 exact⟨i,kd k4,(bG rfl (MJ n h xs a (cap+1) isW v u f t k x its) ((aC e1).trans ((aC e2).trans iU))).trans (K9 n h xs (a+3) a cap (cap+1) isW v u (kd k4) x its i.d l)⟩
theorem Nr{a n m:Nat}(h:a+3*(n+1) < m):a+3+3*n < m:=TY a (3*n) 3▸h
theorem Nt{a n m:Nat}(h:a+3*(n+1) < m):a < m:=U0 (TX ..) h
theorem NX(a n:Nat):a+3*(n+1)=a+3+3*n:=TY a (3*n) 3
theorem CP(isW:Bool)(v:Nat)(u:SQ)(l:List SQ):∀ (its:List SQ) (a cap:Nat) (f:Bool) (t k:SQ),a+3*l.length < 900000->X4 λ(is:List q_) (f':Bool) (t' k':SQ)=>is.length=l.length /\
  ic n (fL l) (eD isW v u f t k) (σs h a xs [cO v,.a_ its] (cap+l.length)) = .ok (.next,eD isW v u f' t' k') (σs h (a+3*l.length) xs [cO v,.a_ (its++is.map q_.d)] cap):=by
 induction l with
 | nil=>
  intro its a cap f t k ha
  refine⟨[],f,t,k,rfl,?_⟩
  rw[show its++List.map q_.d []=its from U8 _]
  exact bM rfl
 | cons x l ih=>
  intro its a cap f t k ha;obtain⟨i,k1,h1⟩:=GF n h xs a (cap+l.length) (Nt ha) isW v u f t k x its (fL l);obtain⟨is,f',t',k',hl,h2⟩:=ih (its++[i.d]) (a+3) cap Zn x k1 (Nr ha)
  refine⟨i::is,f',t',k',congrArg Ul hl,?_⟩
  rw[Ug,NX,Bh];exact h1.trans h2
theorem v3{c v:Nat}(h:v < 4):c+3 - v+v=c+3:=o8 (Vc h)
theorem Oc{c v:Nat}(h:v < 4):c<=c+3 - v:=ur (Vc h)
theorem NZ{a v:Nat}(h:v < 4)(ha:a < 850000):a+1+3*v < 900000:=by lia
theorem N2{a v:Nat}(h:v < 4):a+1+3*v<=a+10:=Vb (Wm 3 (Vc h)) (a+1)
theorem N4{a:Nat}(ha:a < 800000):a+1+1 < 900000:=by lia
theorem Oh{a:Nat}(ha:a < 800000):a+1+1+1 < 850000:=by lia
theorem NL{a b:Nat}(ha:a < 800000)(h:b<=a+1+1+1+10):b < 1000000:=by lia
theorem On{a b:Nat}(h:b<=a+1+1+1+10):b+1<=a+20:=by lia
theorem EG(isW:Bool)(v:Nat)(u:SQ)(a cap:Nat)(ha:a < 850000):X6 λ(is:List q_) (f':Bool) (t' k':SQ) (a' dW:Nat)=>A4 (is.length<=3) (a'<=a+10) (cap<=dW) (aA T0 (aa T0 af (n+25)) (sS 8) OI.scope (eD isW v u Zm .none .none) (σs h a xs [cO v,.a_ []] (cap+3)) = .ok (.next,eD isW v u f' t' k') (σs h a' xs [cO v,.a_ ([]++is.map q_.d)] dW)):=by
 obtain⟨r,hr,p1⟩:=bT (sc:=OI.scope) (le:=eD isW v u Zm .none .none) (bl (aN (ae (sS 8))) 0) (n+6) a xs (oF h++[cO v,.a_ []]) (cap+3) (V6 ha (by decide)) 3 (by kernel_rfl) (by kernel_rfl) (by kernel_rfl) (by kernel_rfl) (by kernel_rfl)
 have rg:=(bC (f:=ba (ae (sS 8))) (as:=[bl (aN (ae (sS 8))) 0]) (p:=ax (ae (sS 8))) (σ:=σs h a xs [cO v,.a_ []] (cap+3)) (vf:=wQ) (σ₁:=σs h a xs [cO v,.a_ []] (cap+3)) (by kernel_rfl) (by kernel_rfl) (by kernel_rfl) (d0 p1)).trans (pA _ r _ (V6 hr (by decide)))
 obtain⟨is,f',t',k',hl,lp⟩:=CP n h xs isW v u (mT r) [] (a+1) (cap+3 - r) Zm .none .none (by rw[dw];exact NZ hr ha)
 rw[dw]at hl lp;rw[v3 hr]at lp
 exact⟨is,f',t',k',a+1+3*r,cap+3 - r,hl▸Vc hr,N2 hr,Oc hr,congrArg (λb=>aA T0 (aa T0 af (n+25)) b OI.scope (eD isW v u Zm .none .none) (σs h a xs [cO v,.a_ []] (cap+3))) L9 |>.trans (uj rg lp)⟩
theorem GV(isW:Bool)(v:Nat)(u:SQ)(f:Bool)(t k:SQ)(its:List SQ)(a cap:Nat)(ha:a < 1000000):∃ y:Nat,y < 6/\(aa T0 af (n+25)).ex [sS 9] OI.scope (eD isW v u f t k) (σs h a xs [cO v,.a_ its] cap) = .ok (.ret (.tup [.d (.str (jh isW)),.ref 34,.d (.int (Tn y)),.d u,.ref 35]),eD isW v u f t k) (σs h (a+1) xs [cO v,.a_ its] cap):=by
 obtain⟨y,hy,p9⟩:=bT (sc:=OI.scope) (le:=eD isW v u f t k) (bl (aN uV) 2) (n+3) a xs (oF h++[cO v,.a_ its]) cap ha 5 (by kernel_rfl) (by kernel_rfl) (by kernel_rfl) (by kernel_rfl) (by kernel_rfl)
 refine⟨y,hy,?_⟩
 rw[Mg];exact gh (wo ((Ad (c:=Li uV) (p:=Lm uV) (eS (e:=bl (aN uV) 0) (v := .d (.str (jh isW))) (σ:=σs h a xs [cO v,.a_ its] cap) (by kernel_rfl) (eS (e:=bl (aN uV) 1) (v := .ref 34) (σ:=σs h a xs [cO v,.a_ its] cap) (by kernel_rfl) (eS (r:=[bl (aN uV) 3,bl (aN uV) 4]) (vs:=[.d u,.ref 35]) (E_:=σs h (a+1) xs [cO v,.a_ its] cap) p9 (by kernel_rfl) :)) :)).trans (show _=R.ok (V.tup [.d (.str (jh isW)),.ref 34,.d (.int (Tn y)),.d u,.ref 35]) (σs h (a+1) xs [cO v,.a_ its] cap)by kernel_rfl) :))
theorem MF{y:Nat}(hy:y < 6):(J1 y).z=Tn y:=by
 apply MH y hy<;>rfl
theorem CT(a cap:Nat)(ha:a < 800000):X8 λ(isW io en er:Bool) (w:Wy) (uu:Un) (is:List q_) (a':Nat)=>A3 (is.length<=3) (a'<=a+20) (∃ dW,cap<=dW/\(aa T0 af (n+35)).cl (.val (.ref 787)) [.ref 0] (σs h a xs [] (cap+3)) = .ok (.d (a9 isW io en er w uu.st uu.z is)) (σs h a' xs [] dW)):=by
 obtain⟨isW,e0⟩:=H6 n h xs a (cap+3) (V6 ha (by decide))
 obtain⟨v,hv,e1⟩:=C1 n h xs (a+1) (cap+3) (U0 ha (by decide)) isW
 obtain⟨u,e6⟩:=Hb n h xs (a+1+1) (cap+3) (N4 ha) isW v;obtain⟨is,f',t',k',a',dW,hl,ha',hc',e8⟩:=EG n h xs isW v (uD (ji u).st (ji u).z) (a+1+1+1) cap (Oh ha);obtain⟨y,hy,e9⟩:=GV n h xs isW v (uD (ji u).st (ji u).z) f' t' k' ([]++is.map q_.d) a' dW (NL ha ha')
 refine⟨isW,b0 v,Lf v,b2 v,J1 y,ji u,is,a'+1,hl,On ha',dW,hc',(iY (n:=n+34) (fn:=OI) (l:=[(a8,.ref 0)]) rfl Kc (by kernel_rfl) (congrArg (λb=>(aa T0 af (n+34)).ex b OI.scope [(a8,.ref 0)] (σs h a xs [] (cap+3))) D1 |>.trans ((aC e0).trans ((aC e1).trans ((JA n h xs (a+1+1) (cap+3) isW v hv :).trans
  (congrArg (λb=>(aa T0 af (n+28)).ex b OI.scope (rt isW v) (σs h (a+1+1) xs [cO v] (cap+3))) Je |>.trans ((aC e6).trans ((aC (by kernel_rfl:aA T0 (aa T0 af (n+26)) (sS 7) OI.scope (rt isW v++[(jn,.d (uD (ji u).st (ji u).z))]) (σs h (a+1+1+1) xs [cO v] (cap+3)) = .ok (.next,eD isW v (uD (ji u).st (ji u).z) Zm .none .none) (σs h (a+1+1+1) xs [cO v,.a_ []] (cap+3)))).trans ((aC e8).trans e9))))))))).trans ?_⟩
 unfold a9;rw[MF hy]
 apply M9 v hv<;>kernel_rfl
end
end
section
open PySem
noncomputable def I2(i:Int):Bool:=Wk (.int i)&&V0 13 (.int i)&&U9 (Yq (.int i)) 1000
theorem Ca:(List.range 201).all (λk=>I2 (Tn k - 100))=Zm:=by kernel_rfl
theorem lC{i:Int}(h:fp i):Wk (.int i)=Zm/\V0 13 (.int i)=Zm/\Yq (.int i)<=1000:=by
 obtain⟨k,hk⟩:∃ k:Nat,i=Tn k - 100:=⟨(i+100).toNat,by have:=h.1;simp only[Yp];lia⟩
 have:=Xw.mp Ca k (List.mem_range.mpr (by have:=h.2;rw[hk]at this;simp only[Yp]at this;lia:k < 201))
 rw[<- hk]at this;unfold I2 at this;rw[WT,WT]at this
 exact⟨this.1.1,this.1.2,Tw this.2⟩
structure G_ (c:n_):Prop where
 h0:fp c.c0
 h1:fp c.c1
 h2:fp c.c2
 h5:fp c.c5
 hl:fp c.d_
theorem Bu{c:n_}(h:G_ c):qw c.cells=Zm:=by
 have a0:=lC h.h0
 have a1:=lC h.h1
 have a2:=lC h.h2
 have a5:=lC h.h5
 have al:=lC h.hl
 have hw:∀ b:Bool,Yq (.bool b)<=1000:=λb=>by cases b<;>exact Tw (by kernel_rfl)
 have w3:=hw c.b3
 have w4:=hw c.b4
 have l1:W2 (.list c.cells)=Zm:=by
  unfold W2 n_.cells
  simp only[Vi,VK,V9,V4,Yz,Bool.true_and,Bool.and_true,WT,decide_eq_true_eq]
  refine⟨by simp,?_⟩
  simp only[Yq,SQ.weightAll]at *
  omega
 have l2:V0 13 (.list c.cells)=Zm:=by
  unfold n_.cells
  simp only[V0,SQ.intsShortAll,Bool.and_true,Bool.true_and]at *
  simp only[a0.2.1,a1.2.1,a2.2.1,a5.2.1,al.2.1,decide_true,Yz]
 have l3:Wk (.list c.cells)=Zm:=by
  unfold n_.cells
  simp only[Wk,SQ.showableAll,Bool.and_true,Bool.true_and]at *
  simp only[a0.1,a1.1,a2.1,a5.1,al.1,decide_true,Yz]
 unfold qw
 (refine b_ l1 ?_;refine b_ l2 ?_;refine b_ l3 ?_);rfl
theorem tM:∀ x:Tq,aw x x=Zm:=by
 intro x;exact g_.mpr rfl
end
section
open PySem
structure Inv (recs:List (List Ent)) (c:n_) (seen:List SQ) (k:Nat) (t_:List SQ):Prop where
 Qj:G_ c
 sn:∀ x∈seen,mD 0 x
 ou:∀ x∈t_,mD 2 x
 kl:k<=recs.length
theorem HO{c:n_}{s:Nat}{e:Ent}(h:G_ c)(he:gV e):G_ (c.put s e):=by
 obtain⟨h0,h1,h2,h5,hl⟩:=h;have h:G_ c:=⟨h0,h1,h2,h5,hl⟩
 cases e with
 | i v=>
  show G_ (mS { c with c0:=v } { c with c1:=v } { c with c2:=v } c c c s)
  refine qO (P:=G_) ?_ ?_ ?_ h h h s
  ·exact⟨he,h1,h2,h5,hl⟩
  ·exact⟨h0,he,h2,h5,hl⟩
  ·exact⟨h0,h1,he,h5,hl⟩
 | b v=>
  show G_ (mS c c c { c with b3:=v } { c with b4:=v } c s)
  refine qO (P:=G_) h h h ?_ ?_ h s
  ·exact⟨h0,h1,h2,h5,hl⟩
  ·exact⟨h0,h1,h2,h5,hl⟩
theorem JE{c:n_}{io:Bool}{code:Int}(h:G_ c)(he:fp code):G_ (c.st io code):=by
 obtain⟨h0,h1,h2,h5,hl⟩:=h;cases io
 ·exact⟨h0,h1,h2,h5,hl⟩
 ·exact⟨h0,h1,h2,he,hl⟩
theorem xe(k4:Bool)(ss:List Nat):∀ (r r':List Ent) (c c':n_) (b:Bool),cj k4 ss r c=(b,r',c')->G_ c->(∀ e∈r,gV e)->G_ c'/\∀ e∈r',gV e:=by
 induction ss with
 | nil=>intro r r' c c' b e hc hr;cases e;exact⟨hc,hr⟩
 | cons s ss ih=>
  intro r r' c c' b e hc hr;cases r with
  | nil=>cases e;exact⟨hc,hr⟩
  | cons x r=>
   cases hm:pV k4 x with
   | true=>rw[lW hm]at e;cases e;exact⟨hc,hr⟩
   | false=>rw[k9 hm]at e;exact ih r r' _ c' b e (HO hc (hr x (.head _))) λe he=>hr e (.tail _ he)
theorem t7(is:List q_):∀ (rec:List Ent) (c:n_),G_ c->(∀ e∈rec,gV e)->G_ (reads is rec c).2.2:=by
 induction is with
 | nil=>exact λ_ _ hc _=>hc
 | cons i is ih=>
  intro rec c hc hr;cases e:cj i.k4 (bj i.k4 i.wh) rec c with
  | mk b1 z=>
   obtain⟨r',c2⟩:=z;obtain⟨t1,t2⟩:=xe _ _ _ _ _ _ _ e hc hr;cases b1 with
   | false=>rw[iv e];exact t1
   | true=>rw[jf e];exact ih r' c2 t1 t2
theorem x9(is:List q_)(rec:List Ent)(c c':n_)(j:Nat)(b:Bool)(h:reads is rec c=(j,b,c'))(hc:G_ c)(hr:∀ e∈rec,gV e):G_ c':=by
 have q:=t7 is rec c hc hr
 rw[h]at q;exact q
theorem Cb{k:Nat}{xs:List SQ}(h:∀ x∈xs,mD k x):mD (k+1) (.tuple xs):=by
 have q:=ph h
 have q2:=q.2
 refine⟨?_,?_⟩
 ·simpa only[Vi]using q.1
 ·simp only[V9];exact Wc q2 1
theorem gI(i:Int):mD 0 (.int i):=⟨by simp only[Vi],by simp only[V9];exact U4 0⟩
theorem qJ(i:Bool):mD 0 (.bool i):=⟨by simp only[Vi],by simp only[V9];exact U4 0⟩
theorem jg{a b:SQ}(ha:mD 0 a)(hb:mD 0 b):mD 1 (.tuple [a,b]):=Cb λx hx=>by
 rcases Ub.mp hx with rfl|hx
 ·exact ha
 ·rcases Ub.mp hx with rfl|hx
  ·exact hb
  ·cases hx
theorem zx(c:n_)(i:q_):∀ x∈ju c i,mD 1 x:=by
 obtain⟨k4,wh,x⟩:=i;have lv:∀ k4,mD 0 (uI k4 x):=λk4=>by
  cases k4
  ·exact gI _
  ·exact qJ _
 intro y hy;cases k4<;>cases wh<;>simp only[ju,Ub,Vn,or_false]at hy
 ·subst hy;exact jg (gI _) (lv _)
 ·rcases hy with rfl|rfl|rfl<;>exact jg (gI _) (gI _)
 ·subst hy;exact jg (gI _) (lv _)
 ·rcases hy with rfl|rfl<;>exact jg (gI _) (qJ _)
theorem k7(c:n_):∀ (is:List q_),∀ x∈cb c is,mD 1 x
 | [],x,hx=>by cases hx
 | i::is,x,hx=>by
  rcases Ws.mp (show x∈ju c i++cb c is from hx)with h|h
  ·exact zx c i x h
  ·exact k7 c is x h
theorem uZ{w:Wy}{l:OO}{f:Tq}(h:cC w l=Zj f):mD 0 (.str f):=by
 cases w
 case w2=>cases l<;>first|(cases h;exact⟨by kernel_rfl,Tw (by kernel_rfl)⟩)|cases h
 case w3=>cases l<;>first|(cases h;exact⟨by kernel_rfl,Tw (by kernel_rfl)⟩)|cases h
 all_goals (cases h;exact⟨by kernel_rfl,Tw (by kernel_rfl)⟩)
theorem lU{α:Type}{P:α->Prop}{l:List α}{a:α}(h:∀ x∈l,P x)(ha:P a):∀ x∈l++[a],P x:=λx hx=>by
 rcases Ws.mp hx with q|q
 ·exact h x q
 ·rcases Ub.mp q with rfl|q
  ·exact ha
  ·cases q
theorem GZ:fp 7:=by constructor<;>decide
theorem Ee:fp 11:=by constructor<;>decide
theorem Iq:fp (-1):=by constructor<;>decide
theorem kY{isEnd io en er:Bool}{code:Int}{k:Tc}{pre:List SQ}{c:n_}{seen t_:List SQ}{B':Nat}{recs:List (List Ent)}(h:Inv recs c seen B' t_)(hs:fp code)(p:OC)(hp:jC isEnd io en er code k pre c seen B' t_=p):Inv recs p.c p.seen p.B' p.t_:=by
 subst hp;unfold jC;cases cP isEnd io en er with
 | none=>exact h
 | some w=>exact⟨JE h.Qj hs,h.sn,h.ou,h.kl⟩
theorem wc{isW io en er:Bool}{w:Wy}{l:OO}{uu:Un}{is:List q_}{c:n_}{seen:List SQ}{recs:List (List Ent)}{k:Nat}{t_:List SQ}(hr:∀ r∈recs,ei r)(h:Inv recs c seen k t_) :
  let p:=wB isW io en er w l uu is c seen recs k t_
  Inv recs p.c p.seen p.B' p.t_:=by
 unfold wB;cases hf:cC w l with
 | none=>exact h
 | some f=>
  dsimp only;have h1:∀ {c':n_} {k':Nat},G_ c'->k'<=recs.length->Inv recs c' (seen++[.str f]) k' t_:=λhc hk=>⟨hc,lU h.sn (uZ hf),h.ou,hk⟩
  cases uu.std isW with
  | false=>exact kY h Ee _ rfl
  | true=>
   dsimp only;cases isW with
   | true=>exact⟨h.Qj,lU h.sn (uZ hf),lU h.ou (i7 (k7 c is)),h.kl⟩
   | false=>
    cases hd:recs.drop k with
    | nil=>exact kY (h1 h.Qj h.kl) Iq _ rfl
    | cons rec post=>
     dsimp only;have hlt:k < recs.length:=by
      rcases Nat.lt_or_ge k recs.length with h|h
      ·exact h
      ·rw[Yl.mpr h]at hd;cases hd
     have hmem:rec∈recs:=by
      have:rec∈recs.drop k:=by(refine b_ hd ?_);exact .head _
      exact W3 this
     cases hz:reads is rec c with
     | mk j z=>
      obtain⟨b,c'⟩:=z;have hc':=x9 is rec c c' j b hz h.Qj (hr rec hmem).2
      cases b with
      | true=>exact h1 hc' hlt
      | false=>exact kY (h1 hc' hlt) GZ _ rfl
def Pa.OK(o:Pa):Prop:=match o with
 | .ok _=>True
 | .exc k _=>k=89\/k=70\/k=51
theorem Pa.OK.of{o:Pa}(h:o.OK)(k:Tc)(code:Int)(e:o = .exc k code):k=89\/k=70\/k=51:=by
 rw[e]at h;exact h
theorem lH(isEnd io en er:Bool)(code:Int){k:Tc}(pre:List SQ)(c:n_)(seen t_:List SQ)(B':Nat)(hk:k=89\/k=70\/k=51):(jC isEnd io en er code k pre c seen B' t_).out.OK:=by
 unfold jC;cases cP isEnd io en er with
 | none=>exact hk
 | some w=>trivial
theorem zH(isW io en er:Bool)(w:Wy)(l:OO)(uu:Un)(is:List q_)(c:n_)(seen:List SQ)(recs:List (List Ent))(k:Nat)(t_:List SQ):(wB isW io en er w l uu is c seen recs k t_).out.OK:=by
 unfold wB;cases cC w l with
 | none=>exact .inr (.inr rfl)
 | some f=>
  dsimp only;cases uu.std isW with
  | false=>exact lH _ _ _ _ _ _ _ _ _ _ (.inr (.inl rfl))
  | true=>
   cases isW with
   | true=>trivial
   | false=>
    cases recs.drop k with
    | nil=>exact lH _ _ _ _ _ _ _ _ _ _ (.inl rfl)
    | cons rec post=>
     dsimp only
     generalize reads is rec c=z
     obtain⟨j,b,c'⟩:=z;cases b with
     | true=>trivial
     | false=>exact lH _ _ _ _ _ _ _ _ _ _ (.inr (.inl rfl))
theorem wA{isW io en er:Bool}{w:Wy}{l:OO}{uu:Un}{is:List q_}{c:n_}{seen:List SQ}{recs:List (List Ent)}{k:Nat}{t_:List SQ} :
  ∀ k' code,(wB isW io en er w l uu is c seen recs k t_).out = .exc k' code->k'=89\/k'=70\/k'=51:=(zH ..).of
theorem zw{k:Nat}{xs:List SQ}(h:∀ x∈xs,mD k x)(hk:k < 100):D8 (.list xs) (.list xs)=Zj Zm:=by
 have l:=i7 h
 show qP (.list xs) (.list xs)=Zj Zm
 unfold qP;refine b_ (B1 l hk) ?_
 exact congrArg Zj (PySem.SeqAt.eqv_refl _ l.1)
end
section
open PySem
section
variable{T:Tab}{Sp:eR}{n:Nat}{sc:Tz}{le le':LE}{σ σ':VS}
theorem z7{elt it:Expr}{gs:List Vh}{h_:Tz}{p:Vw}{x:Tq}{xs:List SQ}{E_:VS}(h1:pj gs=Zj (x,it,[]))(h2:cI h_=Zm)(h3:ib x le h_.names=Zm)(h4:d8 sc.names le h_.names=Zm)
  (h5:(aa T Sp n).ev it sc le σ = .ok (.d (.list xs)) σ) (hx:σ.x=Zk) (h6:ah h_.names x=Zj .local) (h7:aZ (aa T Sp n) elt x [] h_ le (len σ.o) (fL xs) ⟨σ.o++[.a_ []],σ.x,σ.cap⟩ = .ok () E_) :
  (aa T Sp (n+1)).ev (.ListComp elt gs h_ p) sc le σ = .ok (.ref (len σ.o)) E_:=by
 show ag (pj gs) _ _=_
 refine b_ h1 ?_
 show ac (hU [cI h_,ib x le h_.names,d8 sc.names le h_.names,mL (ah h_.names x)]) (R.bind ((aa T Sp n).ev it sc le σ) _) _=_
 refine b_ h2 ?_;refine b_ h3 ?_;refine b_ h4 ?_;refine b_ h6 ?_;refine b_ h5 ?_
 show calm σ _=_
 unfold calm;rw[hx]at h7 ⊢
 show vA (aZ (aa T Sp n) elt x [] h_ le (len σ.o) (fL xs) ⟨σ.o++[.a_ []],σ.x,σ.cap⟩) _=_
 (refine b_ hx ?_;refine b_ h7 ?_);rfl
theorem Dg{k1 k2 v1 v2:Expr}{p:Vw}{a1 a2:SQ}{w1 w2:V}{σ1 σ2:VS}(hk1:(aa T Sp n).ev k1 sc le ⟨σ.o++[.dict []],σ.x,σ.cap⟩ = .ok (.d a1) ⟨σ.o++[.dict []],σ.x,σ.cap⟩)(hv1:(aa T Sp n).ev v1 sc le ⟨σ.o++[.dict []],σ.x,σ.cap⟩ = .ok w1 σ1)
  (hk2:(aa T Sp n).ev k2 sc le σ1 = .ok (.d a2) σ1) (hv2:(aa T Sp n).ev v2 sc le σ1 = .ok w2 σ2) :
  (aa T Sp (n+1)).ev (.Dict [Zj k1,Zj k2] [v1,v2] p) sc le σ=ac (b8 16 [Zj k1,Zj k2] [v1,v2]) (R.bind ((tO a2 w2 [] σ2).bind λr s=>tO a1 w1 r s) λkvs s₂=>ac (pO s₂ (len σ.o)) (ac (be gu kvs) (.ok (.ref (len σ.o)) (s₂.put (len σ.o) (.dict kvs))) .no) .no) .no:=by
 show ac (b8 16 [Zj k1,Zj k2] [v1,v2]) ((R.bind ((aa T Sp n).ev k1 sc le ⟨σ.o++[.dict []],σ.x,σ.cap⟩) _).bind _) R.no=_
 refine b_ hk1 ?_
 show ac (b8 16 [Zj k1,Zj k2] [v1,v2]) ((R.bind ((aa T Sp n).ev v1 sc le ⟨σ.o++[.dict []],σ.x,σ.cap⟩) _).bind _) R.no=_
 refine b_ hv1 ?_
 show ac (b8 16 [Zj k1,Zj k2] [v1,v2]) ((R.bind (R.bind ((aa T Sp n).ev k2 sc le σ1) _) _).bind _) R.no=_
 refine b_ hk2 ?_
 show ac (b8 16 [Zj k1,Zj k2] [v1,v2]) ((R.bind (R.bind ((aa T Sp n).ev v2 sc le σ1) _) _).bind _) R.no=_
 refine b_ hv2 ?_
 rfl
end
noncomputable def mF:Fn:=aI 102
noncomputable def mW:T9:=ai mF.body 5
noncomputable def Gu:Expr:=ae mW
noncomputable def xB:Expr:=bl (aN Gu) 0
noncomputable def Gi(e:Expr):Expr:=ba e
noncomputable def K8(e:Expr):List Vh:=(oM e).gs
noncomputable def FV(e:Expr):Tz:=(oM e).sc
noncomputable def Lg(e:Expr):Vw:=ax e
noncomputable def M6(e:Expr):Expr:=match K8 e with
 | g::_=>g.iter
 | _=>xq
theorem L8:T0.fn 825=Zj mF:=by kernel_rfl
theorem MU:mF.body.drop 5=mW::mF.body.drop 6:=by kernel_rfl
theorem N5:mW = .Assign [aq mW] (.Call (ba Gu) [.ListComp (Gi xB) (K8 xB) (FV xB) (Lg xB),bl (aN Gu) 1] [] (ax Gu)) (ey mW):=by kernel_rfl
noncomputable def A1(b:Bool)(c:n_):List SQ:=[.tuple [.int 0,.int c.c0],.tuple [.int 0,.int c.c1],.tuple [.int 0,.int c.c2],.tuple [.int 4,.bool c.b3],.tuple [.int 4,.bool c.b4],.tuple [.int 0,.int c.c5],.tuple [ac b (.int 7) (.int 0),.int c.d_]]
noncomputable def OQ:n_:=⟨0,1,2,Zn,Zm,5,6⟩
noncomputable def KA(o:O):O:=@O.casesOn (λ_=>O) o (λ_=>o) (λ_=>o) (λ_=>o) (λc fs => .inst c (aR fs fz (.d .none))) (λ_ _ _ _=>o) o
noncomputable def MD(l:List O):List O:=ag (f9 l 12) l λo=>bb l 12 (KA o)
noncomputable def w9(a:Nat)(xs:List SQ):List O:=MD ((EU (Tn a) xs [] [] (A1 Zn OQ) (.a_ []) [] 0 [] [] []).take 23)
noncomputable def N7:Tq:=⟨⟨[107]⟩⟩
noncomputable def FP(rr:SQ):LE:=[(bN,.d rr),(jl,.ref 2),(BA,.ref 4),(N7,.d (.int 6)),(bB,.ref 12)]
noncomputable def H0(a:Nat)(xs:List SQ)(rs:List (List Ent)):Hp:=⟨Tn a,xs,[],[],A1 Zn OQ,am rs,0,[],am rs,[],OQ.cells⟩
noncomputable def wg(a:Nat)(xs:List SQ)(inp:List SQ):List O:=(EU (Tn a) xs [] [] (A1 Zn OQ) (.a_ []) inp 0 [] [] []).take 30
section
variable(a cap:Nat)(xs:List SQ)
theorem Op(rr:SQ):(aa T0 af 78).ex mF.body mF.scope [(bN,.d rr),(jl,.ref 2)] (bh a xs [.a_ [],.a_ []] cap)=(aa T0 af 73).ex (mF.body.drop 5) mF.scope (FP rr) ⟨w9 a xs,Zk,cap⟩:=by kernel_rfl
theorem Hn(rr:SQ)(l:List V)(acc:List SQ):∀ (r:List Ent),r.length<=4->aZ (aa T0 af 69) (Gi xB) aP [] (FV xB) (FP rr) 23 (.d (fe r)::l) ⟨w9 a xs++[.a_ acc],Zk,cap+1⟩=aZ (aa T0 af 69) (Gi xB) aP [] (FV xB) (FP rr) 23 l ⟨w9 a xs++[.a_ (acc++[fe r])],Zk,cap⟩:=λr h=>by
 apply F7 r (Uy h)<;>intros<;>kernel_rfl
theorem vx(rr:SQ):∀ (rs:List (List Ent)) (acc:List SQ) (cap:Nat),(∀ r∈rs,ei r)->aZ (aa T0 af 69) (Gi xB) aP [] (FV xB) (FP rr) 23 (fL (am rs)) ⟨w9 a xs++[.a_ acc],Zk,cap+rs.length⟩ = .ok () ⟨w9 a xs++[.a_ (acc++am rs)],Zk,cap⟩
 | [],acc,cap,h=>by
  (refine b_ (show acc++am []=acc from U8 _) ?_);rfl
 | r::rs,acc,cap,h=>by
  rw[show acc++am (r::rs)=acc++[fe r]++am rs by simp [am]]
  exact(Hn a (cap+rs.length) xs rr (fL (am rs)) acc r (h r (.head _)).1 :).trans (vx rr rs (acc++[fe r]) cap λq hq=>h q (.tail _ hq))
noncomputable def Ar(r:R (Fl×LE))(mark:Nat):R V:=r.bind λp s=>br mark p s
theorem IE(inp:List SQ)(rr:SQ):((aa T0 af 71).cl (.val (.ref 351)) [.ref 23,.d .none] ⟨w9 a xs++[.a_ inp],Zk,cap⟩).bind (λv s=>((assign T0 (aa T0 af 72) (aq mW) mF.scope (FP rr) v s).bind λle s=>Ar ((aa T0 af 72).ex (mF.body.drop 6) mF.scope le s) 4)) = .ok (.ref 12) ⟨wg a xs inp,Zk,cap⟩:=by kernel_rfl
theorem MW(rs:List (List Ent))(h:∀ r∈rs,ei r):(aa T0 af 79).cl (.val (.ref 825)) [.d (.list (am rs)),.ref 2] (bh a xs [.a_ [],.a_ []] (cap+rs.length)) = .ok (.ref 12) ⟨wg a xs (am rs),Zk,cap⟩:=by
 have t:=vx a xs (.list (am rs)) rs [] cap h
 have r:=IE a cap xs (am rs) (.list (am rs))
 have fin:Ar ((aa T0 af 73).ex (mF.body.drop 5) mF.scope (FP (.list (am rs))) ⟨w9 a xs,Zk,cap+rs.length⟩) 4 = .ok (.ref 12) ⟨wg a xs (am rs),Zk,cap⟩:=by
  cases hq:(aa T0 af 71).cl (.val (.ref 351)) [.ref 23,.d .none] ⟨w9 a xs++[.a_ (am rs)],Zk,cap⟩ with
  | no=>rw[hq]at r;cases r
  | exc s=>rw[hq]at r;cases r
  | ok v s=>
   rw[hq]at r;cases ha:assign T0 (aa T0 af 72) (aq mW) mF.scope (FP (.list (am rs))) v s with
   | no=>rw[gm,ha]at r;cases r
   | exc s=>rw[gm,ha]at r;cases r
   | ok le s'=>
    rw[gm,ha,gm]at r;refine Eq.trans ?_ r
    have c3:=dF (t:=aq mW) (p:=ey mW) (by kernel_rfl) (by kernel_rfl) ((bC (f:=ba Gu) (p:=ax Gu) (sc:=mF.scope) (le:=FP (.list (am rs))) (vf := .val (.ref 351)) (σ:=⟨w9 a xs,Zk,cap+rs.length⟩) (σ₁:=⟨w9 a xs,Zk,cap+rs.length⟩) (by kernel_rfl) (by kernel_rfl) (by kernel_rfl) (eS (z7 (p:=Lg xB) (gs:=K8 xB) (it:=M6 xB) (sc:=mF.scope) (σ:=⟨w9 a xs,Zk,cap+rs.length⟩) (by kernel_rfl) (by kernel_rfl) (by kernel_rfl) (by kernel_rfl) (by kernel_rfl) rfl (by kernel_rfl) t :) (show(aa T0 af 70).es [bl (aN Gu) 1] mF.scope _ ⟨w9 a xs++[.a_ ([]++am rs)],Zk,cap⟩ = .ok [.d .none] ⟨w9 a xs++[.a_ ([]++am rs)],Zk,cap⟩by kernel_rfl)) :).trans hq)
    rw[ha,gm]at c3;refine b_ MU ?_
    exact congrArg (Ar · 4) (aC (by(refine b_ N5 ?_);exact c3))
 refine(iY (n:=78) (fn:=mF) (l:=[(bN,.d (.list (am rs))),(jl,.ref 2)]) rfl L8 (by kernel_rfl) (Op a (cap+rs.length) xs (.list (am rs)) :)).trans ?_
 exact fin
end
end
section
open PySem
noncomputable def J':Fn:=aI 103
noncomputable def lS(k:Nat):T9:=ai J'.body k
noncomputable def lD:Expr:=ae (lS 5)
noncomputable def Lk(e:Expr)(k:Nat):Expr:=((f9 (oM e).ks k).getD Zk).getD xq
noncomputable def LD(e:Expr)(k:Nat):Expr:=bl (aN e) k
noncomputable def Nl(e:Expr):Vw:=ax e
noncomputable def wK:Expr:=LD lD 0
theorem Mj:T0.fn 830=Zj J':=by kernel_rfl
theorem Gz:J'.body=[lS 0,lS 1,lS 2,lS 3,lS 4,lS 5,lS 6,lS 7,lS 8]:=by kernel_rfl
theorem Oo:lS 1 = .Assign [aq (lS 1)] (.Call (ba (ae (lS 1))) [bl (aN (ae (lS 1))) 0] [] (ax (ae (lS 1)))) (ey (lS 1)):=by kernel_rfl
theorem NG:lS 4 = .Assign [aq (lS 4)] (.Call (ba (ae (lS 4))) (aN (ae (lS 4))) [] (ax (ae (lS 4)))) (ey (lS 4)):=by kernel_rfl
theorem N6:lS 5 = .Assign [aq (lS 5)] (.Dict [Zj (Lk lD 0),Zj (Lk lD 1)] [.ListComp (Gi wK) (K8 wK) (FV wK) (Lg wK),LD lD 1] (Nl lD)) (ey (lS 5)):=by kernel_rfl
noncomputable def C0(X:SQ)(rs:SQ):LE:=[(bX,.d X),(a8,.ref 0),(bN,.d rs),(jl,.ref 2),(tw,.ref 3)]
noncomputable def tH(X:SQ)(rs:SQ):LE:=C0 X rs++[(bB,.ref 12)]
noncomputable def MP(X:SQ)(rs:SQ):LE:=tH X rs++[(fz,.ref 30),(oZ,.ref 33)]
section
variable(a cap:Nat)(xs:List SQ)
theorem GA(X rr:SQ)(l:List V)(inp acc:List SQ):∀ (r:List Ent),r.length<=4->aZ (aa T0 af 77) (Gi wK) aP [] (FV wK) (tH X rr) 31 (.d (fe r)::l) ⟨wg a xs inp++[.dict []]++[.a_ acc],Zk,cap+1⟩=aZ (aa T0 af 77) (Gi wK) aP [] (FV wK) (tH X rr) 31 l ⟨wg a xs inp++[.dict []]++[.a_ (acc++[fe r])],Zk,cap⟩:=λr h=>by
 apply F7 r (Uy h)<;>intros<;>kernel_rfl
theorem wI(X rr:SQ)(inp:List SQ):∀ (rs:List (List Ent)) (acc:List SQ) (cap:Nat),(∀ r∈rs,ei r)->aZ (aa T0 af 77) (Gi wK) aP [] (FV wK) (tH X rr) 31 (fL (am rs)) ⟨wg a xs inp++[.dict []]++[.a_ acc],Zk,cap+rs.length⟩ = .ok () ⟨wg a xs inp++[.dict []]++[.a_ (acc++am rs)],Zk,cap⟩
 | [],acc,cap,h=>by
  (refine b_ (show acc++am []=acc from U8 _) ?_);rfl
 | r::rs,acc,cap,h=>by
  rw[show acc++am (r::rs)=acc++[fe r]++am rs by simp [am]]
  exact(GA a (cap+rs.length) xs X rr (fL (am rs)) inp acc r (h r (.head _)).1 :).trans (wI X rr inp rs (acc++[fe r]) cap λq hq=>h q (.tail _ hq))
theorem D4(X:SQ)(rs:List (List Ent))(h:∀ r∈rs,ei r):aA T0 (aa T0 af 79) (lS 5) J'.scope (tH X (.list (am rs))) ⟨wg a xs (am rs),Zk,cap+rs.length⟩ = .ok (.next,tH X (.list (am rs))++[(fz,.ref 30)]) ⟨wg a xs (am rs)++[.dict [(.str ⟨⟨[105,110]⟩⟩,.ref 31),(.str ⟨⟨[111,117,116]⟩⟩,.ref 32)],.a_ ([]++am rs),.a_ []],Zk,cap⟩:=by
 refine b_ N6 ?_
 refine(dF (by kernel_rfl) (by kernel_rfl) ((Dg (k1:=Lk lD 0) (k2:=Lk lD 1) (v2:=LD lD 1) (p:=Nl lD) (σ:=⟨wg a xs (am rs),Zk,cap+rs.length⟩) (a1 := .str ⟨⟨[105,110]⟩⟩) (a2 := .str ⟨⟨[111,117,116]⟩⟩) (w2 := .ref 32) (σ2:=⟨wg a xs (am rs)++[.dict [],.a_ ([]++am rs),.a_ []],Zk,cap⟩) (by kernel_rfl) (z7 (p:=Lg wK) (gs:=K8 wK) (it:=M6 wK) (sc:=J'.scope) (σ:=⟨wg a xs (am rs)++[.dict []],Zk,cap+rs.length⟩) (by kernel_rfl) (by kernel_rfl) (by kernel_rfl) (by kernel_rfl) (by kernel_rfl) rfl (by kernel_rfl) (wI a xs X (.list (am rs)) (am rs) rs [] cap h :) :) (by kernel_rfl) (by kernel_rfl) :).trans (show _=R.ok (V.ref 30) ⟨wg a xs (am rs)++[.dict [(.str ⟨⟨[105,110]⟩⟩,.ref 31),(.str ⟨⟨[111,117,116]⟩⟩,.ref 32)],.a_ ([]++am rs),.a_ []],Zk,cap⟩by kernel_rfl))).trans ?_
 kernel_rfl
theorem N0{c d n:Nat}(h:n<=3)(hc:c+6<=d):d - n+n=d:=Uq (Te (Te h (Ve 3 (c+3))) hc)
theorem NV{c d n:Nat}(h:n<=3)(hc:c+6<=d):d - n - n+n=d - n:=Uq (Te h (Uh (Te (Vb h 3) (Te (Ve 6 c) hc))))
theorem Ol{c d n:Nat}(h:n<=3)(hc:c+6<=d):c<=d - n - n:=Uh (Uh (Te (Nat.add_le_add (Vb h c) h) hc))
theorem xw(X:List Int):X3 λ(rs:List (List Ent)) (a' dW:Nat)=>A5 (rs.length<=3) ((∀ r∈rs,ei r)) (a'<=100) (cap<=dW) ((aa T0 af 85).ex J'.body J'.scope [(bX,.d (.list (X.map Td)))] ⟨[],Zk,cap+26⟩=(aa T0 af 78).ex [lS 7,lS 8] J'.scope (MP (.list (X.map Td)) (.list (am rs))) ⟨(H0 a' ((X.take 110).map Td) rs).o (.a_ []),Zk,dW⟩):=by
 obtain⟨rs,a',OH,h3,h4,ha,hc,e1⟩:=yk 50 (X.take 110) (cap+6);have e0:aA T0 (aa T0 af 84) (lS 0) J'.scope [(bX,.d (.list (X.map Td)))] ⟨[],Zk,cap+26⟩ = .ok (.next,[(bX,.d (.list (X.map Td))),(a8,.ref 0)]) (bh 0 ((X.map Td).take 110) [] (cap+26)):=by kernel_rfl
 rw[<- List.map_take]at e0;have s1:aA T0 (aa T0 af 83) (lS 1) J'.scope [(bX,.d (.list (X.map Td))),(a8,.ref 0)] (bh 0 ((X.take 110).map Td) [] (cap+26)) = .ok (.next,[(bX,.d (.list (X.map Td))),(a8,.ref 0),(bN,.d (.list (am rs)))]) (bh a' ((X.take 110).map Td) [] OH):=by
  refine b_ Oo ?_
  refine(dF (by kernel_rfl) (by kernel_rfl) (bC (f:=ba (ae (lS 1))) (as:=[bl (aN (ae (lS 1))) 0]) (p:=ax (ae (lS 1))) (sc:=J'.scope) (le:=[(bX,.d (.list (X.map Td))),(a8,.ref 0)]) (σ:=bh 0 ((X.take 110).map Td) [] (cap+26)) (σ₁:=bh 0 ((X.take 110).map Td) [] (cap+26)) (vf := .val (.ref 780)) (by kernel_rfl) (by kernel_rfl) (by kernel_rfl) (show(aa T0 af 82).es [bl (aN (ae (lS 1))) 0] J'.scope _ _ = .ok [.ref 0] (bh 0 ((X.take 110).map Td) [] (cap+26))by kernel_rfl) |>.trans e1 :)).trans ?_
  kernel_rfl
 have m:=MW a' (OH - rs.length) ((X.take 110).map Td) rs h4
 rw[N0 h3 hc]at m;have s4:aA T0 (aa T0 af 80) (lS 4) J'.scope (C0 (.list (X.map Td)) (.list (am rs))) (bh a' ((X.take 110).map Td) [.a_ [],.a_ []] OH) = .ok (.next,tH (.list (X.map Td)) (.list (am rs))) ⟨wg a' ((X.take 110).map Td) (am rs),Zk,OH - rs.length⟩:=by
  refine b_ NG ?_
  refine(dF (by kernel_rfl) (by kernel_rfl) (bC (f:=ba (ae (lS 4))) (as:=aN (ae (lS 4))) (p:=ax (ae (lS 4))) (sc:=J'.scope) (le:=C0 (.list (X.map Td)) (.list (am rs))) (σ:=bh a' ((X.take 110).map Td) [.a_ [],.a_ []] OH) (σ₁:=bh a' ((X.take 110).map Td) [.a_ [],.a_ []] OH) (vf := .val (.ref 825)) (by kernel_rfl) (by kernel_rfl) (by kernel_rfl) (show(aa T0 af 79).es (aN (ae (lS 4))) J'.scope _ _ = .ok [.d (.list (am rs)),.ref 2] (bh a' ((X.take 110).map Td) [.a_ [],.a_ []] OH)by kernel_rfl) |>.trans m :)).trans ?_
  kernel_rfl
 have s5:=D4 a' (OH - rs.length - rs.length) ((X.take 110).map Td) (.list (X.map Td)) rs h4
 rw[NV h3 hc]at s5
 refine⟨rs,a',OH - rs.length - rs.length,h3,h4,ha,Ol h3 hc,?_⟩
 refine b_ Gz ?_
 refine(aC e0).trans ((aC s1).trans ((by kernel_rfl:(aa T0 af 83).ex [lS 2,lS 3,lS 4,lS 5,lS 6,lS 7,lS 8] J'.scope [(bX,.d (.list (X.map Td))),(a8,.ref 0),(bN,.d (.list (am rs)))] (bh a' ((X.take 110).map Td) [] OH)=(aa T0 af 81).ex [lS 4,lS 5,lS 6,lS 7,lS 8] J'.scope (C0 (.list (X.map Td)) (.list (am rs))) (bh a' ((X.take 110).map Td) [.a_ [],.a_ []] OH)).trans ((aC s4).trans ((aC s5).trans ?_))))
 refine aC ?_
 kernel_rfl
end
end
section
open PySem
section
variable{T:Tab}{Sp:eR}{n:Nat}{sc:Tz}{le le':LE}{σ σ':VS}
theorem sE{l r:Expr}{op:CmpOp}{p:Vw}{a b:V}{E_:VS}(h1:(aa T Sp n).ev l sc le σ = .ok a σ')(h2:(aa T Sp n).ev r sc le σ' = .ok b E_):(aa T Sp (n+1)).te (.Compare l [op] [r] p) sc le σ=o7 (HD op a b E_) E_:=by
 show R.bind ((aa T Sp n).ev l sc le σ) _=_
 refine b_ h1 ?_
 show R.bind ((aa T Sp n).ev r sc le σ') _=_
 (refine b_ h2 ?_);rfl
theorem Qk{op:W8}{es:List Expr}{p:Vw}:(aa T Sp (n+1)).te (.BoolOp op es p) sc le σ=(aa T Sp n).ts op es sc le σ:=rfl
theorem Bl{e:Expr}{r:List Expr}(h:(aa T Sp n).te e sc le σ = .ok Zn σ'):(aa T Sp (n+1)).ts .Or (e::r) sc le σ=(aa T Sp n).ts .Or r sc le σ':=by
 show R.bind ((aa T Sp n).te e sc le σ) _=_
 (refine b_ h ?_);rfl
end
noncomputable def lB:List T9:=az (lS 7)
noncomputable def lT(k:Nat):T9:=ai lB k
noncomputable def Nq(t d_ st du te:SQ):LE:=[(eB,.d t),(vn,.d d_),(bE,.d st),(Kx,.d du),(GO,.d te)]
noncomputable def gb(X rr:SQ)(f:Bool)(m:Nat)(t d_ st du te:SQ):LE:=MP X rr++ac f ((Nq t d_ st du te).take m) (Nq t d_ st du te)
noncomputable def HH(a:Nat)(xs:List Int)(nb:Bool)(c:n_)(rs:List (List Ent))(s:List SQ)(k:Nat)(o:List SQ):Hp:=⟨Tn a,xs.map Td,s,s,A1 nb c,am rs,Tn k,o,am (rs.drop k),o,c.cells⟩
noncomputable def D_(h:Hp)(tl:List O)(cap:Nat):VS:=⟨h.o (.a_ [])++tl,Zk,cap⟩
noncomputable def Gh(v:Nat):OO:=match v with
 | 1 => .RO
 | 2 => .RP
 | _ => .l10
theorem LP:lB=[lT 0,lT 1,lT 2,lT 3,lT 4,lT 5,lT 6,lT 7,lT 8,lT 9,lT 10]:=by kernel_rfl
theorem LQ:lT 0 = .Assign [aq (lT 0)] (.Subscript (ba (ae (lT 0))) (Oz (ae (lT 0))) (ax (ae (lT 0)))) (ey (lT 0)):=by kernel_rfl
theorem LR:lT 3 = .Assign [aq (lT 3)] (.Call (ba (ae (lT 3))) (aN (ae (lT 3))) [] (ax (ae (lT 3)))) (ey (lT 3)):=by kernel_rfl
theorem MG:lT 4 = .Assign [aq (lT 4)] (.Call (ba (ae (lT 4))) (aN (ae (lT 4))) [] (ax (ae (lT 4)))) (ey (lT 4)):=by kernel_rfl
theorem Mc:lT 5 = .Assign [aq (lT 5)] (.Call (ba (ae (lT 5))) (aN (ae (lT 5))) [] (ax (ae (lT 5)))) (ey (lT 5)):=by kernel_rfl
theorem Lw:lT 6 = .If (ae (lT 6)) (az (lT 6)) [] (bQ (lT 6)):=by kernel_rfl
noncomputable def lO(k:Nat):Expr:=bl (aN (ae (lT 8))) k
noncomputable def mQ(e:Expr):Expr:=Oz e
theorem Mo:lT 8 = .If (.BoolOp .Or [.Compare (.Call (ba (ba (lO 0))) (aN (ba (lO 0))) [] (ax (ba (lO 0)))) [.NotEq] [.Call (ba (mQ (lO 0))) (aN (mQ (lO 0))) [] (ax (mQ (lO 0)))] (gt (lO 0)),.Compare (ba (lO 1)) [.NotEq] [mQ (lO 1)] (gt (lO 1)),.Compare (ba (lO 2)) [.NotEq] [mQ (lO 2)] (gt (lO 2))] (ln (ae (lT 8)))) (az (lT 8)) [] (bQ (lT 8)):=by kernel_rfl
section
variable(X rr:SQ)(f:Bool)(t d_ st du te:SQ)(xs:List Int)(c:n_)(rs:List (List Ent))(s:List SQ)(k:Nat)(o:List SQ)(a cap:Nat)
theorem Dc(nb:Bool)(ha:a < 900000):∃ l:OO,aA T0 (aa T0 af 76) (lT 0) J'.scope (gb X rr f 1 t d_ st du te) (D_ (HH a xs nb c rs s k o) [] cap) = .ok (.next,gb X rr f 2 t (.int l.z) st du te) (D_ (HH (a+1) xs nb c rs s k o) [] cap):=by
 obtain⟨v,hv,p1⟩:=bT (sc:=J'.scope) (le:=gb X rr f 1 t d_ st du te) (Oz (ae (lT 0))) 58 a xs (oF (HH a xs nb c rs s k o)++[]) cap (by exact wO ha) 3 (by kernel_rfl) (by kernel_rfl) (by kernel_rfl) (by(apply bt f;kernel_rfl)) (by(apply bt f;kernel_rfl))
 refine⟨Gh v,?_⟩
 refine b_ LQ ?_
 refine(dF (by kernel_rfl) (by kernel_rfl) (mY (by kernel_rfl) (by(apply bt f;kernel_rfl):(aa T0 af 75).ev (ba (ae (lT 0))) J'.scope (gb X rr f 1 t d_ st du te) (D_ (HH a xs nb c rs s k o) [] cap) = .ok (.ref 34) (D_ (HH a xs nb c rs s k o) [.a_ [.int 10,.int 20,.int 30,.int 10]] cap)) (by kernel_rfl:fZ (ba (ae (lT 0))) (Oz (ae (lT 0))) (len (D_ (HH a xs nb c rs s k o) [] cap).o) (.ref 34) (D_ (HH a xs nb c rs s k o) [.a_ [.int 10,.int 20,.int 30,.int 10]] cap) = .ok (.d (.list [.int 10,.int 20,.int 30,.int 10])) (bh a (xs.map Td) (oF (HH a xs nb c rs s k o)++[]) cap)) p1 |>.trans (show _=R.ok (V.d (.int (Gh v).z)) (D_ (HH (a+1) xs nb c rs s k o) [] cap)from ?_))).trans ?_
 ·apply JF v (by exact Zc hv)<;>kernel_rfl
 ·(apply bt f;kernel_rfl)
theorem Dd(nb:Bool)(z:Int):(aa T0 af 76).ex [lT 1,lT 2,lT 3,lT 4,lT 5,lT 6,lT 7,lT 8,lT 9,lT 10] J'.scope (gb X rr f 2 t (.int z) st du te) (D_ (HH a xs nb c rs s k o) [] cap)=(aa T0 af 74).ex [lT 3,lT 4,lT 5,lT 6,lT 7,lT 8,lT 9,lT 10] J'.scope (gb X rr f 2 t (.int z) st du te) (D_ (HH a xs Zm { c with d_:=z } rs s k o) [] cap):=by
 (apply Cn f nb;kernel_rfl)
theorem Hc(ha:a < 800000):X9 λ(isW io en er:Bool) (w:Wy) (uu:Un) (is:List q_) (a' dW:Nat)=>A4 (is.length<=3) (a'<=a+20) (cap<=dW) (aA T0 (aa T0 af 73) (lT 3) J'.scope (gb X rr f 2 t d_ st du te) (D_ (HH a xs Zm c rs s k o) [] (cap+3)) = .ok (.next,gb X rr f 3 t d_ (a9 isW io en er w uu.st uu.z is) du te) (D_ (HH a' xs Zm c rs s k o) [] dW)):=by
 obtain⟨isW,io,en,er,w,uu,is,a',h3,ha',dW,hc,e⟩:=CT 37 (HH a xs Zm c rs s k o) xs a cap ha
 refine⟨isW,io,en,er,w,uu,is,a',dW,h3,ha',hc,?_⟩
 refine b_ LR ?_
 have e1:=(bC (f:=ba (ae (lT 3))) (as:=aN (ae (lT 3))) (p:=ax (ae (lT 3))) (sc:=J'.scope) (le:=gb X rr f 2 t d_ st du te) (σ:=D_ (HH a xs Zm c rs s k o) [] (cap+3)) (σ₁:=σs (HH a xs Zm c rs s k o) a xs [] (cap+3)) (vf := .val (.ref 787)) (vs:=[.ref 0]) (by kernel_rfl) (by kernel_rfl) (by(apply bt f;kernel_rfl)) (by(apply bt f;kernel_rfl))).trans e
 refine(dF (by kernel_rfl) (by kernel_rfl) e1).trans ?_
 (apply bt f;kernel_rfl)
noncomputable def H2(a:Nat)(xs:List Int)(c:n_)(rs:List (List Ent))(s:List SQ)(k:Nat)(o:List SQ)(c':n_)(s':List SQ)(k':Nat)(o':List SQ):Hp:=⟨Tn a,xs.map Td,s,s',A1 Zm c,am rs,Tn k,o,am (rs.drop k'),o',c'.cells⟩
theorem JH(isW io en er:Bool)(w:Wy)(l:OO)(uu:Un)(is:List q_)(hl:c.d_=l.z)(h3:is.length<=3)(hr:∀ r∈rs,ei r)(p:OC)(hp:p=wB isW io en er w l uu is c s rs k o) :
  X3 λ(j:Nat) (last:SQ) (dW:Nat)=>A4 (j<=4) (cap<=dW) (aA T0 (aa T0 af 72) (lT 4) J'.scope (gb X rr f 3 t d_ (a9 isW io en er w uu.st uu.z is) du te) (D_ (HH a xs Zm c rs s k o) [] (cap+20)) = .ok (.next,gb X rr f 4 t d_ (a9 isW io en er w uu.st uu.z is) (.list (wl j++[last])) te) (D_ (H2 a xs c rs s k o p.c p.seen p.B' p.t_) [] dW)) (match p.out with
   | .ok v=>v = .list (wl j++[last])/\∃ i,last = .int i/\Dz i
   | .exc k _=>last = .str (cY k)):=by
 obtain⟨j,last,dW,hj,hc,e,hv⟩:=IK 5 (HH a xs Zm c rs s k o) c l is isW io en er w uu hl h3 rs (λr h=>(hr r h).1) k rfl cap
 have hps:wB isW io en er w l uu is c (HH a xs Zm c rs s k o).m_ rs k (HH a xs Zm c rs s k o).OW=p:=hp.symm
 rw[hps]at e hv
 refine⟨j,last,dW,hj,hc,?_,hv⟩
 refine b_ MG ?_
 have e1:=(bC (f:=ba (ae (lT 4))) (as:=aN (ae (lT 4))) (p:=ax (ae (lT 4))) (sc:=J'.scope) (le:=gb X rr f 3 t d_ (a9 isW io en er w uu.st uu.z is) du te) (σ:=D_ (HH a xs Zm c rs s k o) [] (cap+20)) (σ₁:=⟨(Mine.hc (HH a xs Zm c rs s k o) c).e,Zk,cap+20⟩) (vf := .val (.ref 799)) (vs:=[.ref 30,.ref 33,.ref 3,.d (a9 isW io en er w uu.st uu.z is)]) (by kernel_rfl) (by kernel_rfl) (by(apply bt f;kernel_rfl)) (by(apply bt f;kernel_rfl))).trans e
 refine(dF (by kernel_rfl) (by kernel_rfl) e1).trans ?_
 (apply bt f;kernel_rfl)
theorem Hw(isW io en er:Bool)(w:Wy)(l:OO)(uu:Un)(is:List q_)(hl:c.d_=l.z)(h3:is.length<=3)(hr:∀ r∈rs,ei r)(OV:rs.length<=3)(hk:k<=rs.length)(p:OC)(hp:p=wB isW io en er w l uu is c s rs k o) :
  ∃ (dW:Nat),cap<=dW/\aA T0 (aa T0 af 71) (lT 5) J'.scope (gb X rr f 4 t d_ (a9 isW io en er w uu.st uu.z is) du te) (D_ (H2 a xs c rs s k o p.c p.seen p.B' p.t_) [] (cap+50)) = .ok (.next,gb X rr f 5 t d_ (a9 isW io en er w uu.st uu.z is) du p.out.v) (D_ (HH a xs Zm p.c rs p.seen p.B' p.t_) [] dW):=by
 have T:lX cap (H2 a xs c rs s k o p.c p.seen p.B' p.t_) (wB isW io en er w l uu is c s rs k o) (fk 0 isW io en er w uu.st uu.z is ⟨(H2 a xs c rs s k o p.c p.seen p.B' p.t_).o (.a_ []),Zk,cap+50⟩):=EB 0 (H2 a xs c rs s k o p.c p.seen p.B' p.t_) c l is isW io en er w uu h3 hl rs OV (λr h=>(hr r h).1) k hk cap
 rw[<- hp]at T;obtain⟨dW,hc,e⟩:=yU 0 (H2 a xs c rs s k o p.c p.seen p.B' p.t_) uu.z is isW io en er uu.st w p (by(refine b_ hp ?_);exact wA) cap (cap+50) T
 refine⟨dW,hc,?_⟩
 refine b_ Mc ?_
 have e1:=(bC (f:=ba (ae (lT 5))) (as:=aN (ae (lT 5))) (p:=ax (ae (lT 5))) (sc:=J'.scope) (le:=gb X rr f 4 t d_ (a9 isW io en er w uu.st uu.z is) du te) (σ:=D_ (H2 a xs c rs s k o p.c p.seen p.B' p.t_) [] (cap+50)) (σ₁:=⟨(H2 a xs c rs s k o p.c p.seen p.B' p.t_).o (.a_ []),Zk,cap+50⟩) (vf := .val (.ref 820)) (vs:=[.ref 12,.d (a9 isW io en er w uu.st uu.z is)]) (by kernel_rfl) (by kernel_rfl) (by(apply bt f;kernel_rfl)) (by(apply bt f;kernel_rfl))).trans e
 refine(dF (by kernel_rfl) (by kernel_rfl) e1).trans ?_
 (apply bt f;kernel_rfl)
theorem u0{j:Nat}(h:j<=4):j=0\/j=1\/j=2\/j=3\/j=4:=by lia
theorem Ac(h:Hp)(j:Nat)(hj:j<=4)(i:Int)(hi:Dz i):(aa T0 af 70).te (ae (lT 6)) J'.scope (gb X rr f 5 t d_ st (.list (wl j++[.int i])) (.list (wl j++[.int i]))) (D_ h [] cap) = .ok Zn (D_ h [] cap):=by
 rcases u0 hj with rfl|rfl|rfl|rfl|rfl<;>rcases hi with rfl|rfl|rfl|rfl<;>(apply bt f;kernel_rfl)
theorem Bb(h:Hp)(j:Nat)(hj:j<=4)(q:Tc)(hq:q=89\/q=70\/q=51):(aa T0 af 70).te (ae (lT 6)) J'.scope (gb X rr f 5 t d_ st (.list (wl j++[.str (cY q)])) (.str (cY q))) (D_ h [] cap) = .ok Zn (D_ h [] cap):=by
 rcases u0 hj with rfl|rfl|rfl|rfl|rfl<;>rcases hq with rfl|rfl|rfl<;>(apply bt f;kernel_rfl)
end
end
section
open PySem
noncomputable def my(c:n_):O := .a_ c.cells
section
variable(X rr:SQ)(f:Bool)(t d_ st du te:SQ)(xs:List Int)(c:n_)(rs:List (List Ent))(s:List SQ)(k:Nat)(o:List SQ)(a cap:Nat)
noncomputable def vU(X rr:SQ)(f:Bool)(t d_ st du te:SQ):LE:=gb X rr f 5 t d_ st du te++[(oz,.ref 34)]
theorem Dw:aA T0 (aa T0 af 69) (lT 7) J'.scope (gb X rr f 5 t d_ st du te) (D_ (HH a xs Zm c rs s k o) [] (cap+7)) = .ok (.next,vU X rr f t d_ st du te) (D_ (HH a xs Zm c rs s k o) [my c] cap):=by
 (apply bt f;kernel_rfl)
theorem u5(i:Nat)(ys:List SQ)(σ:VS)(hg:σ.get i=Zj (.a_ ys))(hs:qw ys=Zm):(aa T0 af 64).cl (.val (.builtin "repr")) [.ref i] σ = .ok (.d (.str (SQ.shown (.list ys)))) σ:=by
 show ag (ag (ag (σ.get i) Zk Bw) Zk iW) (R.no:R V) (λxs=>ac (qw xs) (.ok (.d (.str (SQ.shown (.list xs)))) σ) .no)=_
 rw[hg]
 show ac (qw ys) _ _=_
 rw[hs];rfl
theorem uK(x:Tq)(σ:VS):o7 (HD .NotEq (.d (.str x)) (.d (.str x)) σ) σ = .ok Zn σ:=by
 show o7 (Option.map not (Zj (aw x x))) σ=_
 rw[tM];rfl
theorem j5(i j:Nat)(ys:List SQ)(σ:VS){q:Nat}(hy:∀ x∈ys,mD q x)(hq:q < 100)(hi:cL σ (.ref i)=Zj (.list ys))(hj:cL σ (.ref j)=Zj (.list ys)):o7 (HD .NotEq (.ref i) (.ref j) σ) σ = .ok Zn σ:=by
 show o7 (Option.map not (G9 σ (.ref i) (.ref j))) σ=_
 unfold G9;rw[hi,hj]
 show o7 (Option.map not (D8 (.list ys) (.list ys))) σ=_
 rw[zw hy hq];rfl
theorem CL(hI:Inv rs c s k o):aA T0 (aa T0 af 68) (lT 8) J'.scope (vU X rr f t d_ st du te) (D_ (HH a xs Zm c rs s k o) [my c] cap) = .ok (.next,vU X rr f t d_ st du te) (D_ (HH a xs Zm c rs s k o) [my c] cap):=by
 have hs:=Bu hI.Qj
 rw[Mo];have r1:=bC (n:=64) (f:=ba (ba (lO 0))) (as:=aN (ba (lO 0))) (p:=ax (ba (lO 0))) (sc:=J'.scope) (le:=vU X rr f t d_ st du te) (σ:=D_ (HH a xs Zm c rs s k o) [my c] cap) (σ₁:=D_ (HH a xs Zm c rs s k o) [my c] cap) (σ₂:=D_ (HH a xs Zm c rs s k o) [my c] cap) (T:=T0) (Sp:=af) (vf := .val (.builtin "repr")) (vs:=[.ref 34]) (by kernel_rfl) (by kernel_rfl) (by(apply bt f;kernel_rfl)) (by(apply bt f;kernel_rfl)) |>.trans (u5 34 c.cells _ (by kernel_rfl) hs)
 have r2:=bC (n:=64) (f:=ba (mQ (lO 0))) (as:=aN (mQ (lO 0))) (p:=ax (mQ (lO 0))) (sc:=J'.scope) (le:=vU X rr f t d_ st du te) (σ:=D_ (HH a xs Zm c rs s k o) [my c] cap) (σ₁:=D_ (HH a xs Zm c rs s k o) [my c] cap) (σ₂:=D_ (HH a xs Zm c rs s k o) [my c] cap) (T:=T0) (Sp:=af) (vf := .val (.builtin "repr")) (vs:=[.ref 33]) (by kernel_rfl) (by kernel_rfl) (by(apply bt f;kernel_rfl)) (by(apply bt f;kernel_rfl)) |>.trans (u5 33 c.cells _ (by kernel_rfl) hs)
 have c2:=(sE (n:=64) (T:=T0) (Sp:=af) (op := .NotEq) (l:=ba (lO 1)) (r:=mQ (lO 1)) (p:=gt (lO 1)) (sc:=J'.scope) (le:=vU X rr f t d_ st du te) (σ:=D_ (HH a xs Zm c rs s k o) [my c] cap) (σ':=D_ (HH a xs Zm c rs s k o) [my c] cap) (E_:=D_ (HH a xs Zm c rs s k o) [my c] cap) (a := .ref 25) (b := .ref 32) (by(apply bt f;kernel_rfl)) (by(apply bt f;kernel_rfl))).trans (j5 25 32 o _ hI.ou (by exact Yi rfl) (by kernel_rfl) (by kernel_rfl))
 have c3:=(sE (n:=63) (T:=T0) (Sp:=af) (op := .NotEq) (l:=ba (lO 2)) (r:=mQ (lO 2)) (p:=gt (lO 2)) (sc:=J'.scope) (le:=vU X rr f t d_ st du te) (σ:=D_ (HH a xs Zm c rs s k o) [my c] cap) (σ':=D_ (HH a xs Zm c rs s k o) [my c] cap) (E_:=D_ (HH a xs Zm c rs s k o) [my c] cap) (a := .ref 2) (b := .ref 3) (by(apply bt f;kernel_rfl)) (by(apply bt f;kernel_rfl))).trans (j5 2 3 s _ hI.sn (by exact Nat.zero_lt_succ 99) (by kernel_rfl) (by kernel_rfl))
 refine(jU (Qk.trans ((Bl ((sE (op := .NotEq) (p:=gt (lO 0)) r1 r2).trans (uK _ _) :)).trans ((Bl c2).trans ((Bl c3).trans (by kernel_rfl)))))).trans iU
theorem By(q:Tq):(aa T0 af 68).ex [lT 9,lT 10] J'.scope (vU X rr f t d_ st du (.str q)) (D_ (HH a xs Zm c rs s k o) [my c] cap) = .ok (.ret (.d (.bool Zm)),vU X rr f t d_ st du (.str q)) (D_ (HH a xs Zm c rs s k o) [my c] cap):=by
 (apply bt f;kernel_rfl)
theorem Bn(ys:List SQ):(aa T0 af 68).ex [lT 9,lT 10] J'.scope (vU X rr f t d_ st du (.list ys)) (D_ (HH a xs Zm c rs s k o) [my c] cap) = .ok (.next,vU X rr f t d_ st du (.list ys)) (D_ (HH a xs Zm c rs s k o) [my c,.a_ []] cap):=by
 (apply bt f;kernel_rfl)
noncomputable def eV(l:List V)(le:LE)(σ:VS):R (Fl×LE):=aK T0 (aa T0 af 77) (aq (lS 7)) (az (lS 7)) J'.scope l le σ
def Py(l:List V)(X rr t:SQ)(xs:List Int)(rs:List (List Ent))(a cap:Nat)(r:R (Fl×LE)):Prop:=
 (X2 λle' σ'=>r = .ok (.ret (.d (.bool Zm)),le') σ') \/
 Qy λ(d_ st du te:SQ) (c:n_) (s:List SQ) (k:Nat) (o:List SQ) (a' dW:Nat)=>A4 (Inv rs c s k o) (a'<=a+21) (cap<=dW) (r=eV l (gb X rr Zn 5 t d_ st du te) (D_ (HH a' xs Zm c rs s k o) [] dW))
theorem JR(l:List V)(nb:Bool)(c0:n_)(s0:List SQ)(k0:Nat)(o0:List SQ)(a0 Ps:Nat):aT J'.scope (len (D_ (HH a0 xs nb c0 rs s0 k0 o0) [] Ps).o) (eV l) (.ok (.next,vU X rr f t d_ st du te) (D_ (HH a xs Zm c rs s k o) [my c,.a_ []] cap))=eV l (gb X rr Zn 5 t d_ st du te) (D_ (HH a xs Zm c rs s k o) [] cap):=by
 (apply bt f;kernel_rfl)
theorem Py.next{l:List V}{X rr t:SQ}{xs:List Int}{rs:List (List Ent)}{a cap:Nat}{r:R (Fl×LE)}{d_ st du te:SQ}{c:n_}{s:List SQ}{k:Nat}{o:List SQ}{a' dW:Nat}(h1:Inv rs c s k o)(h2:a'<=a+21)(h3:cap<=dW)(h4:r=eV l (gb X rr Zn 5 t d_ st du te) (D_ (HH a' xs Zm c rs s k o) [] dW)):Py l X rr t xs rs a cap r := .inr ⟨d_,st,du,te,c,s,k,o,a',dW,h1,h2,h3,h4⟩
theorem Py.stop{l:List V}{X rr t:SQ}{xs:List Int}{rs:List (List Ent)}{a cap:Nat}{r:R (Fl×LE)}{le':LE}{σ':VS}(h:r = .ok (.ret (.d (.bool Zm)),le') σ'):Py l X rr t xs rs a cap r := .inl ⟨le',σ',h⟩
theorem yI{a k c m:Nat}(h:a+k<=c)(hm:m<=k):c - m+m=c:=Uq (Te hm (Te (Ve k a) h))
theorem Gj{a b c:Nat}(h1:a+77<=b)(h2:b - 50<=c):a+27<=c:=Te (Uh h1) h2
theorem KK{a b:Nat}(h1:a+27<=b):a<=b - 7:=Uh (Te (Vb (by decide) a) h1)
theorem uQ{rs:List (List Ent)}{c:n_}{s:List SQ}{k:Nat}{o:List SQ}(hI:Inv rs c s k o)(lb:OO):Inv rs { c with d_:=lb.z } s k o:=⟨⟨hI.Qj.h0,hI.Qj.h1,hI.Qj.h2,hI.Qj.h5,by show fp lb.z;cases lb<;>(constructor<;>decide)⟩,hI.sn,hI.ou,hI.kl⟩
def G7(out:Pa)(j:Nat)(last:SQ):Prop:=match out with
 | .ok v=>v = .list (wl j++[last])/\∃ i,last = .int i/\Dz i
 | .exc k _=>last = .str (cY k)
theorem La(out:Pa)(h:Hp)(j:Nat)(last:SQ)(hj:j<=4)(hx:∀ q code,out = .exc q code->q=89\/q=70\/q=51)(hv:G7 out j last) :
  aA T0 (aa T0 af 70) (lT 6) J'.scope (gb X rr f 5 t d_ st (.list (wl j++[last])) out.v) (D_ h [] cap) = .ok (.next,gb X rr f 5 t d_ st (.list (wl j++[last])) out.v) (D_ h [] cap):=by
 rw[Lw]
 refine(jU ?_).trans iU
 cases out with
 | ok v=>
  obtain⟨rfl,i,rfl,hi⟩:=hv;exact Ac X rr f t _ _ cap _ j hj i hi
 | exc q code=>
  cases hv;exact Bb X rr f t _ _ cap _ j hj q (hx q code rfl)
theorem Jp(out:Pa)(j:Nat)(last:SQ)(hv:G7 out j last)(l:List V)(nb:Bool)(c0:n_)(s0:List SQ)(k0:Nat)(o0:List SQ)(a0 Ps OH:Nat)(hI:Inv rs c s k o)(q1:a<=a0+21)(q2:OH<=cap){r:R (Fl×LE)}
  (h:r=aT J'.scope (len (D_ (HH a0 xs nb c0 rs s0 k0 o0) [] Ps).o) (eV l) ((aa T0 af 68).ex [lT 9,lT 10] J'.scope (vU X rr f t d_ st (.list (wl j++[last])) out.v) (D_ (HH a xs Zm c rs s k o) [my c] cap))):Py l X rr t xs rs a0 OH r:=by
 cases out with
 | ok v=>
  obtain⟨rfl,i,rfl,hi⟩:=hv;exact Py.next hI q1 q2 (h.trans ((congrArg _ (Bn X rr f t d_ st _ xs c rs s k o a cap _ :)).trans (JR X rr f t d_ st _ _ xs c rs s k o a cap l nb c0 s0 k0 o0 a0 Ps :)))
 | exc q code=>exact Py.stop (h.trans (congrArg _ (By X rr f t d_ st _ xs c rs s k o a cap (cY q) :)))
theorem Kv(nb:Bool)(x:SQ):assign T0 (aa T0 af 77) (aq (lS 7)) J'.scope (gb X rr f 0 t d_ st du te) (.d x) (D_ (HH a xs nb c rs s k o) [] cap) = .ok (gb X rr f 1 x d_ st du te) (D_ (HH a xs nb c rs s k o) [] cap):=by
 (apply bt f;kernel_rfl)
theorem MO{l:List V}{x:SQ}{nb:Bool}{r:R (Fl×LE)}(h:(aa T0 af 77).ex [lT 0,lT 1,lT 2,lT 3,lT 4,lT 5,lT 6,lT 7,lT 8,lT 9,lT 10] J'.scope (gb X rr f 1 x d_ st du te) (D_ (HH a xs nb c rs s k o) [] cap)=r) :
  eV (.d x::l) (gb X rr f 0 t d_ st du te) (D_ (HH a xs nb c rs s k o) [] cap)=aT J'.scope (len (D_ (HH a xs nb c rs s k o) [] cap).o) (eV l) r:=
 bG rfl (Kv X rr f t d_ st du te xs c rs s k o a cap nb x) ((congrArg (λb=>(aa T0 af 77).ex b J'.scope (gb X rr f 1 x d_ st du te) (D_ (HH a xs nb c rs s k o) [] cap)) LP).trans h)
theorem II(isW io en er:Bool)(w:Wy)(l:OO)(uu:Un)(is:List q_)(hl:c.d_=l.z)(h3:is.length<=3)(hr:∀ r∈rs,ei r)(OV:rs.length<=3)(hI:Inv rs c s k o)(p:OC)(hp:p=wB isW io en er w l uu is c s rs k o) :
  X3 λ(j:Nat) (last:SQ) (dW:Nat)=>A3 (G7 p.out j last) (cap<=dW) ((aa T0 af 73).ex [lT 4,lT 5,lT 6,lT 7,lT 8,lT 9,lT 10] J'.scope (gb X rr f 3 t d_ (a9 isW io en er w uu.st uu.z is) du te) (D_ (HH a xs Zm c rs s k o) [] (cap+97)) =
   (aa T0 af 68).ex [lT 9,lT 10] J'.scope (vU X rr f t d_ (a9 isW io en er w uu.st uu.z is) (.list (wl j++[last])) p.out.v) (D_ (HH a xs Zm p.c rs p.seen p.B' p.t_) [my p.c] dW)):=by
 have Sy:Inv rs p.c p.seen p.B' p.t_:=by rw[hp];exact wc hr hI
 have hx:∀ q code,p.out = .exc q code->q=89\/q=70\/q=51:=by rw[hp];exact wA
 obtain⟨j,last,OA,hj,hc2,e4,hv⟩:=JH X rr f t d_ du te xs c rs s k o a (cap+77) isW io en er w l uu is hl h3 hr p hp;obtain⟨Ql,hc3,e5⟩:=Hw X rr f t d_ (.list (wl j++[last])) te xs c rs s k o a (OA - 50) isW io en er w l uu is hl h3 hr OV hI.kl p hp;rw[yI (m:=50) hc2 (by decide)]at e5
 have h7:=Dw X rr f t d_ (a9 isW io en er w uu.st uu.z is) (.list (wl j++[last])) p.out.v xs p.c rs p.seen p.B' p.t_ a (Ql - 7)
 rw[yI (m:=7) (Gj hc2 hc3) (by decide)]at h7
 exact⟨j,last,Ql - 7,hv,KK (Gj hc2 hc3),(aC e4).trans ((aC e5).trans ((aC (La X rr f t d_ (a9 isW io en er w uu.st uu.z is) Ql p.out (HH a xs Zm p.c rs p.seen p.B' p.t_) j last hj hx hv :)).trans ((aC h7).trans (aC (CL X rr f t d_ (a9 isW io en er w uu.st uu.z is) (.list (wl j++[last])) p.out.v xs p.c rs p.seen p.B' p.t_ a (Ql - 7) Sy :)))))⟩
theorem Hk(nb:Bool)(l:List V)(x:SQ)(ha:a < 700000)(hI:Inv rs c s k o)(hr:∀ r∈rs,ei r)(OV:rs.length<=3) :
  Py l X rr x xs rs a cap (eV (.d x::l) (gb X rr f 0 t d_ st du te) (D_ (HH a xs nb c rs s k o) [] (cap+100))):=by
 obtain⟨lb,e0⟩:=Dc X rr f x d_ st du te xs c rs s k o a (cap+100) nb (V6 ha (by decide))
 obtain⟨isW,io,en,er,w,uu,is,a',OH,h3,ha',hc1,e3⟩:=Hc X rr f x (.int lb.z) st du te xs { c with d_:=lb.z } rs s k o (a+1) (cap+97) (U0 ha (by decide))
 obtain⟨j,last,OA,hv,hc2,e4⟩:=II X rr f x (.int lb.z) du te xs { c with d_:=lb.z } rs s k o a' (OH - 97) isW io en er w lb uu is rfl h3 hr OV (uQ hI lb) _ rfl
 rw[yI (m:=97) hc1 (UG _)]at e4;exact Jp X rr f x (.int lb.z) _ xs _ rs _ _ _ a' OA _ j last hv l nb c s k o a (cap+100) cap (wc hr (uQ hI lb)) ha' (Te (Uh hc1) hc2) (MO X rr f t d_ st du te xs c rs s k o a (cap+100) ((aC e0).trans ((Dd X rr f x st du te xs c rs s k o (a+1) (cap+100) nb lb.z).trans ((aC e3).trans e4))))
theorem na{a b n m:Nat}(h:a+21*(n+1) < m)(h2:b<=a+21):b+21*n < m:=U0 (Te (Wc h2 _) (VN ((Xp ..).trans (congrArg (a+·) (Zd ..))))) h
theorem NU{a n m:Nat}(h:a+21*(n+1) < m):a < m:=U0 (TX ..) h
theorem nc{a b n:Nat}(h:100*(n+1)<=a)(h2:a - 100<=b):100*n<=b:=Te (Uh h) h2
theorem NK{a n:Nat}(h:100*(n+1)<=a):a - 100+100=a:=Uq (Te (Ve 100 (100*n)) h)
def Qm(r:R (Fl×LE)):Prop:=(X2 λle' σ'=>r = .ok (.ret (.d (.bool Zm)),le') σ')\/X2 λle' σ'=>r = .ok (.next,le') σ'
theorem Qm.of{r r':R (Fl×LE)}(h:r=r')(h':Qm r'):Qm r:=h▸h'
theorem Cv(hr:∀ r∈rs,ei r)(OV:rs.length<=3):∀ (l:List SQ) (f:Bool) (t d_ st du te:SQ) (c:n_) (s:List SQ) (k:Nat) (o:List SQ) (a cap:Nat) (nb:Bool),a+21*l.length < 700000->100*l.length<=cap->Inv rs c s k o->
  Qm (eV (fL l) (gb X rr f 0 t d_ st du te) (D_ (HH a xs nb c rs s k o) [] cap)):=by
 intro l
 induction l with
 | nil=>exact λf t d_ st du te c s k o a cap nb ha hc hI => .inr ⟨_,_,bM rfl⟩
 | cons x l ih=>
  intro f t d_ st du te c s k o a cap nb ha hc hI;have T:=Hk X rr f t d_ st du te xs c rs s k o a (cap - 100) nb (fL l) x (NU ha) hI hr OV
  rw[NK hc]at T;rcases T with ⟨le',σ',e⟩|⟨RR,st',Sz,SB,c',s',k',o',a',dW,hI',ha',hc',e⟩
  ·exact .inl ⟨le',σ',e⟩
  ·exact .of e (ih Zn x RR st' Sz SB c' s' k' o' a' dW Zm (na ha ha') (nc hc hc') hI')
end
end
section
open PySem
theorem Mm:lS 7 = .For (aq (lS 7)) (.Call (ba (ae (lS 7))) [.BinOp (ba (bl (aN (ae (lS 7))) 0)) .Add (Oz (bl (aN (ae (lS 7))) 0)) (ax (bl (aN (ae (lS 7))) 0))] [] (ax (ae (lS 7)))) (az (lS 7)) [] (bQ (lS 7)):=by kernel_rfl
theorem Ed:G_ OQ:=by
 constructor<;>(constructor<;>decide)
theorem CO(m:Nat)(x:SQ)(σ:VS):∃ σ',cz m (.d x) σ = .ok (.d x) σ':=by
 unfold cz;cases Ue (len σ.o) m with
 | true=>exact⟨_,rfl⟩
 | false=>
  cases eL m m σ.o with
  | true=>exact⟨_,rfl⟩
  | false=>exact⟨_,rfl⟩
section
variable(X rr:SQ)(xs:List Int)(rs:List (List Ent))(a cap:Nat)
theorem y6(hr:∀ r∈rs,ei r)(OV:rs.length<=3)(ha:a<=100)(hc:600<=cap):X2 λle' σ'=>(aa T0 af 78).ex [lS 7,lS 8] J'.scope (gb X rr Zm 0 .none .none .none .none .none) (D_ (HH a xs Zn OQ rs [] 0 []) [] cap) = .ok (.ret (.d (.bool Zm)),le') σ':=by
 obtain⟨v,hv,p1⟩:=bT (sc:=J'.scope) (le:=gb X rr Zm 0 .none .none .none .none .none) (Oz (bl (aN (ae (lS 7))) 0)) 57 a xs (oF (HH a xs Zn OQ rs [] 0 [])++[]) cap (by lia) 3 (by kernel_rfl) (by kernel_rfl) (by kernel_rfl) (by kernel_rfl) (by kernel_rfl)
 have b2:nX .Add (.d (.int 2)) (.d (.int (Tn v))) (bh (a+1) (xs.map Td) (oF (HH a xs Zn OQ rs [] 0 [])++[]) cap) = .ok (.d (.int (Tn (v+2)))) (D_ (HH (a+1) xs Zn OQ rs [] 0 []) [] cap):=by
  apply JF v (by exact Zc hv)<;>kernel_rfl
 have e7:aA T0 (aa T0 af 77) (lS 7) J'.scope (gb X rr Zm 0 .none .none .none .none .none) (D_ (HH a xs Zn OQ rs [] 0 []) [] cap)=eV (fL (mT (v+2))) (gb X rr Zm 0 .none .none .none .none .none) (D_ (HH (a+1) xs Zn OQ rs [] 0 []) [] cap):=by
  conv=>lhs;rw[Mm]
  refine(zv ((bC (f:=ba (ae (lS 7))) (p:=ax (ae (lS 7))) (vf:=wQ) (σ:=D_ (HH a xs Zn OQ rs [] 0 []) [] cap) (σ₁:=bh a (xs.map Td) (oF (HH a xs Zn OQ rs [] 0 [])++[]) cap) (by kernel_rfl) (by kernel_rfl) (by kernel_rfl) (d0 ((rP (l:=ba (bl (aN (ae (lS 7))) 0)) (op := .Add) (p:=ax (bl (aN (ae (lS 7))) 0)) (a := .d (.int 2)) (σ:=bh a (xs.map Td) (oF (HH a xs Zn OQ rs [] 0 [])++[]) cap) (by kernel_rfl) p1 :).trans b2))).trans (pA _ (v+2) _ (by lia)) :)).trans ?_
  rw[show(Tn (v+2)).toNat=v+2 from rfl,kf]
  rfl
 have L:=Cv X rr xs rs hr OV (mT (v+2)) Zm .none .none .none .none .none OQ [] 0 [] (a+1) cap Zn (by rw[dw];lia) (by rw[dw];lia) (⟨Ed,(λx h=>nomatch h),(λx h=>nomatch h),U4 _⟩:Inv rs OQ [] 0 [])
 rcases L with ⟨le',σ',e⟩|⟨le',σ',e⟩
 ·exact⟨le',σ',gh (e7.trans e)⟩
 ·refine⟨le',σ',(aC (e7.trans e)).trans ?_⟩
  kernel_rfl
end
theorem HP(X:List Int):∃ σ',(aa T0 af 86).cl (.val (.ref 830)) [.d (.list (X.map Td))] ⟨[],Zk,1000⟩ = .ok (.d (.bool Zm)) σ':=by
 obtain⟨rs,a',dW,h3,h4,ha,hc,e⟩:=xw 974 X;obtain⟨le',σ',e2⟩:=y6 (.list (X.map Td)) (.list (am rs)) (X.take 110) rs a' dW h4 h3 ha (by exact Nat.le_of_add_left_le hc)
 obtain⟨E_,e3⟩:=CO 0 (.bool Zm) σ'
 refine⟨E_,?_⟩
 exact(iY (n:=85) (fn:=J') (l:=[(bX,.d (.list (X.map Td)))]) rfl Mj (by kernel_rfl) (e.trans (e2:(aa T0 af 78).ex [lS 7,lS 8] J'.scope (MP (.list (X.map Td)) (.list (am rs))) ⟨(H0 a' ((X.take 110).map Td) rs).o (.a_ []),Zk,dW⟩ = .ok (.ret (.d (.bool Zm)),le') σ'))).trans e3
end
section
open PySem PySem.W PyProof.Rows PyProof PySem.Builtin PySem.Builtin.ObjectAttr
def Kp(h h':Tr):Prop:=∀ b o,h.get? b=Zj o->o.cls ≠ .none->h'.get? b=Zj o
def QU(h:Tr)(a:Tc)(m:Tq->Option SX):Prop:=h.Ns a m/\∃ o,h.get? a=Zj o/\o.cls ≠ .none
theorem QU.keeps{h h':Tr}{a:Tc}{m:Tq->Option SX}(x:QU h a m)(k:Kp h h'):QU h' a m:=by
 obtain⟨⟨o,es,ep,e,r⟩,o',e',hc⟩:=x;rw[e]at e';cases e'
 exact⟨⟨o,es,ep,k _ _ e hc,r⟩,o,k _ _ e hc,hc⟩
inductive PW (h:Tr):List SX->Prop
 | nil:PW h PN
 | cons {a:Tc} {c0:SX} {dd:Option Tc} {cd:ClassData} {sl:Array (Option SX)} {mA:Tq->Option SX} {tl:List SX} :
   h.get? a=Zj { cls:=c0,dict:=dd,data := .cls cd,slots:=sl }->c0 ≠ .none->QU h cd.ns mA->(∀ n∈c9,mA n=Zk)->PW h tl->PW h (.ref a::tl)
theorem PW.keeps{h h':Tr}{tl:List SX}(T:PW h tl)(k:Kp h h'):PW h' tl:=by
 induction T with
 | nil=>exact .nil
 | cons a c n m _ ih=>exact .cons (k _ _ a c) c (n.keeps k) m ih
theorem PW.has{h:Tr}{tl:List SX}(T:PW h tl){X:String}{b:Bool}(hb:PN.contains (.type X)=b):tl.contains (.type X)=b:=by
 induction T with
 | nil=>exact hb
 | cons _ _ _ _ _ ih=>(refine b_ List.contains_cons ?_;refine b_ ih ?_);rfl
theorem PW.pass{h:Tr}{tl:List SX}(T:PW h tl)(self:SX):refuseLoop self "__setattr__" tl=pure ():=by
 induction T with
 | nil=>exact Xx.passes self
 | cons _ _ _ _ _ ih=>(refine b_ (refuseLoop_ref ..) ?_;exact b_ (ih ..) rfl)
structure XC (h:Tr) (C:Tc) (bm:List SX):Prop where
 obj:X7 λnm q N bs sn sub ab=>X8 λcol dd k0 k1 k2 k3 k5 mN=>A3 (h.get? C=Zj (excClassObj nm q C N bs bm Zm sn sub ab col dd k0 k1 k2 k3 k5 "Exception.__new__")) (QU h N mN) (∀ n∈c9,mN n=Zk)
 tl:PW h bm
theorem XC.keeps{h h':Tr}{C:Tc}{bm:List SX}(X:XC h C bm)(k:Kp h h'):XC h' C bm:=by
 obtain⟨nm,q,N,bs,sn,sub,ab,col,dd,k0,k1,k2,k3,k5,mN,a,b,c⟩:=X.obj
 exact⟨⟨nm,q,N,bs,sn,sub,ab,col,dd,k0,k1,k2,k3,k5,mN,k _ _ a (λe=>by cases e),b.keeps k,c⟩,X.tl.keeps k⟩
def XI(h:Tr)(C f:Tc):Prop:=∀ {h':Tr},Kp h h'->∀ {M:Ze} {A:TV} {E:SX->S9->Prop} {Q:Option SX->S9->Prop} {g:Array YH} {d:Drawn} {t:Nat} {os:Wo},Q (Zj (.ref f)) ⟨h',g,d,t,os⟩->wpAny M A (typeLookup (.ref C) "__init__") Q E ⟨h',g,d,t,os⟩
section
variable{M:Ze}{A:TV}{E:SX->S9->Prop}{h:Tr}{g:Array YH}{d:Drawn}{t:Nat}{os:Wo}{C x:Tc}{bm:List SX}{o:V3}
theorem XC.look(X:XC h C bm){n:Tq}{y:Option SX}{Q:Option SX->S9->Prop}(hn:n∈c9)(hB:typeLookup (.type "Exception") n=pure y)(hq:Q y ⟨h,g,d,t,os⟩):wpAny M A (typeLookup (.ref C) n) Q E ⟨h,g,d,t,os⟩:=by
 obtain⟨nm,q,N,bs,sn,sub,ab,col,dd,k0,k1,k2,k3,k5,mN,hC,hN,hm⟩:=X.obj;have hr:lookupAlong PN n=pure y:=by rw[Zi,Xx.mro]at hB;exact hB
 refine b_ (Zi ..) ?_
 refine S8 (Yx hC ?_)
 refine b_ (Xc ..) ?_
 refine S8 (Xq hC hN.1 ?_)
 refine b_ (hm n hn) ?_
 have T:=X.tl
 clear X hC hB
 show wpAny M A (lookupAlong bm n) Q E _
 induction T with
 | nil=>(refine b_ hr ?_);exact Tg hq
 | cons ha _ hA hk _ ih=>
  refine b_ (Xc ..) ?_
  refine S8 (wpAny_classOwn_cls ha hA.1 ?_)
  refine b_ (hk n hn) ?_
  exact ih
theorem XC.sub(X:XC h C bm){b:SX}{r:Bool}{Q:Bool->S9->Prop}(hr:(TQ C::bm).contains b=r)(hq:Q r ⟨h,g,d,t,os⟩):wpAny M A (isSubtype (.ref C) b) Q E ⟨h,g,d,t,os⟩:=by
 obtain⟨nm,q,N,bs,sn,sub,ab,col,dd,k0,k1,k2,k3,k5,mN,hC,hN,hm⟩:=X.obj;exact wpAny_isSubtype_exc hC (by(refine b_ hr ?_);exact hq)
theorem XC.Pb(X:XC h C bm){s:String}{b:Bool}(hb:PN.contains (.type s)=b):(TQ C::bm).contains (.type s)=b:=by
 (refine b_ List.contains_cons ?_;refine b_ (X.tl.has hb) ?_);rfl
end
section
variable{prog:VF}{w:V1}{A:TV}{E:SX->S9->Prop}{h:Tr}{g:Array YH}{d:Drawn}{t:Nat}{os:Wo}{C x:Tc}{bm:List SX}{mA:Tq->Option SX}{name:Tq}{v:SX}
theorem tN{M:Ze}{o:V3}{ea:SX}{Q:Unit->S9->Prop}(X:XC h C bm)(hx:h.get? x=Zj o)(hc:o.cls = .ref C)(hq:Q () ⟨h,g,d,t,os⟩) :
  wpAny M A (checkBuiltinCall "object.__setattr__" ⟨[.ref x,ea,v],[]⟩) Q E ⟨h,g,d,t,os⟩:=by
 have SF:=Xx
 unfold checkBuiltinCall;refine b_ (congr (congrArg Prod.mk SF.kind) SF.split) ?_
 dsimp only;refine S8 ?_
 unfold isInstance
 repeat (first|(with_reducible refine TG hx ?_;(refine b_ hc ?_))|with_reducible refine X.sub (X.Pb (by decide):(TQ C::bm).contains (.type "object")=Zm) ?_|wp_step)
 exact hq
def Mq(h:Tr)(x C:Tc)(m:Tq->Option SX)(h':Tr):Prop:=
 h'.Inst x C m/\(∀ b o,b≠x->(∀ o₀ dx,h.get? x=Zj o₀->o₀.dict=Zj dx->b≠dx)->h.get? b=Zj o->h'.get? b=Zj o) /\
  (∀ o₀,h.get? x=Zj o₀->∃ o₁,A4 (h'.get? x=Zj o₁) (o₁.cls=o₀.cls) (o₁.data=o₀.data) (∀ dx,o₁.dict=Zj dx->o₀.dict=Zj dx\/h.get? dx=Zk))
theorem EQ{h₂:Tr}{t₂:Nat}{dx:Tc}{m₂:Tq->Option SX}{tk:Tok}{ns:List Tq}{Q:PySem.Fin->S9->Prop}(hns:h₂.Ns1 dx m₂)(hw:Within m₂ ns)(hsz:ns.length<=10)
  (k:∀ h' tk',h'.Ns1 dx (λy=>if y=name then Zj v else m₂ y)->Tr.SameBut dx h₂ h'->Q (.done (.ret .none)) ⟨h',g,d,tk',os⟩):wpAny (model prog w) A (storeInDict dx (.str name tk) name v) Q E ⟨h₂,g,d,t₂,os⟩:=by
 unfold storeInDict newKeyGuard;refine S8 (Tg (S8 (wpAny_nsSet1 hns λh' hn' hs => ?_)))
 obtain⟨oD,esD,epD,hoD,hdD,hcD⟩:=hn'.count (Within.cons name v hw);refine S8 (wpAny_lookBehind hoD (by(refine b_ hdD ?_);exact pastItsLine_dict (Te hcD (by(refine b_ Ug ?_;refine b_ YM ?_);exact Te (Wh hsz) (by decide)))) ?_)
 wp_walk
 exact k h' _ hn' hs
inductive Ro (h:Tr) (x:Tc) (o:V3) (h₂:Tr):Prop
 | mk:h₂.get? x=Zj { cls:=o.cls,dict:=Zj h.objs.size,data:=o.data,slots:=o.slots }->h₂.Ns h.objs.size (λ_=>Zk)->(∀ b ob,b≠x->h.get? b=Zj ob->h₂.get? b=Zj ob)->Ro h x o h₂
theorem EI{o:V3}(hx:h.get? x=Zj o):Ro h x o ((h.push { cls := .type "dict",data := .dict #[] }).update x λo=>{ cls:=o.cls,dict:=Zj h.objs.size,data:=o.data,slots:=o.slots }):=by
 refine⟨Va _ (Tj _ hx:(h.push { cls := .type "dict",data := .dict #[] }).get? x=Zj o) ?_,⟨_,#[],_,(Tr.get?_update_ne _ _ _ _ (WK (Vr hx):x≠h.objs.size).symm).trans (Tr.get?_push_at rfl rfl),rfl,λe he=>absurd he (by simp),λ_=>rfl⟩,λb ob hb e=>(Tr.get?_update_ne _ _ _ _ hb).trans (Tj _ e)⟩
 have hfr:=(Tr.get?_some_iff.mp hx).2
 obtain⟨oc,od,odt,osl⟩:=o;cases odt<;>first|rfl|exact hfr
theorem mO{tk:Tok}{Q:Fin->S9->Prop}{ns:List Tq}(X:XC h C bm)(hnm:name∈c9)(hB:typeLookup (.type "Exception") name=pure Zk)(I:h.Inst x C mA)
  (hq:∀ h' tk',Mq h x C (λy=>if y=name then Zj v else mA y) h'->Q (.done (.ret .none)) ⟨h',g,d,tk',os⟩) (hw:Within mA ns) (hsz:ns.length<=10) :
  wpAny (model prog w) A (Vp.«object.__setattr__» ⟨[.ref x,.str name tk,v],[]⟩) Q E ⟨h,g,d,t,os⟩:=by
 obtain⟨o,hx,hc,hnc,hd⟩:=I;obtain⟨nm,q,N,bs,sn,sub,ab,col,dd,k0,k1,k2,k3,k5,mN,hC,hN,hm⟩:=X.obj;unfold Vp.«object.__setattr__»
 repeat (first|(refine b_ (refuse_eq ..) ?_;try (with_reducible rfl))|((refine b_ (refuseLoop_ref ..) ?_;refine b_ ((X.tl.pass (.ref x) :) ..) ?_;try (with_reducible rfl)))|(with_reducible refine TG hx ?_;(refine b_ (hc ..) ?_;try (with_reducible rfl)))|with_reducible refine Yx hC ?_|with_reducible refine X.look hnm hB ?_|wp_step)
 rcases hd with ⟨hdn,hmA⟩|⟨dx,hdx,hne,hns⟩
 ·(refine b_ (hdn ..) ?_;refine b_ (if_neg (by simp [typeHasDict]) ..) ?_;try (with_reducible rfl))
  split
  ·rename_i hcd;cases hcd
  split
  ·rename_i c hcd;exact absurd hcd (hnc c)
  refine S8 (wpAny_alloc' (S8 (wpAny_update' (Tj _ hx) (Tg ?_))))
  show wpAny _ _ (storeInDict h.objs.size (.str name tk) name v) _ _ _
  obtain⟨n1,n2,n3⟩:=EI hx;have hxs:x≠h.objs.size:=WK (Vr hx)
  refine EQ (Tr.Ns1.of_empty n2) Within.nil (U4 _) λh' tk' hn' hs=>hq h' tk' ⟨⟨_,(hs.2 x hxs).trans n1,hc,hnc,.inr ⟨h.objs.size,rfl,hxs.symm,?_⟩⟩,λb ob hbx _ hb => ?_,λo₀ h₀ => ?_⟩
  ·(refine b_ (show mA=λ_=>Zk from funext hmA ..) ?_;try (with_reducible rfl));exact hn'
  ·exact(hs.2 b (WK (Vr hb))).trans (n3 b ob hbx hb)
  ·cases hx.symm.trans h₀
   exact⟨_,(hs.2 x hxs).trans n1,rfl,rfl,λdx e => .inr (by cases e;exact U6 (UG _))⟩
 ·(refine b_ (hdx ..) ?_;try (with_reducible rfl))
  refine Tg ?_
  show wpAny _ _ (storeInDict dx (.str name tk) name v) _ _ _
  exact EQ hns hw hsz λh' tk' hn' hs=>hq h' tk' ⟨⟨o,(hs.2 x hne.symm).trans hx,hc,hnc,.inr ⟨dx,hdx,hne,hn'⟩⟩,λb ob _ hbd hb=>(hs.2 b (hbd o dx hx hdx)).trans hb,
   λo₀ h₀=>⟨o₀,(hs.2 x hne.symm).trans h₀,rfl,rfl,λ_ e => .inl e⟩⟩
theorem Db{Q:Unit->S9->Prop}{ns:List Tq}(X:XC h C bm)(hnm:name∈c9)(hB:typeLookup (.type "Exception") name=pure Zk)(I:h.Inst x C mA)
  (hq:∀ h' tk',Mq h x C (λy=>if y=name then Zj v else mA y) h'->Q () ⟨h',g,d,tk',os⟩) (hw:Within mA ns) (hsz:ns.length<=10) :
  wpAny (model prog w) A (PySem.setAttr (.ref x) name v) Q E ⟨h,g,d,t,os⟩:=by
 obtain⟨o,hx,hc,_⟩:=id I;have SF:=Xx
 have f3:=SF.slot.bind (.ref x)
 have hs:("__setattr__":Tq)∈c9 := .head _
 have hl:=SF.slot.lookup
 unfold PySem.setAttr callSpecial? specialOf
 repeat (any_goals (first|assumption|(with_reducible refine TG hx ?_;(refine b_ hc ?_))|with_reducible refine X.look hs hl ?_|wp_step))
 refine Wn SF.slot.plain SF.entry (tN X hx hc (mO X hnm hB I (λh' tk' H => ?_) hw hsz))
 repeat (any_goals (first|assumption|wp_step))
 exact hq h' tk' H
end
end
section
open PySem PySem.W PyProof.Rows PyProof PySem.Builtin PySem.Builtin.ObjectAttr
section
variable{prog:VF}{w:V1}{A:TV}{E:SX->S9->Prop}{h:Tr}{g:Array YH}{d:Drawn}{t:Nat}{os:Wo}{C a dx:Tc}{bm:List SX}{mA:Tq->Option SX}{name:Tq}{v:SX}{o:V3}{vs:Array SX}
theorem sY{M:Ze}{ea:SX}{Q:Unit->S9->Prop}(X:XC h C bm)(hx:h.get? a=Zj o)(hc:o.cls = .ref C)(hq:Q () ⟨h,g,d,t,os⟩):wpAny M A (checkBuiltinCall "BaseException.__getattribute__" ⟨[.ref a,ea],[]⟩) Q E ⟨h,g,d,t,os⟩:=by
 have ha:=F.args_bexc_ga (.ref a) ea
 unfold checkBuiltinCall;refine b_ (congr (congrArg Prod.mk (by decide +kernel:builtinKind "BaseException.__getattribute__"=Zj .slot)) (by decide +kernel:splitId "BaseException.__getattribute__"=Zj ("BaseException","__getattribute__"))) ?_
 dsimp only;refine S8 ?_
 unfold isInstance
 repeat (first|(with_reducible refine TG hx ?_;(refine b_ hc ?_))|with_reducible refine X.sub (X.Pb (s:="BaseException") (b:=Zm) (by decide) :) ?_|wp_step)
 exact hq
theorem JQ{val:SX}{tk:Tok}{fill expr:Bool}{Q:SX->S9->Prop}(X:XC h C bm)(hx:h.get? a=Zj o)(hc:o.cls = .ref C)
  (he:∀ {A E} {Q:Fin->S9->Prop},Q (.done (.ret val)) ⟨h,g,d,t,os⟩->wpAny (model prog w) A (Vp.«object.__getattribute__» ⟨[.ref a,.str name tk],[]⟩) Q E ⟨h,g,d,t,os⟩) (hh:handedOut val=pure val)
  (hq:Q val ⟨h,g,d,t,os⟩):wpAny (model prog w) A (getAttrBy (.ref a) (.str name tk) fill expr) Q E ⟨h,g,d,t,os⟩:=by
 have FB:=F.attrBase_Exception
 have f3:=FB.ga.bind (.ref a)
 have hx0:(expr&&onTheHeap (Vy "BaseException.__getattribute__"))=Zn:=by cases expr<;>rfl
 have hx1:(onTheHeap (TQ C)&&Vy "BaseException.__getattribute__"==Vy "object.__getattribute__")=Zn:=by(refine b_ (by decide +kernel:(Vy "BaseException.__getattribute__"==Vy "object.__getattribute__")=Zn) ?_);rfl
 have hm1:("__getattribute__":Tq)∈c9 := .tail _ (.tail _ (.tail _ (.head _)))
 have hm2:("__getattr__":Tq)∈c9 := .tail _ (.tail _ (.tail _ (.tail _ (.head _))))
 have l1:=FB.ga.lookup
 have l2:=FB.noGetattr
 repeat (any_goals (first|assumption|(with_reducible refine TG hx ?_;(refine b_ hc ?_))|with_reducible refine X.look hm1 l1 ?_|with_reducible refine X.look hm2 l2 ?_|wp_step))
 refine Wn FB.ga.plain F.entry_bexc_ga (sY X hx hc (he ?_))
 repeat (any_goals (first|assumption|wp_step))
theorem Dy{tk:Tok}{Q:Fin->S9->Prop}(X:XC h C bm)(hn:name∈c9)(hB:typeLookup (.type "Exception") name=pure Zk)(hx:h.get? a=Zj o)(hc:o.cls = .ref C)(hd:o.data = .fields vs)(hdx:o.dict=Zj dx)(hns:h.Ns dx mA)(hv:mA name=Zj v)
  (hq:Q (.done (.ret v)) ⟨h,g,d,t,os⟩):wpAny (model prog w) A (Vp.«object.__getattribute__» ⟨[.ref a,.str name tk],[]⟩) Q E ⟨h,g,d,t,os⟩:=by
 obtain⟨nm,q,N,bs,sn,sub,ab,col,dd,k0,k1,k2,k3,k5,mN,hC,hN,hm⟩:=X.obj;unfold Vp.«object.__getattribute__»
 repeat (first|(with_reducible refine TG hx ?_;(refine b_ hc ?_))|with_reducible refine X.look hn hB ?_|wp_step)
 refine b_ hd ?_
 show wpAny (model prog w) A (instanceDict a Zn) _ _ _
 unfold instanceDict
 repeat (first|(with_reducible refine TG hx ?_;(refine b_ hc ?_))|with_reducible refine TG hC ?_|wp_step)
 refine b_ hdx ?_
 repeat (first|(with_reducible refine wpAny_nsGet hns ?_;(refine b_ hv ?_))|wp_step)
 exact hq
theorem Hs{expr:Bool}{Q:SX->S9->Prop}(X:XC h C bm)(hn:name∈c9)(hB:typeLookup (.type "Exception") name=pure Zk)(hx:h.get? a=Zj o)(hc:o.cls = .ref C)(hd:o.data = .fields vs)(hdx:o.dict=Zj dx)(hns:h.Ns dx mA)(hv:mA name=Zj v)(hh:handedOut v=pure v)
  (hq:Q v ⟨h,g,d,t+1,os⟩):wpAny (model prog w) A (PySem.getAttr (.ref a) name expr) Q E ⟨h,g,d,t,os⟩:=by
 unfold PySem.getAttr
 repeat (any_goals (first|assumption|with_reducible apply JQ X hx hc (λq=>Dy X hn hB hx hc hd hdx hns hv q) hh|wp_step))
theorem rC{R:Result->S9->Prop}(X:XC h C bm)(hx:h.get? a=Zj o)(hc:o.cls = .ref C)(hq:R (.ok (.ret (.ref C))) ⟨h,g,d,t,os⟩) :
  codeAny (model prog w) A (.call (.builtin "getset_descriptor.__get__") ⟨[.builtin "object.__class__",.ref a,.ref C],[]⟩) R ⟨h,g,d,t,os⟩:=by
 have hcB:(TQ C::bm).contains (.type (".".intercalate ("object.__class__".cutAt '.').dropLast))=Zm:=by
  (refine b_ F.owner_object_class ?_);exact X.Pb (by decide)
 refine Wn F.slot_gs_get.plain F.entry_gs_get (F.slot_gs_get.check _ _ _ _ _ _ _ _ (Yr:(⟨h,g,d,t,os⟩:S9).TypeIs (.builtin "object.__class__") "getset_descriptor") (F.args_gs_get _ _ _) ?_)
 repeat (any_goals (first|assumption|(with_reducible refine TG hx ?_;(refine b_ hc ?_))|with_reducible refine X.sub hcB ?_|wp_step))
 refine⟨YF _ (by decide +kernel),codeAny_builtin F.entry_object_class ?_⟩
 repeat (any_goals (first|assumption|(with_reducible refine TG hx ?_;(refine b_ hc ?_))|wp_step))
theorem oX:typeLookup (.type "Exception") "__class__"=pure (Zj (.builtin "object.__class__")):=by(refine b_ (Vu ..) ?_;refine b_ (U5 ..) ?_);kernel_rfl
theorem mU{tk:Tok}{Q:Fin->S9->Prop}(X:XC h C bm)(hx:h.get? a=Zj o)(hc:o.cls = .ref C)(hq:Q (.done (.ret (.ref C))) ⟨h,g,d,t,os⟩) :
  wpAny (model prog w) A (Vp.«object.__getattribute__» ⟨[.ref a,.str "__class__" tk],[]⟩) Q E ⟨h,g,d,t,os⟩:=by
 have hT5:(⟨h,g,d,t,os⟩:S9).TypeIs (.builtin "object.__class__") "getset_descriptor":=Yr
 have f5:=Yr
 have f6:=F.slot_gs_get.lookup
 have f7:=F.slot_gs_set.lookup
 have hm:("__class__":Tq)∈c9 := .tail _ (.tail _ (.tail _ (.tail _ (.tail _ (.head _)))))
 repeat (any_goals (first|assumption|(with_reducible refine TG hx ?_;(refine b_ hc ?_))|with_reducible refine X.look hm oX ?_|wp_step))
 refine rC X hx hc ?_
 repeat (any_goals (first|assumption|wp_step))
theorem DW{Q:Option SX->S9->Prop}(X:XC h C bm)(hx:h.get? a=Zj o)(hc:o.cls = .ref C)(hq:Q (Zj (.ref C)) ⟨h,g,d,t+1,os⟩):wpAny (model prog w) A (getAttr? (.ref a) "__class__") Q E ⟨h,g,d,t,os⟩:=by
 unfold getAttr? getAttrBy?
 repeat (any_goals (first|assumption|with_reducible apply JQ X hx hc (λq=>mU X hx hc q) (rfl:handedOut (.ref C)=pure (.ref C))|wp_step))
theorem Kk{k:Tc}{bk:List SX}{r:Bool}{dep:Int}{tk:Tok}{Q:Fin->S9->Prop}(X:XC h C bm)(K:XC h k bk)(hr:(TQ C::bm).contains (.ref k)=r)(hx:h.get? a=Zj o)(hc:o.cls = .ref C)
  (hq:∀ tk,Q (.done (.ret (.bool r))) ⟨h,g,d,tk,os⟩):wpAny (model prog w) A (Vp.«isinstance.nested» ⟨[.ref a,.ref k,.int dep tk],[]⟩) Q E ⟨h,g,d,t,os⟩:=by
 obtain⟨nm,q,N,bs,sn,sub,ab,col,dd,k0,k1,k2,k3,k5,mN,hK,hN,hm⟩:=K.obj;obtain⟨nm',q',N',bs',SC,sub',ab',col',SD,SE,k1',k2',SG,SH,mN',hC,hN',hm'⟩:=X.obj;have tt:=tc_sub
 have h1:=hq t
 have h2:=hq (t+1)
 by_cases he:(TQ C==TQ k)=Zm
 ·have:C=k:=by simpa using he
  subst this
  have:r=Zm:=by(refine A' hr ?_);simp
  subst this
  repeat (any_goals (first|assumption|(with_reducible refine TG hx ?_;(refine b_ hc ?_))|wp_step))
 ·have he':(TQ C==TQ k)=Zn:=by simpa using he
  cases r with
  | true=>repeat (any_goals (first|assumption|(with_reducible refine TG hx ?_;(refine b_ hc ?_))|with_reducible refine TG hK ?_|with_reducible refine X.sub hr ?_|wp_step))
  | false=>repeat (any_goals (first|assumption|(with_reducible refine TG hx ?_;(refine b_ hc ?_))|with_reducible refine TG hK ?_|with_reducible refine TG hC ?_|with_reducible refine X.sub hr ?_|with_reducible refine DW X hx hc ?_|wp_step))
theorem oo{k:Tc}{bk:List SX}{r:Bool}{Q:SX->S9->Prop}(X:XC h C bm)(K:XC h k bk)(hr:(TQ C::bm).contains (.ref k)=r)(hx:h.get? a=Zj o)(hc:o.cls = .ref C)
  (hq:∀ tk,Q (.bool r) ⟨h,g,d,tk,os⟩):wpAny (model prog w) A (call (.builtin "isinstance") [.ref a,.ref k]) Q E ⟨h,g,d,t,os⟩:=by
 have M:Meets (Vp.«isinstance» ⟨[.ref a,.ref k],[]⟩) (λ_ R s=>s=⟨h,g,d,t,os⟩/\∀ tk,R (.ok (.ret (.bool r))) ⟨h,g,d,tk,os⟩):=λ_ _ _ _ _ hs=>by
  obtain⟨rfl,hs⟩:=hs;exact isinstance_outer (Kk X K hr hx hc hs) (λe=>by cases e)
 exact call_isinstance M ⟨rfl,λtk=>hq tk⟩
end
end
section
open PySem PySem.W PyProof.Rows PyProof
structure XF (B:Base):Prop where
 sub:∀ k c r,B.T.sub k c=Zj r->X2 λbm bm'=>A3 (XC B.h₀ k bm) (XC B.h₀ c bm') ((TQ k::bm).contains (.ref c)=r)
 exc:∀ c kc,B.T.cl c=Zj kc->kc.exc.isSome=Zm->(B.T.sub c c).isSome=Zm
section
variable{B:Base}{A:TV}{ρ:e_}{fr:List Tc}{σ:VS}{s:S9}{n:Nat}{E:SX->S9->Prop}{q:Tc×Tc}{c:Tc}{i:Int}
theorem SR.kp(S:SR B ρ fr σ s):Kp B.h₀ s.heap:=λb o e hc=>S.O2 e hc
theorem XF.of(X:XF B){c:Tc}(h:(B.T.sub c c).isSome=Zm):∃ bm,XC B.h₀ c bm:=by
 obtain⟨r,hr⟩:=Wj.mp h;obtain⟨bm,_,h,_⟩:=X.sub c c r hr
 exact⟨bm,h⟩
theorem SR.RS(S:SR B ρ fr σ s)(hx:σ.x=Zj (c,i))(hq:ρ.x=Zj q):Pk B s.heap c i q:=by
 obtain⟨c',i',h,e⟩:=S.Oz hq;rw[hx]at h;cases h;exact e
theorem El(X:XF B):lt B:=λ{A ρ fr σ s c i q ex E Q} S hx hq hi k=>by
 obtain⟨o,vs,mA,ho,hc,hdd,hd,hz,hn,⟨hs,t,hm⟩,_⟩:=S.RS hx hq;obtain⟨bm,hX⟩:=X.of hs;rcases hm with hm|hm
 ·obtain⟨hh,g,d,tk,os⟩:=s;exact Hs (hX.keeps S.kp) (.tail _ (.head _)) (by(refine b_ (Vu ..) ?_;refine b_ (U5 ..) ?_);kernel_rfl) ho hc hd hdd hn.ns hm rfl (k t _)
 ·exact absurd hm hi
theorem G0(X:XF B):vF B:=λ{A ρ fr σ s k c i q r E Q} S hx hq hr kk=>by
 obtain⟨o,vs,mA,ho,hc,hdd,hd,hz,hn,_⟩:=S.RS hx hq;obtain⟨bm,bm',h1,h2,h3⟩:=X.sub k c r hr;obtain⟨hh,g,d,tk,os⟩:=s;exact oo (h1.keeps S.kp) (h2.keeps S.kp) h3 ho hc kk
theorem GJ(X:XF B):nY B:=λ{A ρ fr σ s k c i q r E Q} S hx hq hr kk=>by
 obtain⟨o,vs,mA,ho,hc,hdd,hd,hz,hn,_⟩:=S.RS hx hq;obtain⟨bm,bm',h1,h2,h3⟩:=X.sub k c r hr;have X2:=h2.keeps S.kp
 obtain⟨nm,q',N,bs,sn,sub,ab,col,dd,k0,k1,k2,k3,k5,mN,hC,_⟩:=X2.obj;have f:=tc_notTuple
 obtain⟨hh,g,d,tk,os⟩:=s;have kk:=kk tk
 unfold excMatches
 repeat (first|(with_reducible refine TG ho ?_;(refine b_ hc ?_))|with_reducible refine TG hC ?_|with_reducible refine X2.sub (X2.Pb (s:="BaseException") (b:=Zm) (by decide) :) ?_|with_reducible refine(h1.keeps S.kp :).sub h3 ?_|wp_step)
 cases r<;>(repeat (first|assumption|wp_step))
theorem yr(X:XF B)(Fa:Facts B):pT B:=λ{c kc} hc {A ρ fr σ s E Q} S k=>by
 have:X8 λnm q N bs bm hdct sn sub=>X9 λab col dd k0 k1 k2 k3 k5 newId=>s.heap.get? c=Zj (excClassObj nm q c N bs bm hdct sn sub ab col dd k0 k1 k2 k3 k5 newId):=by
  cases he:kc.exc.isNone with
  | true=>
   obtain⟨N,mN,hC,hN,_⟩:=(Fa.cls c kc hc he).ex;obtain⟨nm,q,bs,sn,sub,col,dd,k0,k1,k2,k3,k5,e⟩:=(gL S hC hN).obj
   exact⟨nm,q,N,bs,_,_,sn,sub,_,col,dd,k0,k1,k2,k3,k5,_,e⟩
  | false=>
   obtain⟨bm,h⟩:=X.of (X.exc c kc hc (by cases h:kc.exc with|none=>rw[h]at he;cases he|some _=>rfl))
   obtain⟨nm,q,N,bs,sn,sub,ab,col,dd,k0,k1,k2,k3,k5,mN,e,_⟩:=(h.keeps S.kp).obj
   exact⟨nm,q,N,bs,bm,_,sn,sub,ab,col,dd,k0,k1,k2,k3,k5,_,e⟩
 obtain⟨nm,q,N,bs,bm,hdct,sn,sub,ab,col,dd,k0,k1,k2,k3,k5,newId,e⟩:=this;obtain⟨hh,g,d,tk,os⟩:=s;exact wpAny_keeperOf_exc e (k _)
theorem AU(X:XF B):pN B:=λ{A fr s env x E Q} h=>by
 unfold raiseStmt;refine S8 (TJ h (λv s₁ h₁ => ?_) λ_ _ x=>x)
 obtain⟨ρ,σ,q,rfl,S,hq,hh,k⟩:=h₁;obtain⟨c,i,hx,e⟩:=S.Oz hq;obtain⟨o,vs,mA,ho,hc,hdd,hd,hz,hn,⟨hs,_⟩,_⟩:=e;obtain⟨bm,hX⟩:=X.of hs;have X1:=hX.keeps S.kp
 obtain⟨nm,q',N,bs,sn,sub,ab,col,dd,k0,k1,k2,k3,k5,mN,hC,_⟩:=X1.obj;have go:wpAny B.M A (do setFlight (.ref q.1) Zk;(raiseNew (.ref q.1):Xk Flow)) Q E s₁:=by
  refine S8 (bJ S hq Zk λs₂ S₂ T₂ _ => ?_)
  have kE:=k s₂ S₂ T₂
  unfold raiseNew;refine S8 (wpAny_handled ?_)
  rcases hh with hh|hh
  ·(refine b_ hh ?_);exact S8 (Tg (XJ kE))
  ·(refine b_ hh ?_)
   show wpAny B.M A (if (TQ q.1 != TQ q.1)=Zm then _ else throw (TQ q.1):Xk Flow) Q E s₂
   refine b_ (if_neg (by simp)) ?_
   exact XJ kE
 obtain⟨hp,g,d,tk,os⟩:=s₁
 repeat (first|exact go|(with_reducible refine TG ho ?_;(try (refine b_ hd ?_));(try (refine b_ hc ?_)))|with_reducible refine TG hC ?_|with_reducible refine X1.sub (X1.Pb (s:="BaseException") (b:=Zm) (by decide) :) ?_|wp_step)
end
end
section
open PySem PySem.W PyProof.Rows PyProof PySem.Builtin PySem.Builtin.ObjectAttr
def lZ(h:Tr):Prop:=∃ mc,h.Ns cStatics mc/\mc "thirdparty.any"=Zk
section
variable{prog:VF}{w:V1}{A:TV}{E:SX->S9->Prop}{h:Tr}{g:Array YH}{d:Drawn}{t:Nat}{os:Wo}{C f:Tc}{bm:List SX}{of:V3}
theorem No:Frag.In [] h:=λ_ _ e=>by cases e
theorem ry{pl:Xk Bool}{Q:SX×List SX->S9->Prop}(hq:Q (.builtin "Exception.__init__",[]) ⟨h,g,d,t+1,os⟩):wpAny (model prog w) A (getMethod (.type "Exception") "__init__" pl) Q E ⟨h,g,d,t,os⟩:=by
 have L0:Looks (model prog w) h (typeOf (.type "Exception")) (.type "type"):=Looks.of_pure (by kernel_rfl:typeOf (.type "Exception")=pure (.type "type"))
 have X:Frag.In [] h:=No
 have hg:findIn [] (.type "type") "__getattribute__"=Zj (Zj (.builtin "type.__getattribute__")):=type_tga
 unfold getMethod specialOf;refine S8 (S8 (L0.here ((looks_findIn X hg).here ?_)))
 dsimp only;refine b_ (if_pos canon_tga) ?_
 refine S8 (TJ (Q:=λv=>Q (v,[])) (E:=E) ?_ (λ_ _ z=>Tg z) λ_ _ z=>z)
 exact cls_open (s:=⟨h,g,d,t,os⟩) X (Looks.of_pure (by unfold opaqueClassAbove;dsimp only;rw[show Manifest.isStub "Exception"=Zn by kernel_rfl];rfl:opaqueClassAbove (.type "Exception")=pure Zk)) L0 hg (looks_hook X (r:=Zk) (by rfl)) (by show subIn [] _ _=_;rfl) (show findCls [] (.type "Exception") (.type "type") "__init__"=Zj (.val (.builtin "Exception.__init__"))by kernel_rfl)
  (Tg (by show wpAny _ _ (handedOut _) _ _ _;(refine b_ (handedOut_of (by decide +kernel)) ?_);exact Tg hq))
theorem yZ{Q:Option Tq->S9->Prop}{M:Ze}(N:lZ h)(hq:Q Zk ⟨h,g,d,t,os⟩):wpAny M A (opaqueClassAbove (.ref C)) Q E ⟨h,g,d,t,os⟩:=by
 obtain⟨mc,hN,hm⟩:=N;unfold opaqueClassAbove anyOpaqueLoaded
 repeat (first|assumption|(with_reducible refine wpAny_nsGet hN ?_;(refine b_ hm ?_))|wp_step)
theorem KV{tk:Tok}{Q:Fin->S9->Prop}(N:lZ h)(X:XC h C bm)(I:XI h C f)(hf:h.get? f=Zj of)(hfc:of.cls = .type "function")(hq:Q (.done (.ret (.ref f))) ⟨h,g,d,t,os⟩) :
  wpAny (model prog w) A (Vp.«type.__getattribute__» ⟨[.ref C,.str "__init__" tk],[]⟩) Q E ⟨h,g,d,t,os⟩:=by
 obtain⟨nm,q,N',bs,sn,sub,ab,col,dd,k0,k1,k2,k3,k5,mN,hC,hN,hm⟩:=X.obj;have l1:typeLookup (.type "type") "__init__"=pure (Zj (.builtin "type.__init__")):=by(refine b_ (Vu ..) ?_;refine b_ (U5 ..) ?_);kernel_rfl
 have t1:typeOf (.builtin "type.__init__")=pure (.type "wrapper_descriptor"):=by kernel_rfl
 have l2:typeLookup (.type "wrapper_descriptor") "__get__"=pure (Zj (.builtin "wrapper_descriptor.__get__")):=by(refine b_ (Vu ..) ?_;refine b_ (U5 ..) ?_);kernel_rfl
 have l3:typeLookup (.type "wrapper_descriptor") "__set__"=pure Zk:=by(refine b_ (Vu ..) ?_;refine b_ (U5 ..) ?_);kernel_rfl
 have l4:typeLookup (.type "wrapper_descriptor") "__delete__"=pure Zk:=by(refine b_ (Vu ..) ?_;refine b_ (U5 ..) ?_);kernel_rfl
 unfold Vp.«type.__getattribute__» specialOf
 repeat (any_goals (first|assumption|with_reducible refine yZ N ?_|(with_reducible refine TG hC ?_)|(with_reducible refine TG hf ?_;(refine b_ hfc ?_))|wp_step))
 refine I (λ_ _ e _=>e:Kp h h) ?_
 show wpAny _ _ (if heldUnderItsOwnName "__init__" (.ref f)=Zm then _ else _) _ _ _
 refine b_ (if_neg (by simp [heldUnderItsOwnName])) ?_
 repeat (any_goals (first|assumption|(with_reducible refine TG hf ?_;(refine b_ hfc ?_))|wp_step))
theorem Da{pl:Xk Bool}{Q:SX×List SX->S9->Prop}(N:lZ h)(X:XC h C bm)(I:XI h C f)(hf:h.get? f=Zj of)(hfc:of.cls = .type "function")(hq:Q (.ref f,[]) ⟨h,g,d,t+1,os⟩) :
  wpAny (model prog w) A (getMethod (.ref C) "__init__" pl) Q E ⟨h,g,d,t,os⟩:=by
 obtain⟨nm,q,N',bs,sn,sub,ab,col,dd,k0,k1,k2,k3,k5,mN,hC,hN,hm⟩:=X.obj;have L0:Looks (model prog w) h (typeOf (.ref C)) (.type "type"):=λA E Q s' k hq=>by
  obtain⟨h',g',d',t',os'⟩:=s';exact wpAny_typeOf (T:="type") ⟨_,k _ _ hC,rfl⟩ hq
 have hg:findIn [] (.type "type") "__getattribute__"=Zj (Zj (.builtin "type.__getattribute__")):=type_tga
 have K:Frag.In [] h:=No
 unfold getMethod specialOf;refine S8 (S8 (L0.here ((looks_findIn K hg).here ?_)))
 dsimp only;refine b_ (if_pos canon_tga) ?_
 refine S8 (TJ (Q:=λv=>Q (v,[])) (E:=E) ?_ (λ_ _ z=>Tg z) λ_ _ z=>z)
 refine S8 (wpAny_mkText (Ua (S8 (L0 _ _ _ _ (λ_ _ e=>e) (S8 (looks_findIn K hg _ _ _ _ (λ_ _ e=>e) ?_))))))
 dsimp only;rw[show(onTheHeap (.type "type")&&Vy "type.__getattribute__"==Vy "object.__getattribute__")=Zn from by rw[show(Vy "type.__getattribute__"==Vy "object.__getattribute__")=Zn from by decide +kernel,Bool.and_false],if_neg (by decide)]
 refine S8 (YQ (a:=Zk) (by rfl) (S8 (Zh (Ua ?_))))
 unfold callGetattribute;refine b_ (show(Zn&&onTheHeap (Vy "type.__getattribute__"))=Zn from rfl) ?_;refine b_ (if_neg (by decide)) ?_
 unfold boundAndCalled;refine b_ (KF.slot_tga.bind ..) ?_
 refine S8 (Tg ?_)
 show wpAny _ _ (call (.builtin "type.__getattribute__") [.ref C,.str "__init__" t]) _ _ _
 refine wpAny_call (Wn KF.slot_tga.plain KF.entry_tga ?_)
 refine @check_slot (model prog w) _ _ ⟨h,g,d,t+1,os⟩ "type.__getattribute__" "type" "__getattribute__" (.ref C) [.str "__init__" t] [] _ (by decide +kernel) (by decide +kernel) (L0.andThen (looks_subIn K (by show subIn [] (.type "type") (.type "type")=Zj Zm;rfl))) (KF.args_tga (.ref C) (.str "__init__" t)) ?_
 refine KV N X I hf hfc ?_
 show wpAny _ _ (handedOut (.ref f)) _ _ _
 exact Tg hq
end
end
section
open PySem PySem.W PyProof.Rows PyProof PySem.Builtin PySem.Builtin.ObjectAttr
noncomputable abbrev qL(C t:Tc):V3:={ cls := .ref C,data := .fields #[.ref t,.none,.none,.none,.bool Zn,.none] }
section
variable{prog:VF}{w:V1}{A:TV}{E:SX->S9->Prop}{h:Tr}{g:Array YH}{d:Drawn}{t:Nat}{os:Wo}{C e:Tc}{bm:List SX}{o:V3}
theorem oq{M:Ze}{rest:List SX}{Q:Unit->S9->Prop}(X:XC h C bm)(he:h.get? e=Zj o)(hc:o.cls = .ref C)(hq:Q () ⟨h,g,d,t,os⟩):wpAny M A (checkBuiltinCall "Exception.__init__" ⟨.ref e::rest,[]⟩) Q E ⟨h,g,d,t,os⟩:=by
 have F:=Wt
 have hcB:=X.Pb (s:="Exception") (b:=Zm) (by decide)
 have hshort:=F.noStar
 obtain⟨nm,q,N',bs,sn,sub,ab,col,dd,k0,k1,k2,k3,k5,mN,hC,hN,hm⟩:=X.obj;unfold checkBuiltinCall;refine b_ (congr (congrArg Prod.mk F.initKind) F.initSplit) ?_
 dsimp only
 repeat (first|(with_reducible refine TG he ?_;(refine b_ hc ?_))|with_reducible refine TG hC ?_|with_reducible refine X.sub hcB ?_|wp_step)
 refine wpAny_onRaise ?_
 rw[show ∀ (a b:String) (n:Nat),Bind.check ⟨.positional,"*","Exception",.self,[⟨"args",.varPos,Zn⟩]⟩ a b n (List.map (λx=>x.fst) ({ pos:=TQ e::rest }:Args).kw)=pure () from
  λa b n=>check_star_args _ _ _ _ _ _]
 exact Tg hq
theorem G4{rest:List SX}{vs:Array SX}{Q:SX->S9->Prop}(X:XC h C bm)(he:h.get? e=Zj o)(hc:o.cls = .ref C)(hd:o.data = .fields vs){x0:SX}(h0:vs[0]? = Zj x0)(hl:rest.length<=sizeLine)
  (hq:∀ h' vs',(∀ b ob,b≠e->h.get? b=Zj ob->h'.get? b=Zj ob)->h'.get? e=Zj { cls := .ref C,dict:=o.dict,data := .fields vs',slots:=o.slots }->vs'.size=vs.size->(∀ i,0 < i->vs'[i]? = vs[i]?)->Q .none ⟨h',g,d,t,os⟩) :
  wpAny (model prog w) A (call (.builtin "Exception.__init__") (.ref e::rest)) Q E ⟨h,g,d,t,os⟩:=by
 have F:=Wt
 refine wpAny_call (Wn F.init.plain F.initEntry (oq X he hc ?_))
 have he₁:(h.push { cls := .type "tuple",data := .seq rest.toArray }).get? e=Zj o:=Tj _ he
 have go:Q .none ⟨(h.push { cls := .type "tuple",data := .seq rest.toArray }).update e (Vj (·.setIfInBounds 0 (.ref h.objs.size))),g,d,t,os⟩:=by
  refine hq _ (vs.setIfInBounds 0 (.ref h.objs.size)) (λb ob hb eb=>(Vf _ _ (Vd hb)).trans (Tj _ eb)) ?_ (by simp) λi hi=>by(exact b_ (Y0 (by exact Vd (Nat.ne_zero_of_lt hi))) rfl)
  refine b_ (Va (Vj (·.setIfInBounds 0 (.ref h.objs.size))) he₁ (VH (VG hd _)) :) ?_
  obtain⟨oc,od,odt,osl⟩:=o;cases hd;cases hc;rfl
 show wpAny _ _ (do let t <- newTuple rest;BaseException.bexcPut (.ref e) 0 t;ret .none) _ _ _
 refine S8 (wpAny_newTuple ?_ hl)
 refine S8 ?_
 unfold BaseException.bexcPut;refine S8 (Vg he₁ hd h0 (S8 (WX he₁ hd ((Array.getElem?_eq_some_iff.mp h0).1:0 < vs.size) ?_)))
 cases x0<;>first|exact Tg (Tg go)|exact wpAny_letGo (Tg go)
theorem rY{M:Ze}{rest:List SX}{Q:Unit->S9->Prop}(X:XC h C bm)(hq:Q () ⟨h,g,d,t,os⟩):wpAny M A (checkBuiltinCall "Exception.__new__" ⟨.ref C::rest,[]⟩) Q E ⟨h,g,d,t,os⟩:=by
 have F:=Wt
 have hstar:=F.noStar
 obtain⟨nm,q,N',bs,sn,sub,ab,col,dd,k0,k1,k2,k3,k5,mN,hC,hN,hm⟩:=X.obj;unfold checkBuiltinCall;refine b_ (congr (congrArg Prod.mk F.newKind) F.newSplit) ?_
 dsimp only
 repeat (first|refine TG hC ?_|refine X.sub (X.Pb (s:="Exception") (b:=Zm) (by decide) :) ?_|refine wpAny_staticBase_exc hC ?_|refine wpAny_madeBy_exc hC ?_|simp only[bne_self_eq_false,Wv,if_false]|wp_step)
 exact hq
theorem Jv{rest:List SX}{R:Result->S9->Prop}(X:XC h C bm)(hrest:rest.length<=sizeLine)
  (hq:R (.ok (.ret (.ref (h.objs.size+1)))) ⟨(h.push { cls := .type "tuple",data := .seq rest.toArray }).push (qL C h.objs.size),g,d,t,os⟩) :
  codeAny (model prog w) A (.builtin "Exception.__new__" ⟨.ref C::rest,[]⟩) R ⟨h,g,d,t,os⟩:=by
 have F:=Wt
 have hends:=F.ends
 have hcB:=X.Pb (s:="Exception") (b:=Zm) (by decide)
 have hcA:=X.Pb (s:="AttributeError") (b:=Zn) (by decide)
 have hcN:=X.Pb (s:="NameError") (b:=Zn) (by decide)
 obtain⟨nm,q,N',bs,sn,sub,ab,col,dd,k0,k1,k2,k3,k5,mN,hC,hN,hm⟩:=X.obj;refine codeAny_builtinAt F.entry ?_
 unfold Vp.«BaseException.__new__»;refine _root_.PySem.wpAt_bind ?_
 show _root_.PySem.wpAt _ _ _ (stack >>= _) _ _ _
 refine _root_.PySem.wpAt_bind (_root_.PySem.wpAt_stack λp below=>_root_.PySem.wpAt_of_wpAny ?_)
 wp_walk
 refine _root_.PySem.wpAt_of_wpAny ?_
 refine b_ F.owner ?_
 repeat (first|with_reducible refine wpAny_madeHere_exc F.canon hC ?_|with_reducible refine TG hC ?_|with_reducible refine X.sub hcB ?_|with_reducible refine X.sub hcA ?_|with_reducible refine X.sub hcN ?_|wp_step)
 show R _ _
 refine b_ (V2 ..) ?_
 exact hq
theorem qY{f:Tc}{of:V3}{rest:List SX}{Q:Fin->S9->Prop}(X:XC h C bm)(I:XI h C f)(hf:h.get? f=Zj of)(hfc:of.cls = .type "function")(hrest:rest.length<=sizeLine)
  (hq:∀ h',(∀ b o,h.get? b=Zj o->h'.get? b=Zj o)->h'.get? (h.objs.size+1)=Zj (qL C h.objs.size)->
   wpAny (model prog w) A (call (.ref f) (.ref (h.objs.size+1)::rest)) (λr s'=>r = .none/\Q (.done (.ret (.ref (h.objs.size+1)))) s') E ⟨h',g,d,t,os⟩) :
  wpAny (model prog w) A (Vp.«type.__call__» ⟨.ref C::rest,[]⟩) Q E ⟨h,g,d,t,os⟩:=by
 obtain⟨nm,q,N',bs,sn,sub,ab,col,dd,k0,k1,k2,k3,k5,mN,hC,hN,hm⟩:=X.obj
 repeat (first|with_reducible refine TG hC ?_|with_reducible refine wpAny_madeBy_exc hC ?_|wp_step)
 refine codeAny_call_builtin_code (YF _ Wt.quiet) (rY X ?_)
 refine Jv X hrest ?_
 show wpAny _ _ _ _ _ _
 have hk:∀ b o,h.get? b=Zj o->((h.push { cls := .type "tuple",data := .seq rest.toArray }).push (qL C h.objs.size)).get? b=Zj o:=λb o e=>Tj _ (Tj _ e)
 have hC₁:=hk _ _ hC
 have hget:((h.push { cls := .type "tuple",data := .seq rest.toArray }).push (qL C h.objs.size)).get? (h.objs.size+1)=Zj (qL C h.objs.size):=by heap_get
 have X₁:=X.keeps λb o e _=>hk b o e
 have kp:Kp h ((h.push { cls := .type "tuple",data := .seq rest.toArray }).push (qL C h.objs.size)):=λb o e _=>hk b o e
 have hcC:(TQ C::bm).contains (.ref C)=Zm:=by simp
 unfold isInstance
 repeat (first|with_reducible refine TG hget ?_|with_reducible refine X₁.sub hcC ?_|wp_step)
 show wpAny _ _ (typeLookup (.ref C) _) _ _ _
 refine I kp ?_
 refine Ua (S8 ?_)
 unfold bindSpecial;refine S8 (wpAny_typeOf (T:="function") ⟨_,(hk _ _ hf :),hfc⟩ ?_)
 refine b_ (if_pos (by decide)) ?_
 refine Tg (S8 (TJ (hq _ hk hget) (λr s' hr => ?_) λ_ _ x=>x))
 obtain⟨rfl,hQ⟩:=hr
 wp_walk
 exact hQ
theorem Ih{f:Tc}{of:V3}{rest:List SX}{Q:SX->S9->Prop}(X:XC h C bm)(I:XI h C f)(hf:h.get? f=Zj of)(hfc:of.cls = .type "function")(hrest:rest.length<=sizeLine)
  (hq:∀ h',(∀ b o,h.get? b=Zj o->h'.get? b=Zj o)->h'.get? (h.objs.size+1)=Zj (qL C h.objs.size)->
   wpAny (model prog w) (A.under (.builtin "type.__call__" ⟨.ref C::rest,[]⟩)) (call (.ref f) (.ref (h.objs.size+1)::rest)) (λr s'=>r = .none/\Q (.ref (h.objs.size+1)) s') E ⟨h',g,d,t,os⟩) :
  wpAny (model prog w) A (call (.ref C) rest) Q E ⟨h,g,d,t,os⟩:=by
 obtain⟨nm,q,N',bs,sn,sub,ab,col,dd,k0,k1,k2,k3,k5,mN,hC,hN,hm⟩:=X.obj;have f1:=tc_lookup
 have f2:=tc_bind (.ref C)
 have hT:(⟨h,g,d,t,os⟩:S9).TypeIs (.ref C) "type":=⟨_,hC,rfl⟩
 refine wpAny_call (codeAny_of_tree ?_)
 show wpAny _ _ (callAny (.ref C) _) _ _ _
 repeat (any_goals (first|assumption|with_reducible refine TG hC ?_|wp_step))
 refine⟨rfl,?_⟩
 refine codeAny_call_builtin_at (YF _ (by decide +kernel)) entry_typeCall (wpAny_check_type_call_sub hC (qY X I hf hfc hrest λh' k e => ?_))
 exact hq h' k e
end
end
section
open PySem PySem.W PyProof.Rows PyProof
structure Pc (B:Base) (h:Tr):Prop where
 kp:Kp B.h₀ h
 lim:h.NoLimit
 any:lZ h
 g:h.Ns mainGlobals B.mg
 b:h.Ns builtinsNs B.mb
theorem Pc.keeps{B:Base}{h h':Tr}(X:Pc B h)(k:∀ b o,h.get? b=Zj o->h'.get? b=Zj o):Pc B h':=
 ⟨λb o e hc=>k _ _ (X.kp b o e hc),X.lim.keeps k,by obtain⟨mc,a,b⟩:=X.any;exact⟨mc,a.keeps k,b⟩,X.g.keeps k,X.b.keeps k⟩
structure PF (env:WD) (sc:Tz) (m:Tq->Option SX) (h:Tr):Prop where
 scope:env.scope=sc
 glob:env.globals=mainGlobals
 bi:env.builtins=builtinsNs
 ns:h.Ns env.locals m
noncomputable def vK(sc:Tz):Bool:=sc.names.all λx => !(x.2 == .cell)
noncomputable def locs(sc:Tz)(ps:List Tq):Bool:=ps.all λx=>ah sc.names x==Zj .local
section
variable{B:Base}{A:TV}{E:SX->S9->Prop}{s:S9}{env:WD}{sc:Tz}{m:Tq->Option SX}
theorem gf(F:PF env sc m s.heap)(hk:sc.kind = .function){x:Tq}{p:Vw}{v:SX}(hl:ah sc.names x=Zj .local)(hv:m x=Zj v)(hd:(x==("__debug__":Tq))=Zn){Q:SX->S9->Prop}(q:Q v s):wpAny B.M A (eval (.Name x p) env) Q E s:=
 wpAny_Name (wpAny_loadName_local (by(refine b_ (F.scope ..) ?_);exact hk) (by unfold WD.kindOf;(refine b_ (F.scope ..) ?_;refine A' (cZ ..) ?_);exact hl) F.ns hv q) hd
theorem pW(F:PF env sc m s.heap)(X:Pc B s.heap)(hk:sc.kind = .function){x:Tq}{p:Vw}{v:SX}(hl:ah sc.names x=Zj .globalImplicit)(hv:B.mg x=Zj v\/(B.mg x=Zk/\B.mb x=Zj v))(hd:(x==("__debug__":Tq))=Zn){Q:SX->S9->Prop}(q:Q v s) :
  wpAny B.M A (eval (.Name x p) env) Q E s:=by
 refine Calls.Name_function_global (by(refine b_ (F.scope ..) ?_);exact hk) (by unfold WD.kindOf;(refine b_ (F.scope ..) ?_;refine A' (cZ ..) ?_);exact hl) ?_ hd
 rcases hv with hv|⟨h1,h2⟩
 ·exact Calls.loadGlobal_global (by(refine b_ F.glob ?_);exact X.g) hv q
 ·exact Calls.loadGlobal_builtin (by(refine b_ F.glob ?_);exact X.g) h1 (by(refine b_ F.bi ?_);exact X.b) h2 q
set_option backward.match.sparseCases true in
theorem mi{f:Tc}{fn:Fn}(X:PD B f fn)(XE:Pc B s.heap)(hroom:A.depth < recursionLimit)(hnc:vK fn.scope=Zm)(hl:locs fn.scope fn.params=Zm)(hdf:fn.Pd=[]){us:List SX}(hu:us.length=fn.params.length){Q:SX->S9->Prop}
  (k:∀ env h' tk,PF env fn.scope (λx=>(fn.params.zip us).reverse.lookup x) h'->(∀ b o,s.heap.get? b=Zj o->h'.get? b=Zj o)->(A.deeper env).depth=A.depth+1->s.heap.get? env.locals=Zk->
   wpAny B.M (A.deeper env) (execs fn.body env) (λfl s'=>Q (match fl with | .ret v=>v|_ => .none) s') (λ_ _=>False) { s with heap:=h',toks:=tk }):wpAny B.M A (call (.ref f) us) Q E s:=by
 obtain⟨⟨o,fd,ho,hc,hd,hcd,hpa,hnm,hbody,hsc,hg,hb,hcl,hnest,RT⟩,h1,h2,h3⟩:=X;have ho':=XE.kp _ _ ho (by(refine b_ hc ?_);simp)
 have hcd':∃ q,s.heap.CodeRec fd.code q:=by
  obtain⟨q,c,oc,vs,t,e1,_,e2,e3,e4,e5⟩:=hcd
  exact⟨q,c,oc,vs,t,e1,XE.kp _ _ e2 (λz=>by rw[z]at e3;cases e3),e4,e5⟩
 obtain⟨q,hcd'⟩:=hcd';obtain⟨p1,p2⟩:=gD h2;have hdn:Pg s fd.defaults []:=by
  rcases RT with ⟨e,_⟩|⟨T,oT,items,n,xs,e1,e2,e3,e4,e5,e6⟩
  ·exact .inl ⟨e,rfl⟩
  ·have:xs=[]:=by
    rw[hdf]at e5;cases xs with
    | nil=>rfl
    | cons=>cases e5
   subst this;unfold PRs at e6;exact .inr ⟨T,oT,items,n,e1,XE.kp _ _ e2 (by(refine b_ e3 ?_);simp),e4,e6⟩
 obtain⟨o1,o2,o3,o4⟩:=eK h1;rw[<- hsc]at o1 o2 o3;refine wpAny_call (f4 hroom ho' hd (by first|exact o2|exact o3|exact o1) (by first|exact o3|exact o2|exact o1) hbody hcd' ((eG (s:=s) hpa (by(refine A' (eJ ..) ?_);exact hnm:fd.params.args.map (·.arg)=fn.params) p1 hdn (U4 _) (us:=us) (.inl ⟨hu,rfl⟩) :) _ _ _ _ ?_))
 refine b_ hg ?_;refine b_ hb ?_;refine b_ hcl ?_
 refine wpAny_newFunctionEnv (λx hx => ?_) (λx hx => ?_) (λh' hns hsb=>⟨XE.lim.fresh _ hsb,codeAny_func (TJ (k _ h' _ ⟨hsc,rfl,rfl,hns⟩ (λb o e=>hsb.extBut b o (WK (Vr e)) (Tj _ e)) rfl (U6 (UG _))) (λ_ _ z=>z) λ_ _ z=>z.elim)⟩) (by first|exact o1|exact o2|exact o3)
 ·rw[hsc]at hx
  have:=Xw.mp hnc x hx
  intro z;rw[z]at this;exact absurd this (by decide)
 ·have:=Xw.mp hl x.1 (List.of_mem_zip hx).1
  refine b_ (hsc ..) ?_;refine A' (cZ ..) ?_
  simpa using this
theorem jJ{o:Expr}{mm:Tq}{ap pos p':Vw}{as:List Expr}{f:SX}{Q:Flow->S9->Prop}(hi:env.scope.kind = .function)(ho:cX o=Zn)(hl:(ap.endLine==pos.line)=Zm)(hf:bH 20 as=Zm)
  (h:wpAny B.M A (eval o env) (λov s₁=>∀ pl,wpAny B.M A (getMethod ov mm pl) (λfx s₂=>fx=(f,[])/\wpAny B.M A (spliced (backTo pos (starEach as env))) (λvs s₃=>(∀ Q':Keeper->S9->Prop,(∀ k,Q' k s₃)->wpAny B.M A (keeperOf f) Q' E s₃) /\
   wpAny B.M A (call f vs) (λ_=>Q .next) E s₃) E s₂) E s₁) E s):wpAny B.M A (exec (.Expr (.Call (.Attribute o mm ap) as [] pos) p') env) Q E s:=by
 obtain⟨t1,t2,t3⟩:=eN env pos hf;refine wpAny_Expr_any ?_ (by unfold interactive;(refine b_ hi ?_);rfl) (pM rfl ..)
 refine b_ (arm_eval_Call ..) ?_;refine b_ (cV ho ..) ?_
 have hform:methodCallForm (as.length+([]:List Keyword).length) (backTo pos (starEach as env)) (backToKw pos (keywordEach [] env))=Zm:=by
  unfold methodCallForm;refine b_ t2 ?_
  show(Zm&&Zm&&decide (as.length+0+0 < 30))=Zm
  simp;lia
 refine S8 (TJ h (λov s₁ h₁=>S8 (Um ?_)) λ_ _ x=>x)
 unfold methodCall;refine b_ hform ?_
 unfold calleeOf;refine S8 (Ua (TJ (h₁ _) (λfx s₂ h₂ => ?_) λ_ _ x=>x))
 obtain⟨rfl,h₂⟩:=h₂;refine S8 (YQ (by unfold methodCallPos;simp [hl]:methodCallPos Zm o env ap pos=pure pos) ?_)
 exact dP t1 (TJ h₂ (λvs s₃ h₃=>⟨h₃.1,h₃.2⟩) λ_ _ x=>x)
end
end
section
open PySem PySem.W PyProof.Rows PyProof
structure XW (h₁:Tr) (K:Tc->Option V3) (e C:Tc) (m:Tq->Option SX) (n:Nat) (h:Tr):Prop where
 sub:∀ b o,h₁.get? b=Zj o->K b=Zj o
 OZ:∀ b o,K b=Zj o->h.get? b=Zj o
 new:K e=Zk
 obj:X2 λo vs=>A7 (h.get? e=Zj o) (o.cls = .ref C) (o.data = .fields vs) (vs.size=6) (vs[1]? = Zj .none) (vs[2]? = Zj .none) (((o.dict=Zk/\∀ n,m n=Zk)\/∃ d,A4 (o.dict=Zj d) (d≠e) (K d=Zk) (h.Ns1 d m)))
 w:∃ ns,Within m ns/\ns.length<=n
section
variable{h₁ h h':Tr}{K K':Tc->Option V3}{e C:Tc}{m:Tq->Option SX}{n:Nat}
theorem XW.keep(W:XW h₁ K e C m n h):∀ b o,h₁.get? b=Zj o->h.get? b=Zj o:=λb o e=>W.OZ b o (W.sub b o e)
theorem XW.grow(W:XW h₁ K e C m n h)(k:∀ b o,h.get? b=Zj o->h'.get? b=Zj o):XW h₁ K e C m n h':=by
 obtain⟨o,vs,h1,h2,h3,h4,h5,h6,h7⟩:=W.obj
 exact⟨W.sub,λb o e=>k _ _ (W.OZ b o e),W.new,⟨o,vs,k _ _ h1,h2,h3,h4,h5,h6,h7.imp id λ⟨d,a,b,c,f⟩=>⟨d,a,b,c,f.at λo e=>k _ _ e⟩⟩,W.w⟩
theorem XW.more(W:XW h₁ K e C m n h){L:Tc}(hh:∃ h₀:Tr,A3 (h₀.get? L=Zk) (XW h₁ K e C m n h₀) (∀ b o,h₀.get? b=Zj o->h.get? b=Zj o)):XW h₁ (λb=>if b=L then h.get? L else K b) e C m n h:=by
 obtain⟨h₀,hL,W₀,k⟩:=hh;obtain⟨o,vs,h1,h2,h3,h4,h5,h6,h7⟩:=W₀.obj;have hn:∀ b,(∃ o,h₀.get? b=Zj o)->b≠L:=λb ⟨o,ho⟩ z=>by rw[z,hL]at ho;cases ho
 refine⟨λb o hb => ?_,λb o hb => ?_,?_,⟨o,vs,k _ _ h1,h2,h3,h4,h5,h6,h7.imp id λ⟨d,a,b,c,f⟩=>⟨d,a,b,?_,f.at λo e=>k _ _ e⟩⟩,W.w⟩
 ·show(if b=L then h.get? L else K b)=_
  (refine b_ (if_neg (hn b ⟨o,W₀.keep b o hb⟩)) ?_);exact W.sub b o hb
 ·by_cases z:b=L
  ·rw[if_pos z]at hb;(refine b_ z ?_);exact hb
  ·rw[if_neg z]at hb;exact W.OZ b o hb
 ·show(if e=L then h.get? L else K e)=Zk
  (refine b_ (if_neg (hn e ⟨o,h1⟩)) ?_);exact W.new
 ·show(if d=L then h.get? L else K d)=Zk
  obtain⟨od,_,_,hd,_⟩:=f
  (refine b_ (if_neg (hn d ⟨od,hd⟩)) ?_);exact c
theorem XW.less(W:XW h₁ K' e C m n h)(hs:∀ b o,h₁.get? b=Zj o->K b=Zj o)(k:∀ b o,K b=Zj o->K' b=Zj o):XW h₁ K e C m n h:=by
 obtain⟨o,vs,h1,h2,h3,h4,h5,h6,h7⟩:=W.obj;have hn:∀ b,K' b=Zk->K b=Zk:=λb hb=>by
  cases q:K b with
  | none=>rfl
  | some o=>rw[k b o q]at hb;cases hb
 exact⟨hs,λb o e=>W.OZ _ _ (k _ _ e),hn _ W.new,⟨o,vs,h1,h2,h3,h4,h5,h6,h7.imp id λ⟨d,a,b,c,f⟩=>⟨d,a,b,hn _ c,f⟩⟩,W.w⟩
theorem XW.inst(W:XW h₁ K e C m n h):h.Inst e C m:=by
 obtain⟨o,vs,h1,h2,h3,h4,h5,h6,h7⟩:=W.obj
 exact⟨o,h1,h2,(λc hc=>by rw[h3]at hc;cases hc),h7.imp id λ⟨d,a,b,c,f⟩=>⟨d,a,b,f⟩⟩
theorem XW.put(W:XW h₁ K e C m n h){x:Tq}{v:SX}(S:Mq h e C (λy=>if y=x then Zj v else m y) h'):XW h₁ K e C (λy=>if y=x then Zj v else m y) (n+1) h':=by
 obtain⟨o,vs,h1,h2,h3,h4,h5,h6,h7⟩:=W.obj;obtain⟨⟨o',i1,i2,i3,i4⟩,k,l⟩:=S;obtain⟨o₁,j1,j2,j3,j4⟩:=l o h1;rw[i1]at j1;cases j1;have hold:∀ dx,o.dict=Zj dx->K dx=Zk:=λdx hd=>by
  rcases h7 with ⟨z,_⟩|⟨d,a,_,c,_⟩
  ·rw[z]at hd;cases hd
  ·rw[hd]at a;cases a;exact c
 refine⟨W.sub,λb ob eb => ?_,W.new,⟨o',vs,i1,i2,j3.trans h3,h4,h5,h6,i4.imp id ?_⟩,?_⟩
 ·refine k b ob (λz=>by rw[z,W.new]at eb;cases eb) (λo₀ dx g1 g2 z => ?_) (W.OZ _ _ eb)
  rw[h1]at g1;cases g1;rw[z,hold dx g2]at eb;cases eb
 ·rintro⟨d,a,b,c⟩
  refine⟨d,a,b,?_,c⟩
  rcases j4 d a with z|z
  ·exact hold d z
  ·cases q:K d with
   | none=>rfl
   | some od=>rw[W.OZ _ _ q]at z;cases z
 ·obtain⟨ns,a,b⟩:=W.w
  exact⟨x::ns,Within.cons x v a,by simpa using b⟩
end
structure O9 (fn:Fn) (pn:List Tq) (gn:Tq):Prop where
 ps:fn.params=pn
 nc:vK fn.scope=Zm
 locs:locs fn.scope pn=Zm
 gl:ah fn.scope.names gn=Zj .globalImplicit
 kind:fn.scope.kind = .function
 df:fn.Pd=[]
section
variable{B:Base}{A:TV}{E:SX->S9->Prop}{s:S9}{h₁:Tr}{K:Tc->Option V3}{e C f:Tc}{bm:List SX}{m:Tq->Option SX}{n:Nat}{fn:Fn}
theorem fB{sc:Tz}{ps:List Tq}(h:locs sc ps=Zm){x:Tq}(hx:x∈ps):ah sc.names x=Zj .local:=by
 have:=Xw.mp h x hx
 simpa using this
theorem AH{env:WD}{p p' p'' pos:Vw}{sc:Tz}{lm:Tq->Option SX}(X:XC h₁ C bm)(W:XW h₁ K e C m n s.heap)(QL:n<=9)(F:PF env sc lm s.heap)(hk:sc.kind = .function){x:Tq}{v:SX}(hx:x∈c9)(hB:typeLookup (.type "Exception") x=pure Zk)
  (h1:ah sc.names "self"=Zj .local) (h2:ah sc.names x=Zj .local) (m1:lm "self"=Zj (.ref e)) (m2:lm x=Zj v) (hd:(x==("__debug__":Tq))=Zn) {Q:Flow->S9->Prop}
  (k:∀ h' tk,XW h₁ K e C (λy=>if y=x then Zj v else m y) (n+1) h'->Q .next { s with heap:=h',toks:=tk }):wpAny B.M A (exec (.Assign [.Attribute (.Name "self" p) x p'] (.Name x p'') pos) env) Q E s:=by
 refine plainObj_wpAny_Assign_Attribute (gf F hk h2 m2 hd (gf F hk h1 m1 (by decide) ?_)) (pM rfl ..)
 obtain⟨ns,hw,hl⟩:=W.w;obtain⟨hh,g,d,tk,os⟩:=s;exact Db (X.keeps λb o e _=>W.keep b o e) hx hB W.inst (λh' tk' S=>k h' tk' (W.put S)) hw (by lia)
theorem nU(X:PD B f fn)(P:O9 fn ["self","text"] "Exception")
  (hb:Qy λp1 p2 p3 p4 p5 p6 p7 p8 p9 QM=>(p2.endLine==p5.line)=Zm/\fn.body=[.Expr (.Call (.Attribute (.Name "Exception" p1) "__init__" p2) [.Name "self" p3,.Name "text" p4] [] p5) p6,.Assign [.Attribute (.Name "self" p7) "text" p8] (.Name "text" p9) QM])
  (hE:B.mg "Exception"=Zk/\B.mb "Exception"=Zj (.type "Exception")) (XE:Pc B h₁) (XX:XC h₁ C bm) (W:XW h₁ K e C m n s.heap) (QL:n<=9) (hr:A.depth<=900) {tv:SX} {Q:SX->S9->Prop}
  (k:∀ s',XW h₁ K e C (λy=>if y="text" then Zj tv else m y) (n+1) s'.heap->s'.gens=s.gens->s'.os=s.os->Q .none s'):wpAny B.M A (call (.ref f) [.ref e,tv]) Q E s:=by
 obtain⟨p1,p2,p3,p4,p5,p6,p7,p8,p9,QM,hp,hb⟩:=hb;have hps:=P.ps
 refine mi X (XE.keeps W.keep) (by show A.depth < 1000;lia) P.nc (by(refine b_ hps ?_);exact P.locs) P.df (by(refine b_ hps ?_);rfl) λenv h' tk F hk' _ hL => ?_
 rw[hps]at F;refine b_ hb ?_
 have W':=W.grow hk'
 have l1:=fB P.locs (show("self":Tq)∈(["self","text"]:List Tq)from .head _)
 have l2:=fB P.locs (show("text":Tq)∈(["self","text"]:List Tq)from .tail _ (.head _))
 have m1:(λx:Tq=>((["self","text"]:List Tq).zip [TQ e,tv]).reverse.lookup x) "self"=Zj (TQ e):=by rfl
 have m2:(λx:Tq=>((["self","text"]:List Tq).zip [TQ e,tv]).reverse.lookup x) "text"=Zj tv:=by rfl
 refine Wr (jJ (f := .builtin "Exception.__init__") (by(refine b_ F.scope ?_);exact P.kind) rfl hp rfl ?_)
 refine pW F (XE.keeps W'.keep) P.kind P.gl (.inr hE) (by decide) λpl=>ry ⟨rfl,?_⟩
 have F₂:PF env fn.scope _ h':=F
 refine W0 (gf (s:=⟨h',_,_,_,_⟩) F₂ P.kind l1 m1 (by decide) (W0 (gf (s:=⟨h',_,_,_,_⟩) F₂ P.kind l2 m2 (by decide) (spliced_none ⟨λQ' q=>Tg (q _),?_⟩))))
 obtain⟨o,vs,h1,h2,h3,h4,h5,h6,h7⟩:=W'.obj;refine G4 (XX.keeps λb o e _=>W'.keep b o e) h1 h2 h3 (VJ (by exact Yi h4):vs[0]? = Zj vs[0]) (by size_fits) λh'' vs' k1 k2 k3 k4 => ?_
 have PV:XW h₁ K e C m n h'':=by
  refine⟨W'.sub,λb ob eb=>k1 b ob (λz=>by rw[z,W'.new]at eb;cases eb) (W'.OZ _ _ eb),W'.new,⟨_,vs',k2,rfl,rfl,k3.trans h4,(k4 1 (by exact Nat.one_pos)).trans h5,(k4 2 (by exact Nat.zero_lt_two)).trans h6,h7.imp id λ⟨d,a,b,c,f⟩=>⟨d,a,b,c,f.at λo' e'=>k1 _ _ b e'⟩⟩,W'.w⟩
 refine Wr (AH (s:=⟨h'',_,_,_,_⟩) XX PV QL (⟨F.scope,F.glob,F.bi,F.ns.at λo' e'=>k1 _ _ (λz=>by rw[z,h1]at e';cases e';obtain⟨o2,es,ep,g1,g2,_⟩:=F.ns;rw[z,h1]at g1;cases g1;rw[h3]at g2;cases g2) e'⟩:PF env fn.scope _ h'') P.kind (x:="text") (.tail _ (.tail _ (.head _))) (by(refine b_ (Vu ..) ?_;refine b_ (U5 ..) ?_);kernel_rfl) l1 l2 m1 m2 (by decide) λh3 tk3 QN => ?_)
 exact V8 (k _ QN rfl rfl)
end
open PySem PySem.W PyProof.Rows PyProof
section
variable{B:Base}{A:TV}{E:SX->S9->Prop}{s:S9}{h₁:Tr}{K:Tc->Option V3}{e C c f f':Tc}{bm bc:List SX}{m:Tq->Option SX}{n:Nat}{fn Rr:Fn}
theorem PD.keep{h:Tr}(X:PD B f fn)(k:Kp B.h₀ h):X2 λo fd=>A3 (h.get? f=Zj o) (o.cls = .type "function") (o.data = .func fd):=by
 obtain⟨⟨o,fd,ho,hc,hd,_⟩,_⟩:=X
 exact⟨o,fd,k _ _ ho (by(refine b_ hc ?_);simp),hc,hd⟩
theorem PD.P_{s:S9}(X:PD B f fn)(k:Kp B.h₀ s.heap){Q:Keeper->S9->Prop}(h:∀ k,Q k s):wpAny B.M A (keeperOf (.ref f)) Q E s:=by
 obtain⟨o,fd,ho,hc,hd⟩:=X.keep k;unfold keeperOf;refine S8 (Yo ho ?_)
 refine b_ hd ?_
 exact Tg (h _)
structure XT (B:Base) (c f:Tc) (fn:Fn) (bc:List SX):Prop where
 fn:PD B f fn
 xc:XC B.h₀ c bc
 xi:XI B.h₀ c f
theorem XT.meth{s:S9}(T:XT B c f fn bc)(XE:Pc B s.heap){pl:Xk Bool}{Q:SX×List SX->S9->Prop}(q:Q (.ref f,[]) { s with toks:=s.toks+1 }):wpAny B.M A (getMethod (.ref c) "__init__" pl) Q E s:=by
 obtain⟨o,fd,ho,hc,hd⟩:=T.fn.keep XE.kp;obtain⟨hh,g,d,tk,os⟩:=s;exact Da XE.any (T.xc.keeps XE.kp) (λk=>T.xi λb o e hc=>k _ _ (XE.kp b o e hc) hc) ho hc q
def uf(B:Base)(f:Tc)(fn:Fn):Prop:=O9 fn ["self","text"] "Exception" /\
 (Qy λp1 p2 p3 p4 p5 p6 p7 p8 p9 QM=>(p2.endLine==p5.line)=Zm/\fn.body=[.Expr (.Call (.Attribute (.Name "Exception" p1) "__init__" p2) [.Name "self" p3,.Name "text" p4] [] p5) p6,.Assign [.Attribute (.Name "self" p7) "text" p8] (.Name "text" p9) QM]) /\
 B.mg "Exception"=Zk/\B.mb "Exception"=Zj (.type "Exception")
def Io(B:Base)(c f:Tc)(fn:Fn):Prop:=O9 fn ["self","code","text"] "F77Error" /\
 (Qy λp1 p2 p3 p4 p5 p6 p7 p8 p9 QM=>(p2.endLine==p5.line)=Zm/\fn.body=[.Expr (.Call (.Attribute (.Name "F77Error" p1) "__init__" p2) [.Name "self" p3,.Name "text" p4] [] p5) p6,.Assign [.Attribute (.Name "self" p7) "code" p8] (.Name "code" p9) QM]) /\
 B.mg "F77Error"=Zj (.ref c)
theorem ww(T:XT B c f' Rr bc)(Kt:uf B f' Rr)(X:PD B f fn)(Ki:Io B c f fn)(XE:Pc B h₁)(XX:XC h₁ C bm)(W:XW h₁ K e C m n s.heap)(QL:n<=8)(hr:A.depth<=800){cv tv:SX}{Q:SX->S9->Prop}
  (k:∀ (s':S9) (m':Tq->Option SX),XW h₁ K e C (λy=>if y="code" then Zj cv else m' y) (n+1+1) s'.heap->s'.gens=s.gens->s'.os=s.os->Q .none s'):wpAny B.M A (call (.ref f) [.ref e,cv,tv]) Q E s:=by
 obtain⟨P,⟨p1,p2,p3,p4,p5,p6,p7,p8,p9,QM,hp,hb⟩,hE⟩:=Ki;have hps:=P.ps
 refine mi X (XE.keeps W.keep) (by show A.depth < 1000;lia) P.nc (by(refine b_ hps ?_);exact P.locs) P.df (by(refine b_ hps ?_);rfl) λenv h' tk F hk' hdp hL => ?_
 rw[hps]at F;refine b_ hb ?_
 have W':=W.grow hk'
 have l1:=fB P.locs (show("self":Tq)∈(["self","code","text"]:List Tq)from .head _)
 have m1:(λx:Tq=>((["self","code","text"]:List Tq).zip [TQ e,cv,tv]).reverse.lookup x) "self"=Zj (TQ e):=by rfl
 refine Wr (jJ (f := .ref f') (by(refine b_ F.scope ?_);exact P.kind) rfl hp rfl ?_)
 refine pW F (XE.keeps W'.keep) P.kind P.gl (.inl hE) (by decide) λpl=>T.meth (XE.keeps W'.keep) ⟨rfl,?_⟩
 refine W0 (gf (s:=⟨h',_,_,_,_⟩) F P.kind l1 m1 (by decide) (W0 (gf (s:=⟨h',_,_,_,_⟩) F P.kind (fB P.locs (show("text":Tq)∈(["self","code","text"]:List Tq)from .tail _ (.tail _ (.head _))) :) (by rfl:(λx:Tq=>((["self","code","text"]:List Tq).zip [TQ e,cv,tv]).reverse.lookup x) "text"=Zj tv) (by decide) (spliced_none ⟨λQ' q=>T.fn.P_ (XE.keeps W'.keep).kp q,?_⟩))))
 refine nU T.fn Kt.1 Kt.2.1 Kt.2.2 XE XX (W'.more (L:=env.locals) ⟨_,hL,W,hk'⟩) (by exact Nat.le_succ_of_le QL) (by(refine b_ hdp ?_);lia) λs'' PV e1 e2 => ?_
 have F₂:PF env fn.scope _ s''.heap:=⟨F.scope,F.glob,F.bi,F.ns.at λo e=>PV.OZ _ _ (by show(if env.locals=env.locals then _ else _)=_;(refine b_ (if_pos rfl) ?_);exact e)⟩
 have QN:=PV.less (K:=K) W.sub λb o hb=>by
  show(if b=env.locals then _ else _)=_
  (refine b_ (if_neg (λz=>by rw[z]at hb;rw[W.OZ _ _ hb]at hL;cases hL)) ?_);exact hb
 refine Wr (AH XX QN (by exact Wh QL) F₂ P.kind (x:="code") (.tail _ (.head _)) (by(refine b_ (Vu ..) ?_;refine b_ (U5 ..) ?_);kernel_rfl) l1 (fB P.locs (show("code":Tq)∈(["self","code","text"]:List Tq)from .tail _ (.head _)) :) m1 (by rfl:(λx:Tq=>((["self","code","text"]:List Tq).zip [TQ e,cv,tv]).reverse.lookup x) "code"=Zj cv) (by decide) λh3 tk3 RU => ?_)
 exact V8 (k _ _ RU e1 e2)
def E0(B:Base)(c f:Tc)(fn:Fn):Prop:=O9 fn ["self","text"] "IoFault" /\
 (Qy λp1 p2 p3 p4 p5 p6 p7 p8 p9 k=>A3 ((p2.endLine==p5.line)=Zm) (fn.body=[.Expr (.Call (.Attribute (.Name "IoFault" p1) "__init__" p2) [.Name "self" p3,.UnaryOp .USub (.Constant (.int 1) k p7) p8,.Name "text" p4] [] p5) p6]) (p9=p8)) /\
 B.mg "IoFault"=Zj (.ref c)
theorem zo{c₂ f₂:Tc}{Pi:Fn}{b₂:List SX}(T₂:XT B c₂ f₂ Pi b₂)(T:XT B c f' Rr bc)(Kt:uf B f' Rr)(Ki:Io B c f₂ Pi)(X:PD B f fn)(Ke:E0 B c₂ f fn)(XE:Pc B h₁)(XX:XC h₁ C bm)(W:XW h₁ K e C m n s.heap)(QL:n<=8)(hr:A.depth<=700){tv:SX}{Q:SX->S9->Prop}
  (k:∀ (s':S9) (m':Tq->Option SX) t,XW h₁ K e C (λy=>if y="code" then Zj (.int (-1) t) else m' y) (n+1+1) s'.heap->s'.gens=s.gens->s'.os=s.os->Q .none s'):wpAny B.M A (call (.ref f) [.ref e,tv]) Q E s:=by
 obtain⟨P,⟨p1,p2,p3,p4,p5,p6,p7,p8,p9,kk,hp,hb,_⟩,hE⟩:=Ke;have hps:=P.ps
 refine mi X (XE.keeps W.keep) (by show A.depth < 1000;lia) P.nc (by(refine b_ hps ?_);exact P.locs) P.df (by(refine b_ hps ?_);rfl) λenv h' tk F hk' hdp hL => ?_
 rw[hps]at F;refine b_ hb ?_
 have W':=W.grow hk'
 refine Wr (jJ (f := .ref f₂) (by(refine b_ F.scope ?_);exact P.kind) rfl hp rfl ?_)
 refine pW F (XE.keeps W'.keep) P.kind P.gl (.inl hE) (by decide) λpl=>T₂.meth (XE.keeps W'.keep) ⟨rfl,?_⟩
 refine W0 (gf (s:=⟨h',_,_,_,_⟩) F P.kind (fB P.locs (show("self":Tq)∈(["self","text"]:List Tq)from .head _) :) (by rfl:(λx:Tq=>((["self","text"]:List Tq).zip [TQ e,tv]).reverse.lookup x) "self"=Zj (TQ e)) (by decide) (W0 (wpAny_UnaryOp (wpAny_Constant_int (neg_int ?_)))))
 refine W0 (gf (s:=⟨h',_,_,_,_⟩) F P.kind (fB P.locs (show("text":Tq)∈(["self","text"]:List Tq)from .tail _ (.head _)) :) (by rfl:(λx:Tq=>((["self","text"]:List Tq).zip [TQ e,tv]).reverse.lookup x) "text"=Zj tv) (by decide) (spliced_none ⟨λQ' q=>T₂.fn.P_ (XE.keeps W'.keep).kp q,?_⟩))
 refine ww T Kt T₂.fn Ki XE XX W' QL (by(refine b_ hdp ?_);lia) λs'' m' PV e1 e2 => ?_
 exact V8 (k _ _ _ PV e1 e2)
end
end
section
open PySem PySem.W PyProof.Rows PyProof
structure XM (B:Base):Prop extends XF B where
 any:lZ B.h₀
 R7:Qy λc₁ f₁ fn₁ b₁ c₂ f₂ Pi b₂ Qn Qa=>A4 (XT B c₁ f₁ fn₁ b₁/\uf B f₁ fn₁) (XT B c₂ f₂ Pi b₂/\Io B c₁ f₂ Pi) (PD B Qn Qa/\E0 B c₂ Qn Qa) (∀ c kc k,B.T.cl c=Zj kc->kc.exc=Zj k->∃ bm,XC B.h₀ c bm/\match k with | .run=>XI B.h₀ c f₁ | .io=>XI B.h₀ c f₂ | .eof=>XI B.h₀ c Qn)
section
variable{B:Base}{A:TV}{ρ:e_}{fr:List Tc}{σ:VS}{s s':S9}{n:Nat}{E:SX->S9->Prop}{q:Tc×Tc}{c:Tc}{i:Int}
theorem SR.RV(S:SR B ρ fr σ s)(hx:ρ.x=Zk)(hk:∀ b o,s.heap.get? b=Zj o->s'.heap.get? b=Zj o)(hg:s'.gens=s.gens)(hos:s'.os=s.os)(h1:s.heap.get? q.1=Zk)(h2:s.heap.get? q.2=Zk)(hne:q.1≠q.2)(hE:Pk B s'.heap c i q) :
  SR B { ρ with x:=Zj q } fr ⟨σ.o,Zj (c,i),σ.cap⟩ s'/\dR B ρ fr s { ρ with x:=Zj q } s':=by
 have hn:∀ b,(b=q.1\/b=q.2)->s.heap.get? b=Zk:=by rintro b (rfl|rfl)<;>assumption
 have own:∀ b,aj { ρ with x:=Zj q } fr b->aj ρ fr b\/s.heap.get? b=Zk:=by
  rintro b (h|⟨q',hq',h⟩|h|h)
  ·exact .inl (.inl h)
  ·cases hq';exact .inr (hn b h)
  ·exact .inl (.inr (.inr (.inl h)))
  ·exact .inl (.inr (.inr (.inr h)))
 have still:Still s.heap (aj ρ fr) s'.heap (aj { ρ with x:=Zj q } fr):=⟨λb o e _ _=>hk b o e,own,λb o e => .inr ⟨o,hk b o e⟩⟩
 have goes:v_ ρ { ρ with x:=Zj q }:=⟨λ_ _ h => .inl h,λq' h=>by rw[hx]at h;cases h⟩
 have cells:Cells s.heap s'.heap:=⟨⟨λb o v e _ _=>⟨o,hk b o e,rfl,rfl⟩⟩,λb o ts e _ _=>hk b o e⟩
 have QO:∀ b,(b=q.1\/b=q.2)->¬ aj ρ fr b:=λb hb h=>by
  obtain⟨x,hx⟩:=S.there h;rw[hn b hb]at hx;cases hx
 refine⟨⟨S.len,λj p hp => ?_,S.gone,S.sep,S.L_,λq' hq' => ?_,λb hb => ?_,hE,cK S.base still λb o₀ o _ e=>hk b o e,hg.trans S.gens,hos.trans S.os,S.cap,S.Os⟩,
  ⟨⟨goes,still,cells,rfl,λb _ o e=>⟨o.slots,hk b o e⟩⟩,λb _ o e=>⟨o.slots,hk b o e⟩⟩⟩
 ·obtain⟨o,ho,r⟩:=S.obj j p hp
  exact⟨o,ho,OR.mono goes still cells.toCell1 o p (λb x _ e=>hk b x e) r⟩
 ·cases hq'
  exact⟨hne,λb hb=>⟨λh=>QO b hb (.inr (.inr (.inl h))),λh=>QO b hb (.inr (.inr (.inr h))),S.fresh0 (hn b hb),λj p hp h=>QO b hb (.inl ⟨j,p,hp,h⟩)⟩⟩
 ·obtain⟨h0,o,ho,hd⟩:=S.frB b hb
  exact⟨h0,o,hk b o ho,hd⟩
theorem SR.RW(G:Glob B)(hl:B.h₀.NoLimit)(ha:lZ B.h₀)(S:SR B ρ fr σ s):Pc B s.heap:=by
 have hst:∀ mc,B.h₀.Ns cStatics mc->s.heap.Ns cStatics mc:=λmc h=>by
  obtain⟨o,es,ep,e,r⟩:=h
  exact⟨o,es,ep,S.base.stat o e,r⟩
 obtain⟨mc,h1,h2⟩:=hl;obtain⟨SI,h3,h4⟩:=ha
 exact⟨S.kp,⟨mc,hst _ h1,h2⟩,⟨SI,hst _ h3,h4⟩,lw S G.g.1 G.g.2,lw S G.b.1 G.b.2⟩
theorem xK{k:Ek}{vs:List V}(h:ua k vs=Zj i):(k = .run/\∃ x,vs=[.d (.str x)]/\i=0)\/(k = .io/\∃ x,vs=[.d (.int i),.d (.str x)])\/(k = .eof/\∃ x,vs=[.d (.str x)]/\i = -1):=by
 cases k with
 | run=>
  obtain⟨v,h1,h⟩:=aD h;obtain⟨x,h2,h⟩:=aD h;refine b_ (dC h1) ?_;refine b_ (kH h2) ?_
  exact .inl ⟨rfl,x,rfl,(Tf h).symm⟩
 | io=>
  obtain⟨p,h1,h⟩:=aD h;obtain⟨j,h2,h⟩:=aD h;obtain⟨x,h3,h⟩:=aD h;refine b_ (ui h1) ?_;refine b_ (db h2) ?_;refine b_ (kH h3) ?_;refine b_ (Tf h) ?_
  exact .inr (.inl ⟨rfl,x,rfl⟩)
 | eof=>
  obtain⟨v,h1,h⟩:=aD h;obtain⟨x,h2,h⟩:=aD h;refine b_ (dC h1) ?_;refine b_ (kH h2) ?_
  exact .inr (.inr ⟨rfl,x,rfl,(Tf h).symm⟩)
theorem Ay{h:Tr}{ow:Tc->Prop}{v:V}{us:List SX}(r:k_ B ρ h ow [v] us):∃ u,us=[u]/\VR B ρ h ow v u:=by
 unfold k_ at r;obtain⟨u,us',rfl,r1,r2⟩:=r;unfold k_ at r2;subst r2
 exact⟨u,rfl,r1⟩
theorem Jk{h:Tr}{ow:Tc->Prop}{v w:V}{us:List SX}(r:k_ B ρ h ow [v,w] us):X2 λu u'=>us=[u,u']/\VR B ρ h ow v u:=by
 unfold k_ at r;obtain⟨u,us',rfl,r1,r2⟩:=r;obtain⟨u',rfl,_⟩:=Ay r2
 exact⟨u,u',rfl,r1⟩
theorem EE(X:XM B)(G:Glob B)(hl:B.h₀.NoLimit):pS B:=λ{c kc k vs us i} hc hk hi {A ρ fr n σ s E Q} C hap S hx r kk=>by
 obtain⟨c₁,f₁,fn₁,b₁,c₂,f₂,Pi,b₂,Qn,Qa,⟨T₁,K₁⟩,⟨T₂,K₂⟩,⟨z_,RX⟩,hcl⟩:=X.R7;obtain⟨bm,SJ,hI⟩:=hcl c kc k hc hk;have XE:=S.RW G hl X.any
 have hsub:=X.exc c kc hc (by(refine b_ hk ?_);rfl)
 have XX:=SJ.keeps S.kp
 have hd:=C.depth
 have RM:(A.under (.builtin "type.__call__" ⟨.ref c::us,[]⟩)).depth<=501:=by show A.depth+1<=501;lia
 have fin:∀ (s':S9) (m:Tq->Option SX) (nn:Nat),XW s.heap s.heap.get? (s.heap.objs.size+1) c m nn s'.heap->m ("code":Tq)≠Zk\/m ("text":Tq)≠Zk->((∃ t,m "code"=Zj (.int i t))\/i=0)->s'.gens=s.gens->s'.os=s.os->Q (.ref (s.heap.objs.size+1)) s':=λs' m nn W hm hcode hg hos=>by
  obtain⟨o,vs,h1,h2,h3,h4,h5,h6,h7⟩:=W.obj;rcases h7 with ⟨_,z⟩|⟨d,d1,d2,d3,d4⟩
  ·rcases hm with hm|hm<;>exact absurd (z _) hm
  have hE:Pk B s'.heap c i (s.heap.objs.size+1,d):=⟨o,vs,m,h1,h2,d1,h3,⟨by lia,h6⟩,d4,⟨hsub,by
   rcases hcode with ⟨t,ht⟩|h0
   ·exact⟨t,.inl ht⟩
   ·exact⟨default,.inr h0⟩⟩,.inl h5⟩
  obtain⟨S',T'⟩:=S.RV (q:=(s.heap.objs.size+1,d)) hx W.keep hg hos (U6 (Xn _)) d3 (λz=>d2 z.symm) hE
  exact kk s' (s.heap.objs.size+1,d) S' T'
 have start:∀ (h':Tr),(∀ b o,s.heap.get? b=Zj o->h'.get? b=Zj o)->h'.get? (s.heap.objs.size+1)=Zj (qL c s.heap.objs.size)->XW s.heap s.heap.get? (s.heap.objs.size+1) c (λ_=>Zk) 0 h':=λh' hk' ho=>
  ⟨λ_ _ e=>e,hk',U6 (Xn _),⟨_,_,ho,rfl,rfl,rfl,rfl,rfl,.inl ⟨rfl,λ_=>rfl⟩⟩,[],.nil,U4 _⟩
 have call:∀ {f:Tc} {fn:Fn},PD B f fn->XI B.h₀ c f->us.length<=2->(∀ s' ,XW s.heap s.heap.get? (s.heap.objs.size+1) c (λ_=>Zk) 0 s'.heap->s'.gens=s.gens->s'.os=s.os->
   wpAny B.M (A.under (.builtin "type.__call__" ⟨.ref c::us,[]⟩)) (call (.ref f) (.ref (s.heap.objs.size+1)::us)) (λr s'=>r = .none/\Q (.ref (s.heap.objs.size+1)) s') E s')->wpAny B.M A (call (.ref c) us) Q E s:=λ{f fn} F I hu go=>by
  obtain⟨o,fd,ho,hcf,_⟩:=F.keep S.kp;obtain⟨hh,g,d,tk,os⟩:=s;exact Ih XX (λk=>I λb o e hc=>k _ _ (S.kp b o e hc) hc) ho hcf (Te hu (by(refine b_ YM ?_);decide)) λh' k1 k2=>go ⟨h',g,d,tk,os⟩ (start h' k1 k2) rfl rfl
 rcases xK hi with ⟨rfl,x,rfl,rfl⟩|⟨rfl,x,rfl⟩|⟨rfl,x,rfl,rfl⟩
 ·obtain⟨u,rfl,_⟩:=Ay r;refine call T₁.fn hI (by simp) λs₁ W g₁ o₁=>nU T₁.fn K₁.1 K₁.2.1 K₁.2.2 XE XX W (by exact U4 9) (by lia) λs' W' g' o'=>⟨rfl,fin s' _ _ W' (.inr ?_) (.inr rfl) (g'.trans g₁) (o'.trans o₁)⟩
  (refine b_ (if_pos rfl) ?_);exact λz=>by cases z
 ·obtain⟨u,u',rfl,r1⟩:=Jk r;obtain⟨t,rfl⟩:=l_.mp r1;refine call T₂.fn hI (by simp) λs₁ W g₁ o₁=>ww T₁ K₁ T₂.fn K₂ XE XX W (by lia) (by lia) λs' m' W' g' o'=>⟨rfl,fin s' _ _ W' (.inl ?_) (.inl ⟨t,?_⟩) (g'.trans g₁) (o'.trans o₁)⟩
  ·(refine b_ (if_pos rfl) ?_);exact λz=>by cases z
  ·(exact b_ (if_pos rfl) rfl)
 ·obtain⟨u,rfl,_⟩:=Ay r;refine call z_ hI (by simp) λs₁ W g₁ o₁=>zo T₂ T₁ K₁ K₂ z_ RX XE XX W (by lia) (by lia) λs' m' t W' g' o'=>⟨rfl,fin s' _ _ W' (.inl ?_) (.inl ⟨t,?_⟩) (g'.trans g₁) (o'.trans o₁)⟩
  ·(refine b_ (if_pos rfl) ?_);exact λz=>by cases z
  ·(exact b_ (if_pos rfl) rfl)
end
end
section
open PySem PySem.W PyProof.Rows PyProof
def kx(h:Tr)(g:Gt):Prop:=∀ a o,g a=Zj o->h.get? a=Zj o
theorem jd{v:SX}{x:Tq}(h:rS v=Zj x):∃ t,v = .str x t:=by
 cases v<;>first|exact nn h|(cases h;exact⟨_,rfl⟩)
theorem iC{v:SX}{x:Int}(h:uv v=Zj x):∃ t,v = .int x t:=by
 cases v<;>first|exact nn h|(cases h;exact⟨_,rfl⟩)
theorem BU{v:SX}{x:Bool}(h:Gd v=Zj x):v = .bool x:=by
 cases v<;>first|exact nn h|(cases h;rfl)
theorem eO{v:SX}{x:Tc}(h:pR v=Zj x):v = .ref x:=by
 cases v<;>first|exact nn h|(cases h;rfl)
theorem zC{v:SX}{x:String}(h:Mp v=Zj x):v = .type x:=by
 cases v<;>first|exact nn h|(cases h;rfl)
theorem AN{v:SX}(h:Lb v=Zm):v = .none:=by
 cases v<;>first|rfl|exact Ti h
theorem qy{d:Data}{l:List Vm}(h:iQ d=Zj l):X2 λes ep=>d = .dict es ep/\es.toList=l:=by
 cases d<;>first|exact nn h|exact⟨_,_,rfl,Tf h⟩
theorem hY{d:Data}{x:Array SX}(h:ky d=Zj x):d = .fields x:=by
 cases d<;>first|exact nn h|(cases h;rfl)
theorem C3{d:Data}{x:Array SX}(h:J5 d=Zj x):∃ n,d = .seq x n:=by
 cases d<;>first|exact nn h|(cases h;exact⟨_,rfl⟩)
theorem sm{d:Data}{x:YG}(h:rN d=Zj x):d = .func x:=by
 cases d<;>first|exact nn h|(cases h;rfl)
theorem fw{o:V3}{t:String}(h:EH o t=Zm):o.cls = .type t:=by
 obtain⟨x,h1,h2⟩:=aB h;refine b_ (zC h1) ?_;exact b_ (Vq h2) rfl
theorem Ae(v:SX)(x:Tq):Bg v x=v.isStr x:=by
 cases v<;>first|rfl|(show aw _ _=(_==_);(exact b_ (ni ..) rfl))
theorem uw(e:Vm)(l:List Vm)(x:Tq):bS (e::l) x=if e.key.isStr x=Zm then Zj e.val else bS l x:=by
 show @Uv (λ_=>Option SX) (bS l x) (Zj e.val) (Bg e.key x)=_
 refine b_ (Ae ..) ?_
 cases e.key.isStr x<;>rfl
theorem lA:∀ (l:List Vm) (x:Tq),(l.find? λe=>e.key.isStr x).map (·.val)=bS l x
 | [],_=>rfl
 | e::l,x=>by
  refine b_ (uw ..) ?_;refine b_ (List.find?_cons ..) ?_
  cases h:e.key.isStr x with
  | true=>rfl
  | false=>(refine b_ (lA l x ..) ?_);rfl
theorem xo(es:Array Vm)(x:Tq):nsFind es x=bS es.toList x:=by
 refine A' (lA ..) ?_
 obtain⟨l⟩:=es
 simp only[nsFind,findBy,List.find?_toArray]
theorem xM{l:List Vm}:k8 l=Zm->∀ e∈l,∃ n t,e.key = .str n t:=by
 induction l with
 | nil=>exact λ_ e he=>nomatch he
 | cons a l IH=>
  intro h e he;obtain⟨n,h1,h2⟩:=aB (show ag (rS a.key) Zn (λ_=>k8 l)=Zm from h)
  rcases Ub.mp he with rfl|he
  ·exact⟨n,jd h1⟩
  ·exact IH h2 e he
section
variable{h:Tr}{g:Gt}
theorem Gw{a:Tc}{o:V3}{l:List Vm}(h:g a=Zj o)(hd:iQ o.data=Zj l):kb g a=l:=by
 unfold kb;refine b_ h ?_
 show ag (iQ o.data) [] (λl=>l)=l
 (refine b_ hd ?_);rfl
theorem EY{a:Tc}{o:V3}{l:List Vm}(H:kx h g)(e:g a=Zj o)(hd:iQ o.data=Zj l)(x:k8 l=Zm):h.Ns a (bS (kb g a)):=by
 refine b_ (Gw e hd) ?_
 obtain⟨es,ep,h1,h2⟩:=qy hd;subst h2
 exact⟨_,es,ep,H _ _ e,h1,λe' he=>xM x e' (by simpa using he),λname=>xo es name⟩
theorem pL(H:kx h g){a:Tc}(x:yE g a=Zm):h.Ns a (bS (kb g a))/\X2 λo t=>h.get? a=Zj o/\o.cls = .type t:=by
 obtain⟨o,e,x⟩:=aB x;obtain⟨t,ht,x⟩:=aB x;obtain⟨l,hd,x⟩:=aB x
 exact⟨EY H e hd x,o,t,H _ _ e,zC ht⟩
theorem fW(H:kx h g){a:Tc}(x:yE g a=Zm):QU h a (bS (kb g a)):=by
 obtain⟨n,o,t,ho,hc⟩:=pL H x
 exact⟨n,o,ho,by(refine b_ hc ?_);simp⟩
theorem y0(H:kx h g){a:Tc}(x:FF g a=Zm):∃ o,h.get? a=Zj o/\o.cls = .type "dict":=by
 obtain⟨o,e,x⟩:=aB x
 exact⟨o,H _ _ e,fw (av x).1⟩
end
theorem B4{h:Tr}{g:Gt}(H:kx h g){a:Tc}(x:Ml g a=Zm):X2 λo fd=>A3 (h.get? a=Zj o) (o.cls = .type "function") (o.data = .func fd):=by
 obtain⟨o,e,x⟩:=aB x;obtain⟨x1,x2⟩:=av x;obtain⟨fd,hf⟩:=Wj.mp x2
 exact⟨o,fd,H _ _ e,fw x1,sm hf⟩
theorem jo{α:Type}{vs:Array SX}{i:Nat}{f:SX->Option α}{a:α}(h:Gp vs i f=Zj a):∃ v,vs[i]? = Zj v/\f v=Zj a:=by
 obtain⟨v,h1,h2⟩:=aD h;rw[bI,Ui]at h1
 exact⟨v,h1,h2⟩
theorem yS{h:Tr}{g:Gt}(H:kx h g){v:SX}(x:FC g v=Zm):Ot h (λ_=>False) v:=by
 obtain⟨c,hc,x⟩:=aB x;obtain⟨o,e,x⟩:=aB x;obtain⟨vs,hd,x⟩:=aB x;obtain⟨x1,x2⟩:=av x;obtain⟨n,hn⟩:=Wj.mp x2;obtain⟨w,h1,h2⟩:=jo hn;obtain⟨t,rfl⟩:=jd h2
 exact⟨n,c,o,vs,t,eO hc,λz=>z,H _ _ e,x1,hY hd,h1⟩
theorem vd{α:Type}{a:Array α}(h:Ue (len a.toList) 0=Zm):a=#[]:=by
 have:=Uj h
 rw[aJ]at this;exact WM.mp ((Xv.mp this).trans rfl)
theorem Hy{h:Tr}{g:Gt}(H:kx h g){P:Tc}(x:M3 g P=Zm):h.get? P=Zj { cls := .none,data := .fields #[] }:=by
 obtain⟨o,e,x⟩:=aB x;obtain⟨x1,x⟩:=av x;obtain⟨ps,hd,x⟩:=aB x;obtain⟨x2,x⟩:=av x;obtain⟨x3,x4⟩:=av x;obtain⟨k,dd,da,sl⟩:=o;cases (show k = .none from AN x1);cases (show dd=Zk from Wb.mp x4);cases (show da = .fields ps from hY hd)
 obtain rfl:=vd x2
 cases (show sl=#[]from vd x3)
 exact H _ _ e
theorem iT{vs:Array SX}{i:Nat}{v:SX}(h:vs[i]? = Zj v):vs.getD i .none=v:=by(refine b_ Array.getD_eq_getD_getElem? ?_;refine b_ h ?_);rfl
theorem BM{h:Tr}{g:Gt}(H:kx h g){v:SX}(x:FW g v=Zm):X2 λc P=>A3 (v = .ref c) (h.IsCode c P #[]) (h.TableAt c P #[]):=by
 obtain⟨c,hc,x⟩:=aB x;obtain⟨o,e,x⟩:=aB x;obtain⟨x1,x⟩:=av x;obtain⟨vs,hd,x⟩:=aB x;obtain⟨_,h7,x⟩:=aB x;obtain⟨_,h9,x⟩:=aB x;obtain⟨_,h10,x⟩:=aB x;obtain⟨_,h18,x⟩:=aB x;obtain⟨P,h11,x⟩:=aB x;obtain⟨x2,x3⟩:=av x;obtain⟨_,h7,e7⟩:=jo h7;obtain⟨_,h9,e9⟩:=jo h9;obtain⟨_,h10,e10⟩:=jo h10;obtain⟨_,h18,SK⟩:=jo h18;obtain⟨_,h11,SL⟩:=jo h11;obtain⟨_,rfl⟩:=iC e7
 obtain rfl:=BU e9
 obtain⟨_,rfl⟩:=iC e10;obtain⟨_,rfl⟩:=jd SK
 obtain rfl:=eO SL
 have hP:=Hy H x3
 have hd:=hY hd
 exact⟨c,P,eO hc,⟨o,vs,_,_,_,_,_,_,_,_,H _ _ e,hd,iT h11,iT h18,iT h7,iT h9,iT h10,hP,rfl,trivial,(λz=>by rw[z,Xh]at x2;exact Ti x2:c≠P)⟩,⟨o,vs,H _ _ e,fw x1,hd,h11⟩,hP⟩
theorem Ao(B:Base){h:Tr}(ds:List V):∀ {vs:List SX},wG ds vs=Zm->∃ xs,ds=fL xs/\PRs B h (λ_=>False) xs vs:=by
 induction ds with
 | nil=>
  intro vs x
  obtain rfl:=bu x
  exact⟨[],rfl,by unfold PRs;rfl⟩
 | cons v r IH=>
  intro vs x;obtain⟨i,h1,x⟩:=aB (show ag (iH v) Zn (λi=>ag vs.head? Zn λw=>ag (uv w) Zn λj=>ac (bR i j) (wG r vs.tail) Zn)=Zm from x)
  obtain⟨w,h2,x⟩:=aB x;obtain⟨j,h3,x⟩:=aB x;obtain⟨x1,x2⟩:=av x;obtain⟨xs,rfl,h4⟩:=IH x2
  obtain rfl:=db h1
  obtain⟨t,rfl⟩:=iC h3;rw[bA]at x1
  obtain rfl:=Vq x1
  cases vs with
  | nil=>exact nn h2
  | cons u us=>
   cases h2
   refine⟨.int i::xs,rfl,?_⟩
   unfold PRs
   exact⟨_,us,rfl,by unfold PR;exact⟨t,rfl⟩,h4⟩
theorem GI{B:Base}{g:Gt}(H:kx B.h₀ g){v:SX}{ds:List V}(x:MZ g v ds=Zm):Rq B v ds:=by
 unfold MZ at x;cases hv:Lb v with
 | true=>rw[hv]at x;exact .inl ⟨AN hv,bu x⟩
 | false=>
  rw[hv]at x;obtain⟨T,hT,x⟩:=aB x;obtain⟨o,e,x⟩:=aB x;obtain⟨x1,x⟩:=av x;obtain⟨items,hd,x⟩:=aB x;obtain⟨n,hd⟩:=C3 hd;obtain⟨xs,h1,h2⟩:=Ao B ds x;exact .inr ⟨T,o,items,n,xs,eO hT,H _ _ e,fw x1,hd,h1,h2⟩
end
section
open PySem PySem.W PyProof.Rows PyProof
theorem G1:L5=stL.map λp=>(p.1,kq p.2):=by kernel_rfl
theorem Iu(st:T9):OX (tm st) λp=>kq st=⟨bg p.1.args,fC p.1.defaults,p.2.1,p.2.2⟩:=@YS (λst=>OX (tm st) λp=>kq st=⟨bg p.1.args,fC p.1.defaults,p.2.1,p.2.2⟩) st (λ_ _ _ _ _ _ _ _ _ _=>rfl) (λa b c d f g h k m n=>trivial) (λa b c d f g h k m n u=>trivial) (λa b=>trivial) (λa b=>trivial) (λa b c=>trivial) (λa b c d f g h=>trivial) (λa b c d=>trivial) (λa b c d f=>trivial) (λa b c d f=>trivial) (λa b c d f=>trivial) (λa b c d=>trivial) (λa b c d=>trivial) (λa b c=>trivial) (λa b c=>trivial) (λa b c=>trivial) (λa b c=>trivial) (λa b c d f=>trivial) (λa b c d f=>trivial) (λa b c=>trivial) (λa b=>trivial) (λa b c d=>trivial) (λa b=>trivial) (λa b=>trivial) (λa b=>trivial) (λa=>trivial) (λa=>trivial) (λa=>trivial)
noncomputable def LL(st:T9):Bool:=ag (tm st) Zn λp=>hU [bL p.1,dm p.2.2,dE p.2.2.names (bg p.1.args),U9 (len (fC p.1.defaults)) (len (bg p.1.args))]
theorem Cy:d6 (λp=>LL p.2) stL=Zm:=by kernel_rfl
theorem KN{B:Base}{g:Gt}(H:kx B.h₀ g){p:Nat×T9}(h1:o5 g p=Zm)(h2:qg g p.1=jq p.2)(h3:LL p.2=Zm):PD B p.1 (kq p.2):=by
 obtain⟨d,hd,h1⟩:=aB h1;obtain⟨o,ho,h1⟩:=aB h1;obtain⟨fd,hf,h1⟩:=aB h1;obtain⟨c1,h1⟩:=aO h1;obtain⟨_,h1⟩:=aO h1;obtain⟨c2,h1⟩:=aO h1;obtain⟨c3,h1⟩:=aO h1;obtain⟨c4,h1⟩:=aO h1;obtain⟨c5,h1⟩:=aO h1;obtain⟨c6,h1⟩:=aO h1;obtain⟨c7,_⟩:=aO h1;rw[show LL p.2=ag (tm p.2) _ _ from rfl,hd]at h3
 obtain⟨s1,h3⟩:=aO (show hU [bL d.1,dm d.2.2,dE d.2.2.names (bg d.1.args),U9 (len (fC d.1.defaults)) (len (bg d.1.args))]=Zm from h3)
 obtain⟨s2,h3⟩:=aO h3;obtain⟨s3,h3⟩:=aO h3;have s4:=(aO h3).1
 rw[aJ,aJ]at s4;rw[show qg g p.1=ag (g p.1) _ _ from rfl,ho,show jq p.2=ag (tm p.2) _ _ from rfl,hd]at h2
 have h2:ag (rN o.data) Zk (λfd=>Zj (fd.params,fd.body,fd.scope))=Zj (d.1,Xg.stmts d.2.1,d.2.2):=h2
 rw[hf]at h2;obtain⟨e1,e2⟩:=Prod.mk.inj (Tf h2);obtain⟨e2,e3⟩:=Prod.mk.inj e2;refine b_ ((Iu p.2).of hd) ?_
 exact⟨⟨o,fd,H _ _ ho,fw c1,sm hf,yS H c2,by(refine b_ (e1 ..) ?_;try (with_reducible rfl));exact s1,by(refine b_ (e1 ..) ?_;try (with_reducible rfl)),e2,e3,Uj c3,Uj c4,List.isEmpty_iff.mp c5,λhn=>by
  rw[(hn:dz d.2.2=Zm)]at c7;obtain⟨c,P,a1,a2,a3⟩:=BM H c7
  exact⟨c,P,a1,a2,a3⟩,GI H c6⟩,s2,s3,Tw s4⟩
theorem d9{α:Type}:∀ {l:List (Nat×α)} {a:Nat} {x:α},cw l a=Zj x->(a,x)∈l
 | [],a,x,h=>by cases h
 | (b,y)::l,a,x,h=>by
  have h':@Uv (λ_=>Option α) (cw l a) (Zj y) (Ue b a)=Zj x:=h
  cases hb:Ue b a with
  | true=>
   rw[hb]at h';cases h';refine b_ (Uj hb) ?_
   exact .head _
  | false=>rw[hb]at h';exact .tail _ (d9 h')
theorem H1{B:Base}{g:Gt}(hT:B.T=T0)(H:kx B.h₀ g)(h1:d6 (o5 g) stL=Zm)(h2:(stL.map λp=>qg g p.1)=stL.map λp=>jq p.2):Iv B:=λa fn hf=>by
 rw[hT]at hf;have hm:=d9 (show cw L5 a=Zj fn from hf)
 rw[G1]at hm;obtain⟨p,hp,e⟩:=Xd.mp hm;cases e;exact KN H (bz h1 p hp) (List.map_inj_left.mp h2 p hp) (bz Cy p hp)
end
section
open PySem PySem.W PyProof.Rows PyProof
theorem ec{l:List Vm}{ns:List Tq}(h:iL l ns=Zm):∀ n∈ns,bS l n=Zk:=λn hn=>by
 have:=bz h n hn
 cases q:bS l n with
 | none=>rfl
 | some v=>rw[q]at this;cases this
theorem fo{v:Option SX}{a:Tc}(h:eq v a=Zm):v=Zj (.ref a):=by
 obtain⟨w,hw,h⟩:=aB h;obtain⟨b,hb,h⟩:=aB h;refine b_ hw ?_;refine b_ (eO hb) ?_;exact b_ (Uj h) rfl
theorem uR{α:Type}{l:List α}{a:α}(h:l.head? = Zj a):l=a::l.tail:=by
 cases l with
 | nil=>exact nn h
 | cons b r=>cases h;rfl
theorem uF(r:List Tc):∀ {l tl:List SX},pI r l tl=Zm->l=r.map .ref++tl:=by
 induction r with
 | nil=>exact λh=>Vq h
 | cons b r IH=>
  intro l tl h;obtain⟨v,h1,h⟩:=aB h;obtain⟨a,h2,h⟩:=aB h;obtain⟨h3,h⟩:=av h
  (refine b_ (uR h1) ?_;refine b_ (eO h2) ?_;refine b_ (Uj h3) ?_;refine b_ (IH h) ?_);rfl
theorem Ck{d:Data}{x:ClassData}(h:HU d=Zj x):d = .cls x:=by
 cases d<;>first|exact nn h|(cases h;rfl)
theorem Ew{d:SX}{x:String}(h:Kg d=Zj x):d = .builtin x:=by
 cases d<;>first|exact nn h|(cases h;rfl)
theorem six{α:Type}{l:List α}(h:l.length=6):X6 λa b c d e f=>l=[a,b,c,d,e,f]:=by
 obtain⟨a,l,rfl⟩:=U3 h;obtain⟨b,l,rfl⟩:=U3 (Ux h);obtain⟨c,l,rfl⟩:=U3 (Ux (Ux h));obtain⟨d,l,rfl⟩:=U3 (Ux (Ux (Ux h)));obtain⟨e,l,rfl⟩:=U3 (Ux (Ux (Ux (Ux h))));obtain⟨f,l,rfl⟩:=U3 (Ux (Ux (Ux (Ux (Ux h)))))
 obtain rfl:=Xv.mp (Ux (Ux (Ux (Ux (Ux (Ux h))))))
 exact⟨a,b,c,d,e,f,rfl⟩
theorem w7{l:List (Option SX)}{mk:String}(h:Bs l mk=Zm):X5 λk0 k1 k2 k3 k5=>l=[k0,k1,k2,k3,Zj (.builtin mk),k5]:=by
 obtain⟨h1,h⟩:=av h;have h1:=Uj h1
 rw[aJ]at h1;obtain⟨a,b,c,d,e,f,rfl⟩:=six h1;obtain⟨v,hv,h⟩:=aB h;obtain⟨w,hw,h⟩:=aB h;obtain⟨k,hk,h⟩:=aB h;refine b_ ((Tf hv).trans hw:e=Zj w) ?_;refine b_ (Ew hk) ?_;refine b_ (Vq h) ?_
 exact⟨a,b,c,d,f,rfl⟩
theorem fb{h:Tr}{g:Gt}(H:kx h g){c N:Tc}{r:List Tc}{tl:List SX}{mk:String}{ab:Bool}(x:ll g c r tl mk ab N=Zm) :
  X6 λnm q bs sn sub col=>X6 λdd k0 k1 k2 k3 k5=>h.get? c=Zj (excClassObj nm q c N bs (r.map .ref++tl) Zm sn sub ab col dd k0 k1 k2 k3 k5 mk):=by
 obtain⟨o,e,x⟩:=aB x;obtain⟨d,hd,x⟩:=aB x;obtain⟨x1,x⟩:=av x;obtain⟨x2,x⟩:=av x;obtain⟨x3,x⟩:=av x;obtain⟨x4,x⟩:=av x;obtain⟨x5,x⟩:=av x;obtain⟨x6,x⟩:=av x;obtain⟨k0,k1,k2,k3,k5,hl⟩:=w7 x;obtain⟨oc,dd,od,sl⟩:=o;obtain⟨nm,bs,mro,ns,q,hdict,sn,sub,a,col,del⟩:=d;have hd:od=_:=Ck hd
 have x1:oc=_:=fw x1
 have x2:mro=_:=uF (c::r) x2
 have x3:ns=N:=Uj x3
 have x4:hdict=Zm:=x4
 have x6:a=ab:=Vq x6
 have x5:del=Zn:=(Bool.not_eq_true' del).mp x5
 have hl:sl=#[k0,k1,k2,k3,Zj (.builtin mk),k5]:=WM.mp (hl.trans rfl)
 refine⟨nm,q,bs,sn,sub,col,dd,k0,k1,k2,k3,k5,?_⟩
 refine b_ (H _ _ e) ?_;refine b_ hd ?_;refine b_ x1 ?_;refine b_ x2 ?_;refine b_ x3 ?_;refine b_ x4 ?_;refine b_ x5 ?_;refine b_ x6 ?_;refine b_ hl ?_
 rfl
noncomputable def zl(ns:List Tq):Bool:=d6 (λn=>ag (fastLookup "object" n) Zn λo=>ag o Zm λ_=>Zn) ns
theorem yx:d6 (λp=>zl p.2.attrs) Qd=Zm:=by kernel_rfl
theorem vb:∀ {l:List Tq} {x:Tq},kt x l=Zm->x∈l
 | [],x,h=>by cases h
 | y::l,x,h=>by
  have h':@Uv (λ_=>Bool) (kt x l) Zm (aw y x)=Zm:=h
  cases hs:aw y x with
  | true=>(refine b_ (g_.mp hs) ?_);exact .head _
  | false=>rw[hs]at h';exact .tail _ (vb h')
theorem AG{ns:List Tq}(h:zl ns=Zm){n:Tq}(hn:n∈ns):typeLookup (.type "object") n=pure Zk:=by
 have:=bz h n hn
 refine b_ (Vu ..) ?_;refine b_ (U5 ..) ?_
 obtain⟨o,e,h2⟩:=aB this;cases o with
 | none=>(exact b_ e rfl)
 | some=>exact Ti h2
theorem IA(n:Tq):∃ y,typeLookup (.type "object") n=pure y:=by
 refine b_ (Vu ..) ?_;refine b_ (U5 ..) ?_
 unfold fastLookup
 have:∃ l,fastBuiltinMro "object"=Zj l:=⟨[.type "object"],by kernel_rfl⟩
 obtain⟨l,e⟩:=this;refine b_ e ?_
 exact⟨_,rfl⟩
theorem qi:∀ {l:List (Tq×Tc)} {m:Tq} {f:Tc},@Ud (Tq×Tc) (λ_=>Option Tc) Zk (λp _ ih=>@Uv (λ_=>Option Tc) ih (Zj p.2) (aw p.1 m)) l=Zj f->(m,f)∈l
 | [],m,f,h=>by cases h
 | (y,b)::l,m,f,h=>by
  have h':@Uv (λ_=>Option Tc) (@Ud (Tq×Tc) (λ_=>Option Tc) Zk (λp _ ih=>@Uv (λ_=>Option Tc) ih (Zj p.2) (aw p.1 m)) l) (Zj b) (aw y m)=Zj f:=h
  cases hs:aw y m with
  | true=>rw[hs]at h';cases h';(refine b_ (g_.mp hs) ?_);exact .head _
  | false=>rw[hs]at h';exact .tail _ (qi h')
theorem Hi{B:Base}{g:Gt}(hT:B.T=T0)(H:kx B.h₀ g)(h:d6 (kz g) Qd=Zm):∀ c k,B.T.cl c=Zj k->k.exc.isNone=Zm->Q4 B c k:=λc k hc hn=>by
 have hm:=d9 (show cw Qd c=Zj k from(by(refine A' hT ?_);exact hc:T0.cl c=Zj k))
 have hl:=bz h _ hm
 unfold kz at hl;cases he:k.exc with
 | some _=>rw[he]at hn;cases hn
 | none=>
  rw[he]at hl;obtain⟨c1,hl⟩:=av (show ac _ _ Zn=Zm from hl)
  obtain⟨c2,hl⟩:=av hl;obtain⟨c3,hl⟩:=av hl;obtain⟨c4,hl⟩:=av hl;obtain⟨c5,hl⟩:=av hl;obtain⟨c6,c7⟩:=av hl;obtain⟨nm,q,bs,sn,sub,col,dd,k0,k1,k2,k3,k5,e⟩:=fb H c1;have n4:=ec c4
  refine⟨⟨_,_,⟨⟨nm,q,bs,sn,sub,col,dd,k0,k1,k2,k3,k5,e⟩,(pL H c2).1⟩,y0 H c3,n4 _ (.head _),n4 _ (.tail _ (.head _)),n4 _ (.tail _ (.tail _ (.head _))),λn hn => ?_,λn f hg => ?_,λf hi => ?_⟩⟩
  ·have:=vb hn
   exact⟨ec c5 n this,AG (bz yx _ hm :) this⟩
  ·unfold kI at hg;rw[hc]at hg;obtain⟨d1,d2⟩:=av (bz c6 _ (qi hg))
   exact⟨fo d1,B4 H d2,IA n⟩
  ·rw[hi]at c7;obtain⟨d1,d2⟩:=av (show ac _ _ Zn=Zm from c7)
   exact⟨fo d1,B4 H d2⟩
section
variable{h:Tr}{g:Gt}
theorem zY(H:kx h g)(hx:d6 (uO g) xL=Zm):∀ {tl:List Nat},(∀ a∈tl,∃ l,(a,l)∈xL)->PW h (tl.map .ref++PN)
 | [],_ => .nil
 | a::tl,ht=>by
  obtain⟨l,hl⟩:=ht a (.head _);obtain⟨c1,c2⟩:=av (bz hx _ hl);obtain⟨c2,c3⟩:=av c2;obtain⟨nm,q,bs,sn,sub,col,dd,k0,k1,k2,k3,k5,e⟩:=fb H c1;exact .cons e (λz=>by cases z) (fW H c2) (ec c3) (zY H hx λb hb=>ht b (.tail _ hb))
theorem KY:∀ p∈xL,∀ a∈p.2,∃ l,(a,l)∈xL:=by
 intro p hp a ha;unfold xL at hp ⊢
 simp only[Ub,Vn,or_false]at hp
 rcases hp with rfl|rfl|rfl|rfl<;>simp at ha
 ·exact⟨_,by(refine b_ ha ?_);exact .head _⟩
 ·exact⟨_,by(refine b_ ha ?_);exact .head _⟩
 ·rcases ha with rfl|rfl
  ·exact⟨_,.tail _ (.tail _ (.head _))⟩
  ·exact⟨_,.head _⟩
theorem jV(H:kx h g)(hx:d6 (uO g) xL=Zm){p:Nat×List Nat}(hp:p∈xL):XC h p.1 (p.2.map .ref++PN):=by
 obtain⟨c1,c2⟩:=av (bz hx _ hp);obtain⟨c2,c3⟩:=av c2;obtain⟨nm,q,bs,sn,sub,col,dd,k0,k1,k2,k3,k5,e⟩:=fb H c1
 exact⟨⟨nm,q,_,bs,sn,sub,Zn,col,dd,k0,k1,k2,k3,k5,_,e,fW H c2,ec c3⟩,zY H hx (KY p hp)⟩
theorem uJ(H:kx h g){c f:Tc}{r:List Tc}(h1:ll g c r PN "Exception.__new__" Zn (cF g c)=Zm)(h2:yE g (cF g c)=Zm)(h3:eq (bS (kb g (cF g c)) "__init__") f=Zm):XI h c f:=λ{h'} k {M A E Q gg d t os} hq=>by
 obtain⟨nm,q,bs,sn,sub,col,dd,k0,k1,k2,k3,k5,e⟩:=fb H h1;refine b_ (Zi ..) ?_
 refine S8 (Yx (k _ _ e (λz=>by cases z)) ?_)
 refine b_ (Xc ..) ?_
 refine S8 (Xq (k _ _ e (λz=>by cases z)) ((fW H h2).keeps k).1 ?_)
 refine b_ (fo h3) ?_
 exact Tg hq
theorem I4(H:kx h g){c b f:Tc}{r r':List Tc}(h1:ll g c (b::r) PN "Exception.__new__" Zn (cF g c)=Zm)(h2:yE g (cF g c)=Zm)(h3:iL (kb g (cF g c)) ["__init__"]=Zm)
  (h4:ll g b r' PN "Exception.__new__" Zn (cF g b)=Zm) (h5:yE g (cF g b)=Zm) (h6:eq (bS (kb g (cF g b)) "__init__") f=Zm):XI h c f:=λ{h'} k {M A E Q gg d t os} hq=>by
 obtain⟨nm,q,bs,sn,sub,col,dd,k0,k1,k2,k3,k5,e⟩:=fb H h1;obtain⟨nm',q',bs',SC,sub',col',SD,SE,k1',k2',SG,SH,e'⟩:=fb H h4;refine b_ (Zi ..) ?_
 refine S8 (Yx (k _ _ e (λz=>by cases z)) ?_)
 refine b_ (Xc ..) ?_
 refine S8 (Xq (k _ _ e (λz=>by cases z)) ((fW H h2).keeps k).1 ?_)
 refine b_ (ec h3 _ (.head _)) ?_
 show wpAny M A (lookupAlong (.ref b::_) _) Q E _
 refine b_ (Xc ..) ?_
 refine S8 (Xq (k _ _ e' (λz=>by cases z)) ((fW H h5).keeps k).1 ?_)
 refine b_ (fo h6) ?_
 exact Tg hq
end
end
section
open PySem PySem.W PyProof.Rows PyProof
theorem lq{o:Option SX}{u:SX}(h:iZ o u=Zm):o=Zj u:=by
 cases o with
 | none=>cases h
 | some v=>(exact b_ (Vq (show(v==u)=Zm from h)) rfl)
theorem uT{o:Option SX}(h:wV o=Zm):o=Zk:=by
 cases o with
 | none=>rfl
 | some v=>cases h
theorem oj{p:SQ×SQ}{r:List (SQ×SQ)}{es:List Vm}(q:ja (p::r) es=Zm):X5 λk x t u es'=>A3 (p=(.int k,.str x)) (es=⟨hashInt k,.int k t,.str x u⟩::es') (ja r es'=Zm):=by
 obtain⟨k,h1,q⟩:=aB q;obtain⟨x,h2,q⟩:=aB q;obtain⟨e,h3,q⟩:=aB q;obtain⟨j,h4,q⟩:=aB q;obtain⟨y,h5,q⟩:=aB q;obtain⟨q1,q⟩:=av q;obtain⟨q2,q⟩:=av q;obtain⟨q3,q4⟩:=av q
 obtain rfl:=Vq ((bA ..).symm.trans q1)
 obtain rfl:=g_.mp q3
 obtain⟨t,ht⟩:=iC h4;obtain⟨u,hu⟩:=jd h5
 refine⟨k,x,t,u,es.tail,?_,?_,q4⟩
 ·rw[<- dq h1,<- fg h2]
 ·rw[<- ht,<- hu,<- Vq ((bA ..).symm.trans q2)];exact uR h3
theorem sR{B:Base}{h:Tr}(kvs:List (SQ×SQ)):∀ {es:List Vm},ja kvs es=Zm->∃ l:List (Int×SX),A4 ((∀ e∈es,∃ k,Zf k e.key=Zm/\e.hash=hashInt k)) (Pairs (intKind B.prog B.w) es l) (OF B h (λ_=>False) kvs l) (l.map (λp=>Td p.1)=kvs.map (·.1)):=by
 induction kvs with
 | nil=>
  intro es q
  obtain rfl:=bu q
  exact⟨[],λe he=>absurd he Vn,.nil,by unfold OF;rfl,rfl⟩
 | cons p r IH=>
  intro es q;obtain⟨k,x,t,u,es',rfl,rfl,q2⟩:=oj q;obtain⟨l,a1,a2,a3,a4⟩:=IH q2;have hk:Zf k (.int k t)=Zm:=beq_self_eq_true k
  refine⟨(k,.str x u)::l,λe he => ?_,.cons hk rfl a2,?_,congrArg (Td k::·) a4⟩
  ·cases he with
   | head=>exact⟨k,hk,rfl⟩
   | tail _ he=>exact a1 e he
  ·unfold OF
   exact⟨k,_,l,rfl,rfl,by unfold PR;exact⟨u,rfl⟩,a3⟩
theorem rD{kvs:List (SQ×SQ)}(h:qR kvs=Zm):X4 λa b c d=>kvs=[(.int a,b),(.int c,d)]/\a≠c:=by
 obtain⟨p,h1,h⟩:=aB h;obtain⟨q,h2,h⟩:=aB h;obtain⟨h3,h⟩:=av h;obtain⟨a,h4,h⟩:=aB h;obtain⟨c,h5,h⟩:=aB h
 refine⟨a,p.2,c,q.2,?_,λz => ?_⟩
 ·(refine b_ (uR h1) ?_;refine b_ (uR h2) ?_;refine b_ (bu h3) ?_;refine A' (dq h4) ?_;exact A' (dq h5) rfl)
 ·rw[z,bA]at h
  simp at h
theorem AY{B:Base}{g:Gt}(H:kx B.h₀ g){kvs:List (SQ×SQ)}{a:Tc}{o:V3}(e:g a=Zj o)(q:FH kvs a o=Zm):PR B B.h₀ (λ_=>False) (.dict kvs) (.ref a):=by
 obtain⟨q1,q⟩:=av q;obtain⟨q6,q⟩:=av q;obtain⟨l,hd,q⟩:=aB q;obtain⟨q2,q⟩:=av q;obtain⟨q3,q⟩:=av q;obtain⟨q4,q5⟩:=av q;obtain⟨es,n,hde,rfl⟩:=qy hd;obtain⟨l,h1,h2,h3,h4⟩:=sR (B:=B) (h:=B.h₀) kvs q5;obtain⟨k1,b,k2,d,rfl,hne⟩:=rD q4;have hdn:o.dict=Zk:=Wb.mp q6
 unfold PR
 refine⟨a,rfl,λz=>z,⟨(λz=>by rw[z,Xh]at q2;exact Ti q2:a≠sysModules),o,H _ _ e,fw q1,hdn⟩,(λhk=>by cases hk),λ_=>⟨l,⟨o,es,n,H _ _ e,⟨fw q1,hdn,(WM.mp ((bu q3).trans rfl):o.slots=#[])⟩,hde,λe' he=>h1 e' (by simpa using he),h2,?_⟩,h3⟩,by simp⟩
 have:(l.map λp=>Td p.1).Nodup:=by(refine b_ h4 ?_);simp [hne]
 exact(List.pairwise_map.mpr ((List.pairwise_map.mp this).imp λh z=>h (by(exact b_ z rfl))))
theorem BX{B:Base}{g:Gt}(H:kx B.h₀ g){x:Tq}{v:SQ}(q:EO g x v=Zm):∃ u,mG g x=Zj u/\PR B B.h₀ (λ_=>False) v u:=by
 cases v with
 | int i=>
  obtain⟨u,h,q⟩:=aB q;obtain⟨j,h1,q2⟩:=aB q;obtain⟨t,rfl⟩:=iC h1;rw[bA]at q2
  obtain rfl:=Vq q2
  exact⟨_,h,by unfold PR;exact⟨t,rfl⟩⟩
 | str y=>
  obtain⟨u,h,q⟩:=aB q;obtain⟨j,h1,q2⟩:=aB q;obtain⟨t,rfl⟩:=jd h1
  obtain rfl:=g_.mp q2
  exact⟨_,h,by unfold PR;exact⟨t,rfl⟩⟩
 | dict kvs=>
  obtain⟨u,h,q⟩:=aB q;obtain⟨a,h1,q⟩:=aB q;obtain⟨o,e,q2⟩:=aB q
  obtain rfl:=eO h1
  exact⟨_,h,AY H e q2⟩
 | _=>exact Ti q
theorem zL{B:Base}{g:Gt}(H:kx B.h₀ g)(hmg:B.mg=mG g)(hmb:B.mb=mB g){x:Tq}{v:V}(q:B2 g (x,v)=Zm) :
  ∃ u,(B.mg x=Zj u\/(B.mg x=Zk/\B.mb x=Zj u))/\((∃ d,v = .d d/\PR B B.h₀ (λ_=>False) d u)\/(v = .val u/\handedIn u=Zm)):=by
 refine b_ hmg ?_;refine b_ hmb ?_
 cases v with
 | val u=>
  obtain⟨q1,q⟩:=av q
  refine⟨u,?_,.inr ⟨rfl,q1⟩⟩
  have q:ac (iZ (mG g x) u) Zm (ac (wV (mG g x)) (iZ (mB g x) u) Zn)=Zm:=q
  cases h:iZ (mG g x) u with
  | true=>exact .inl (lq h)
  | false=>
   rw[h]at q;obtain⟨q2,q3⟩:=av (show ac (wV (mG g x)) (iZ (mB g x) u) Zn=Zm from q)
   exact .inr ⟨uT q2,lq q3⟩
 | d y=>
  obtain⟨u,h1,h2⟩:=BX H q
  exact⟨u,.inl h1,.inl ⟨y,rfl,h2⟩⟩
 | _=>exact Ti q
theorem wY{d:Data}(h:zT d=Zm):d = .plain:=by
 cases d<;>first|rfl|exact Ti h
theorem Im{B:Base}{g:Gt}(H:kx B.h₀ g)(hmg:B.mg=mG g)(q:MQ g=Zm):GP B:=by
 obtain⟨v,e,q⟩:=aB q;obtain⟨bm,hv,q⟩:=aB q;obtain⟨o,e',q⟩:=aB q;obtain⟨q2,q⟩:=av q;obtain⟨q1,q⟩:=av q;obtain⟨q4,q⟩:=av q;obtain⟨d,hd,q3⟩:=aB q
 obtain rfl:=eO hv
 obtain rfl:=Uj q3
 exact⟨bm,o,by(refine b_ hmg ?_);exact e,λz=>by rw[z,Xh]at q2;exact Ti q2,H _ _ e',fw q1,hd,wY q4⟩
theorem zZ{h:Tr}{g:Gt}(H:kx h g){a:Tc}(x:LU g a=Zm):h.Ns a (bS (kb g a)):=by
 obtain⟨o,e,x⟩:=aB x;obtain⟨l,hd,x⟩:=aB x;exact EY H e hd x
theorem bp{l:List Bool}(h:hU l=Zm):∀ (i:Nat) {b:Bool},f9 l i=Zj b->b=Zm:=by
 induction l with
 | nil=>exact λ_ _ e=>nn e
 | cons a l ih=>
  obtain⟨h1,h2⟩:=av (show ac a (hU l) Zn=Zm from h)
  intro i b e;cases i with
  | zero=>cases e;exact h1
  | succ i=>exact ih h2 i e
theorem md:∀ {l:LE} {x:Tq} {v:V},ak l x=Zj v->(x,v)∈l
 | [],x,v,h=>by cases h
 | (y,u)::l,x,v,h=>by
  rw[aG]at h;cases hs:aw y x with
  | true=>rw[hs]at h;cases h;(refine b_ (g_.mp hs) ?_);exact .head _
  | false=>rw[hs]at h;exact .tail _ (md h)
noncomputable def E5(p q:Nat×List Nat):Bool:=ag (CY p.1 q.1) Zm λr=>(TQ p.1::(p.2.map .ref++PN)).contains (.ref q.1)==r
theorem DT:d6 (λp=>d6 (E5 p) xL) xL=Zm:=by kernel_rfl
theorem wu{a:Nat}{l:List (Nat×Unit)}(h:cw Pt a=Zj l):∃ l',(a,l')∈xL:=by
 have:a∈xL.map (·.1):=by
  rw[show xL.map (·.1)=Pt.map (·.1)by kernel_rfl]
  exact Yw (f:=(·.1)) (d9 h)
 obtain⟨p,hp,e⟩:=Xd.mp this
 exact⟨p.2,by rw[<- e];exact hp⟩
theorem HQ{k c:Tc}{r:Bool}(h:CY k c=Zj r):X2 λl l'=>A3 ((k,l)∈xL) ((c,l')∈xL) ((TQ k::(l.map .ref++PN)).contains (.ref c)=r):=by
 have hk:(∃ l,cw Pt k=Zj l)/\∃ l,cw Pt c=Zj l:=by
  unfold CY at h;cases h1:cw Pt k with
  | none=>rw[h1]at h;exact nn h
  | some lk=>
   cases h2:cw Pt c with
   | none=>rw[h1,h2]at h;exact nn h
   | some lc=>exact⟨⟨lk,rfl⟩,lc,rfl⟩
 obtain⟨⟨_,h1⟩,_,h2⟩:=hk;obtain⟨l,h1⟩:=wu h1;obtain⟨l',h2⟩:=wu h2
 have:=bz (bz DT _ h1) _ h2
 unfold E5 at this;rw[h]at this
 exact⟨l,l',h1,h2,Vq this⟩
theorem BZ{c:Tc}{kc:Cl}{k:Ek}(h:T0.cl c=Zj kc)(he:kc.exc=Zj k):(c=38/\k = .run)\/(c=51/\k = .run)\/(c=70/\k = .io)\/(c=89/\k = .eof):=by
 have:(c,k)∈Qd.filterMap λp=>p.2.exc.map (p.1,·):=List.mem_filterMap.mpr ⟨_,(d9 (show cw Qd c=Zj kc from h) :),by(refine b_ he ?_);rfl⟩
 rw[(by kernel_rfl:(Qd.filterMap λp=>p.2.exc.map (p.1,·))=[(38,.run),(51,.run),(70,.io),(89,.eof)])]at this
 simpa using this
theorem Ht:T0.fn 35=Zj (kq (ai (aE (ai ao 2)) 0)):=by kernel_rfl
theorem GK:T0.fn 67=Zj (kq (ai (aE (ai ao 4)) 0)):=by kernel_rfl
theorem GG:T0.fn 86=Zj (kq (ai (aE (ai ao 5)) 0)):=by kernel_rfl
theorem Oj:O9 (kq (ai (aE (ai ao 2)) 0)) ["self","text"] "Exception":=⟨by kernel_rfl,by kernel_rfl,by kernel_rfl,by kernel_rfl,by kernel_rfl,by kernel_rfl⟩
theorem N9:O9 (kq (ai (aE (ai ao 4)) 0)) ["self","code","text"] "F77Error":=⟨by kernel_rfl,by kernel_rfl,by kernel_rfl,by kernel_rfl,by kernel_rfl,by kernel_rfl⟩
theorem NQ:O9 (kq (ai (aE (ai ao 5)) 0)) ["self","text"] "IoFault":=⟨by kernel_rfl,by kernel_rfl,by kernel_rfl,by kernel_rfl,by kernel_rfl,by kernel_rfl⟩
theorem Ag{B:Base}{g:Gt}(hT:B.T=T0)(H:kx B.h₀ g)(h1:look g=Zm)(h2:(stL.map λp=>qg g p.1)=stL.map λp=>jq p.2)(hmg:B.mg=mG g)(hmb:B.mb=mB g):Start B:=by
 have l1:d6 (o5 g) stL=Zm:=bp h1 0 rfl
 have l2:d6 (kz g) Qd=Zm:=bp h1 1 rfl
 have l3:d6 (uO g) xL=Zm:=bp h1 2 rfl
 have l4:d6 (B2 g) wq=Zm:=bp h1 3 rfl
 have l5:MQ g=Zm:=bp h1 4 rfl
 have r1:yE g mainGlobals=Zm:=bp h1 5 rfl
 have r2:yE g builtinsNs=Zm:=bp h1 6 rfl
 have r3:LU g cStatics=Zm:=bp h1 7 rfl
 have r4:iL (kb g cStatics) ["sys.recursionlimit","thirdparty.any"]=Zm:=bp h1 8 rfl
 have r5:(ag (g sysModules) Zn λ_=>Zm)=Zm:=bp h1 9 rfl
 have r6:wV (mG g "Exception")=Zm:=bp h1 10 rfl
 have r7:iZ (mB g "Exception") (.type "Exception")=Zm:=bp h1 11 rfl
 have r8:eq (mG g "F77Error") 38=Zm:=bp h1 12 rfl
 have r9:eq (mG g "IoFault") 70=Zm:=bp h1 13 rfl
 have i1:eq (bS (kb g (cF g 38)) "__init__") 35=Zm:=bp h1 14 rfl
 have i2:iL (kb g (cF g 51)) ["__init__"]=Zm:=bp h1 15 rfl
 have i3:eq (bS (kb g (cF g 70)) "__init__") 67=Zm:=bp h1 16 rfl
 have i4:eq (bS (kb g (cF g 89)) "__init__") 86=Zm:=bp h1 17 rfl
 have hlim:B.h₀.NoLimit:=⟨_,zZ H r3,ec r4 _ (.head _)⟩
 have fns:Iv B:=H1 hT H l1 h2
 have G:Glob B:=⟨⟨by(refine b_ hmg ?_);exact(pL H r1).1,(fW H r1).2⟩,⟨by(refine b_ hmb ?_);exact(pL H r2).1,(fW H r2).2⟩,λx v hx=>zL H hmg hmb (bz l4 _ (md (show ak wq x=Zj v by rw[hT]at hx;exact hx)))⟩
 have xf:XF B:=⟨λk c r hr=>by
   rw[hT]at hr;obtain⟨l,l',a,b,e⟩:=HQ hr
   exact⟨_,_,jV H l3 a,jV H l3 b,e⟩,
  λc kc hc he=>by
   rw[hT]at hc ⊢;obtain⟨k,hk⟩:=Wj.mp he;rcases BZ hc hk with ⟨rfl,_⟩|⟨rfl,_⟩|⟨rfl,_⟩|⟨rfl,_⟩<;>rfl⟩
 have at':∀ {p:Nat×List Nat},p∈xL->ll g p.1 p.2 PN "Exception.__new__" Zn (cF g p.1)=Zm/\yE g (cF g p.1)=Zm:=λhp=>by
  obtain⟨c1,c2⟩:=av (bz l3 _ hp)
  exact⟨c1,(av c2).1⟩
 have QV:((38,[]):Nat×List Nat)∈xL := .head _
 have RY:((51,[38]):Nat×List Nat)∈xL := .tail _ (.head _)
 have Rs:((70,[38]):Nat×List Nat)∈xL := .tail _ (.tail _ (.head _))
 have RZ:((89,[70,38]):Nat×List Nat)∈xL := .tail _ (.tail _ (.tail _ (.head _)))
 have x38:XI B.h₀ 38 35:=uJ H (at' QV).1 (at' QV).2 i1
 have x70:XI B.h₀ 70 67:=uJ H (at' Rs).1 (at' Rs).2 i3
 have SM:=fns 35 _ (by(refine b_ hT ?_);exact Ht)
 have SN:=fns 67 _ (by(refine b_ hT ?_);exact GK)
 have SO:=fns 86 _ (by(refine b_ hT ?_);exact GG)
 have xm:XM B:={ toXF:=xf,any:=(⟨_,zZ H r3,ec r4 _ (.tail _ (.head _))⟩:lZ B.h₀),R7:=⟨38,35,_,_,70,67,_,_,86,_,
  ⟨⟨SM,jV H l3 QV,x38⟩,Oj,⟨⟨8,8,8,17⟩,⟨8,8,8,26⟩,⟨8,27,8,31⟩,⟨8,33,8,37⟩,⟨8,8,8,38⟩,⟨8,8,8,38⟩,⟨9,8,9,12⟩,⟨9,8,9,17⟩,⟨9,20,9,24⟩,⟨9,8,9,24⟩,by decide,by kernel_rfl⟩,by(refine b_ hmg ?_);exact uT r6,by(refine b_ hmb ?_);exact lq r7⟩,
  ⟨⟨SN,jV H l3 Rs,x70⟩,N9,⟨⟨15,8,15,16⟩,⟨15,8,15,25⟩,⟨15,26,15,30⟩,⟨15,32,15,36⟩,⟨15,8,15,37⟩,⟨15,8,15,37⟩,⟨16,8,16,12⟩,⟨16,8,16,17⟩,⟨16,20,16,24⟩,⟨16,8,16,24⟩,by decide,by kernel_rfl⟩,by(refine b_ hmg ?_);exact fo r8⟩,
  ⟨SO,NQ,⟨⟨20,8,20,15⟩,⟨20,8,20,24⟩,⟨20,25,20,29⟩,⟨20,35,20,39⟩,⟨20,8,20,40⟩,⟨20,8,20,40⟩,⟨20,32,20,33⟩,⟨20,31,20,33⟩,⟨20,31,20,33⟩,0,by decide,by kernel_rfl,rfl⟩,by(refine b_ hmg ?_);exact fo r9⟩,
  λc kc k hc he=>by
   rw[hT]at hc;rcases BZ hc he with ⟨rfl,rfl⟩|⟨rfl,rfl⟩|⟨rfl,rfl⟩|⟨rfl,rfl⟩
   ·exact⟨_,jV H l3 QV,x38⟩
   ·exact⟨_,jV H l3 RY,(I4 H (at' RY).1 (at' RY).2 i2 (at' QV).1 (at' QV).2 i1:XI B.h₀ 51 35)⟩
   ·exact⟨_,jV H l3 Rs,x70⟩
   ·exact⟨_,jV H l3 RZ,(uJ H (at' RZ).1 (at' RZ).2 i4:XI B.h₀ 89 86)⟩⟩ }
 have Fa:Facts B:=⟨hlim,by
  cases hs:g sysModules with
  | none=>rw[hs]at r5;cases r5
  | some o=>exact⟨o,H _ _ hs⟩,G0 xf,Hi hT H l2⟩
 exact⟨Fa,G,El xf,GJ xf,yr xf Fa,EE xm G hlim,AU xf,Im H hmg l5,fns⟩
end
section
open PySem PySem.W PyProof.Rows PyProof
theorem K6(s:Yn):(look (gT s),lN (gT s) stL)=Yf s.abs:=by(refine b_ (JX ..) ?_);rfl
theorem CX:LeftO pw qv dD (λ_=>Zm) Yf (λ_=>Ya) 20000:=LeftO.of_split "special-get-raises" λw=>by
 obtain⟨os,hb⟩:=C5 w;have go:∀ b,(topFrom treeTable pw (w.withFollow "special-get-raises" b) 20000 ⟨Wa w.params,#[],boot_drawn,boot_toks,os⟩).map (λs=>(openSeen qv dD jP (λ_=>Zm) Zm s,Yf s))=Zj (openGood qv dD,Ya):=λb=>by
  refine CI ?_
  have:IP w b os=Zj (openGood qv dD,Zm,Ya):=by cases b;exact xV w os;exact z9 w os
  unfold IP at this
  simp only[K6]at this
  exact this
 refine b_ hb ?_
 exact congrArg Zj (Prod.ext (go Zn) (go Zm))
def YP(_:V1)(h:Tr):Prop:=∃ g:Gt,A3 (kx h g) (look g=Zm) ((stL.map λp=>qg g p.1)=stL.map λp=>jq p.2)
theorem Jr(w:V1)(s:S9)(e:Yf s=Ya):YP w s.heap:=by
 obtain⟨e1,e2⟩:=Prod.mk.inj e
 exact⟨s.heap.get?,λ_ _ h=>h,e1,by(refine A' (nH ..) ?_);exact e2⟩
theorem DR(w:V1)(h h':Tr)(y:YP w h)(k:∀ b o,h.get? b=Zj o->h'.get? b=Zj o):YP w h':=
 by obtain⟨g,a,b,c⟩:=y;exact⟨g,λx o e=>k _ _ (a x o e),b,c⟩
theorem Eu{R:WRecords}(xs:List WData)(h:WShape.hasItems R xs .int=Zm):∃ X:List Int,xs=X.map Xe:=by
 induction xs with
 | nil=>exact⟨[],rfl⟩
 | cons x xs IH=>
  obtain⟨h1,h2⟩:=(WT ..).mp h;obtain⟨i,rfl⟩:=hasW_int h1;obtain⟨X,rfl⟩:=IH h2
  exact⟨i::X,rfl⟩
theorem Ax{B:Base}{P:Params}{h:Tr}{ow:Tc->Prop}(X:List Int):∀ {vs:List SX},WellAll P h vs (X.map Xe)->PRs B h ow (X.map Td) vs:=by
 induction X with
 | nil=>intro vs hw;cases hw;exact(rfl:[]=[])
 | cons i X IH=>
  intro vs hw;obtain⟨v,vs',rfl,a,b⟩:=wellAll_cons_inv hw;cases a with
  | int i t=>exact(⟨_,_,rfl,⟨t,rfl⟩,IH b⟩:Pu (λu=>∃ t,u = .int i t) (λus=>PRs B h ow (X.map Td) us) _)
theorem AR{B:Base}{s:S9}(hh:B.h₀=s.heap)(ho:B.os=s.os)(hg:s.gens=#[]):SR B ⟨[],Zk,[]⟩ [] ⟨[],Zk,1000⟩ s:=by
 refine⟨rfl,(λi p h=>by simp at h),(λi h=>by simp at h),(λi j p q h=>by simp at h),(λi p h=>by simp at h),(λq h=>by cases h),(λb h=>by rcases h with h|h<;>cases h),trivial,⟨?_,λc P hN => ?_,λo h => ?_⟩,hg,ho.symm,(λi o h=>by simp at h),by decide⟩
 ·(refine b_ hh ?_);exact OldK.refl _
 ·obtain⟨a,b⟩:=hN;rw[hh]at a b
  exact⟨#[],a,b,λpos v h=>by simp [codeAmong]at h⟩
 ·rw[hh]at h;exact h
theorem yw:AC callerA ⟨[],Zk,[]⟩ [] 86:=⟨⟨[],rfl,λenv h=>by cases h⟩,by decide,by decide,rfl,rfl⟩
theorem yf{d:Bool}{c:WCtx}(h:(WTm.not (.lit (.bool d))).holds [] c=Zm):d=Zn:=by
 cases d with
 | false=>rfl
 | true=>exact Ti (h:Zn=Zm)
theorem Ly{X:List Int}(hp:(PySem.Challenge.rw_no0280_01:Ym).row.toRowW.pre.holds [] { args:=[.list (X.map Xe)] }=Zm):X.length<=63:=by
 have h1:(WTm.not (.lit (.bool (decide ((63:Int) < ((X.map Xe).length:Int)))))).holds [] { args:=[.list (X.map Xe)] }=Zm:=(holds_andW hp).1
 have h2:=of_decide_eq_false (yf h1)
 rw[Vl]at h2
 lia
theorem Dp(args:List WData):(PySem.Challenge.rw_no0280_01:Ym).row.toRowW.claim.post args (.bool Zm) args=Zm:=
 postW_of (by rfl) (X:=Zm) (by kernel_rfl) rfl
theorem GH{h:Tr}{a:Tc}{m m':Tq->Option SX}(x:h.Ns a m)(y:h.Ns a m')(n:Tq):m n=m' n:=by
 obtain⟨o,es,ep,e,hd,_,f⟩:=x;obtain⟨o',es',ep',e',hd',_,f'⟩:=y;rw[e]at e';cases e';rw[hd]at hd';cases hd';refine A' (f ..) ?_;exact b_ (f' ..) rfl
theorem yN{w:V1}{h:Tr}{g:Gt}{os:Wo}(X:Start ⟨pw,w,T0,h,mG g,mB g,os⟩){mg:Tq->Option SX}(hn:h.Ns mainGlobals mg){a:Tc}(hmg:mg "law"=Zj (.ref a)):a=830:=by
 have e:Zj (TQ a)=mG g "law":=hmg.symm.trans (GH hn X.g.g.1 "law")
 obtain⟨u,hu,hv⟩:=X.g.at' "law" (.val (.ref 830)) (by kernel_rfl)
 have e2:u = .ref 830:=by
  rcases hv with ⟨d,hd,_⟩|⟨hd,_⟩
  ·cases hd
  ·cases hd;rfl
 rcases hu with hu|⟨hu,_⟩
 ·have e3:=e.trans (hu.trans (congrArg Zj e2))
  cases e3;rfl
 ·have e3:=e.trans hu
  cases e3
theorem DN{P:Params}{h:Tr}{args:List WData}{vals:List SX}(hpre:(PySem.Challenge.rw_no0280_01:Ym).row.claim.pre args=Zm)(hwl:WellAll P h vals args) :
  X3 λ(Z:List Int) (al:Tc) (ls:List SX)=>A4 (vals=[.ref al]) (Z.length<=63) (h.get? al=Zj (bD "list" ls.toArray 0)) (WellAll P h ls (Z.map Xe)):=by
 obtain⟨hsh,hcond⟩:=pre_splitW hpre;obtain⟨d₀,r₀,rfl,h1,h2⟩:=hasAllW_cons hsh
 obtain rfl:=hasAllW_nil h2
 obtain⟨xs,rfl,h3⟩:=hasW_list h1;obtain⟨Z,rfl⟩:=Eu xs h3;obtain⟨v,vs',rfl,w1,w2⟩:=wellAll_cons_inv hwl;cases w2;cases w1 with
 | list hao hav=>exact⟨Z,_,_,rfl,Ly hcond,hao,hav⟩
theorem C9{B:Base}{P:Params}{ρ:e_}{h:Tr}{ow:Tc->Prop}{Z:List Int}{al:Tc}{ls:List SX}(hn:¬ ow al)(hz:Z.length<=63)(hao:h.get? al=Zj (bD "list" ls.toArray 0))(hav:WellAll P h ls (Z.map Xe)) :
  k_ B ρ h ow [.d (.list (Z.map Td))] [.ref al]:=
 (⟨_,_,rfl,⟨al,ls.toArray,0,rfl,hn,hao,Ax Z hav,by(refine b_ (Vl ..) ?_);lia⟩,rfl⟩:Pu (λu=>PP "list" h ow (λus=>PRs B h ow (Z.map Td) us/\(Z.map Td).length<=2 ^ 20) u) (λus=>us=[]) [.ref al])
theorem Aj(b:Tc):¬ aj ⟨[],Zk,[]⟩ [] b:=λh=>by
 rcases h with ⟨i,p,hp,_⟩|⟨q,hq,_⟩|h|h
 ·rw[List.getElem?_nil]at hp;cases hp
 ·cases hq
 ·cases h
 ·cases h
theorem GD{w:V1}{g:Gt}{s:S9}(X:Start ⟨pw,w,T0,s.heap,mG g,mB g,s.os⟩)(hg:s.gens=#[]){P:Params}{Z:List Int}{al:Tc}{ls:List SX}(hz:Z.length<=63)(hao:s.heap.get? al=Zj (bD "list" ls.toArray 0))(hav:WellAll P s.heap ls (Z.map Xe)) :
  wpAny (model pw w) callerA (PySem.call (.ref 830) [.ref al]) (λv s'=>v = .bool Zm/\OldK s.heap s'.heap/\s'.os=s.os/\s'.gens=#[]) (λ_ _=>False) s:=by
 obtain⟨σ',e⟩:=HP Z;have sd:=(jO X (Sp:=af) (N:=0) (λ{a sp} h=>by cases h) 86).cl (v := .val (.ref 830)) (as:=[.d (.list (Z.map Td))]) (u := .ref 830) (us:=[.ref al]) yw (λb hb=>by cases hb) (AR (B:=⟨pw,w,T0,s.heap,mG g,mB g,s.os⟩) (s:=s) rfl rfl hg) (by unfold VR;exact⟨rfl,rfl⟩) (C9 (Aj _) hz hao hav)
 rw[e]at sd;refine TJ sd (λv s' h => ?_) λ_ _ h=>h
 obtain⟨ρ',S',T',_,hv⟩:=h
 exact⟨OM.mp hv,S'.base.toOldK,S'.os,S'.gens⟩
theorem Cc{d:DefRec}{kwd:List (Tq×Expr)}(hdn:d.name=V5 "law"):WalkO qv dD (λ_ _=>True) YP (PySem.Challenge.rw_no0280_01:Ym).row.toRowW d kwd λf vs=>PySem.call f vs:=by
 intro w s₀ s₁ mg mb G Y a o pm cd doc dV kV ho hd hcd hD hmg hg args vals as hpre hlay hrd hwl hlo;obtain⟨g,H,hl,ht⟩:=Y;have X:=Ag (B:=⟨pw,w,T0,s₁.heap,mG g,mB g,s₁.os⟩) (g:=g) rfl H hl ht rfl rfl
 obtain⟨Z,al,ls,ev,hz,hao,hav⟩:=DN hpre hwl;refine b_ (yN X G.T.g (hdn▸hmg) :) ?_;refine b_ ev ?_
 refine TJ (GD X hg hz hao hav) (λv s' h => ?_) λ_ _ h=>h.elim
 obtain⟨hv,h1,h2,h3⟩:=h;refine b_ hv ?_
 exact⟨.inl ⟨_,.bool Zm,[],rfl,λcls=>rfl,.bool Zm,Dp _,λ_=>⟨Xi,λa h=>by cases h⟩⟩,h1,h2,.of_eq h3⟩
end
section
open PySem PySem.W PyProof.Rows PyProof
noncomputable def Kn(st:T9):DefRec:=match st with
 | .FunctionDef n a b _ _ _ sc _ _ p=>⟨n,a,b,sc,p⟩
 | _=>⟨"",{ posonlyargs:=[],args:=[],vararg:=Zk,kwonlyargs:=[],kw_defaults:=[],kwarg:=Zk,defaults:=[] },[],{ kind := .module,names:=[],isGenerator:=Zn,isCoroutine:=Zn,more:=[] },default⟩
theorem Go:X2 λd kwd=>A4 (defOf qv (V5 "law")=Zj (d,kwd)) (d.name=V5 "law") (pw.theDef (V5 "law")=Zj (d.params,d.body,d.scope)) (kwWritten? d.params.kwonlyargs d.params.kw_defaults=Zj kwd):=⟨Kn (ai ao 103),[],by kernel_rfl,by kernel_rfl,by kernel_rfl,by kernel_rfl⟩
theorem yo:(chainsOk qv&&opensWell pw&&(frees (PySem.Challenge.rw_no0280_01:Ym).row.toRowW&&(PySem.Challenge.rw_no0280_01:Ym).row.toRowW.within.isEmpty))=Zm:=by kernel_rfl
theorem Df:pw.bare:=⟨rfl,rfl,rfl,rfl,rfl,by decide +kernel⟩
theorem Cx:(PySem.Challenge.rw_no0280_01:Ym).row.toRowW.promised:=⟨[.list [.int 3,.int 1]],by decide +kernel,by decide +kernel⟩
theorem QQ:(PySem.Challenge.rw_no0280_01:Ym).Holds:=holds_law zN λsaid=>by
 obtain⟨d,kwd,h1,h2,h3,h4⟩:=Go;exact holds_open (XP:=λ_ _=>True) CX Jr DR (λ_ _=>trivial) (λ_ _ _ _ _=>trivial) h1 h3 h4 (λ_ _=>recFacts_nil rfl) rfl said yo Df Cx (Cc h2)
end
end Mine
theorem PySem.Challenge.cw_no0280_01_holds : PySem.Challenge.rw_no0280_01.Holds :=
  Mine.QQ
