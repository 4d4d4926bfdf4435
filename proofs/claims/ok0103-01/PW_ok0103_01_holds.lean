import PyProof.Rows.All
import PySem.Str
import PyProof.TableCode
import PyProof.ExcBaseAll.Exception
import PyProof.ExcAttrAll.Exception
import Wide.FinOn
import OpenK.AllK
import Wide.All
import Lean
import PySem.Challenge.RW_ok0103_01
open And renaming intro->XM
open Array renaming getElem?_eq_some_iff->Yl,getElem?_eq_getElem->a0g
open Bool renaming false_ne_true->Ww,or_eq_true->Yq,false_eq_true->Ze,or_eq_true_iff->ZT,or_true->ZZ,and_eq_true->a0x
open Decidable renaming em->YA
open Exists renaming elim->WS,imp->Xq
open ForInStep renaming yield->Yc
open Int renaming natCast_nonneg->XU,eq_ofNat_of_zero_le->Y5,ofNat->Yj,ofNat_le->YD,fmod->ZA,negSucc_lt_zero->ZQ,le_trans->ZV,ofNat_lt->ZW
open LawfulBEq renaming eq_of_beq->XE
open LawfulMonad renaming pure_bind->Zj
open List renaming getElem?_eq_getElem->Wt,length_append->Wu,getElem?_eq_some_iff->Wv,rec->WB,getElem?_append_left->WE,mem_singleton->WF,mem_cons->WJ,mem_of_getElem?->WN,getElem?_append_right->WQ,not_mem_nil->WT,size_toArray->WX,mem_cons_of_mem->WZ,toArray->X0,mem_append->X1,isEmpty_iff->X6,getElem?_toArray->X9,append_assoc->Xb,eq_nil_of_length_eq_zero->Xc,append_nil->Xh,all_eq_true->Xi,length_map->Xj,replicate->Xk,mem_cons_self->Xr,getElem?_eq_none->XT,contains_cons->XW,lookup_cons->XY,nodup_cons->Y9,map_append->Yb,append_toArray->Yh,getElem?_eq_none_iff->Yn,forIn_cons->Yp,length_drop->Yu,nodup_nil->Yw,map_cons->YH,length_replicate->YL,reverse_cons->YO,zip_append->Z9,range->Zb,getElem?_drop->Zf,pairwise_cons->Zg,cons->Zi,nodup_append->Zl,take_append_drop->Zq,mem_append_right->Zs,take_length->Zv,mem_iff_getElem->ZB,getElem?_set_ne->ZC,mem_append_left->ZG,mem_map_of_mem->ZR,map_congr_left->ZS,mem_map->ZX,pairwise_iff_getElem->a0h,length->a0i,lookup->a0k,eq_of_mem_replicate->a0u,all_cons->a0v,length_cons->a0A,length_take->a0B,filter_cons->a0E
open Nat renaming le_of_ble_eq_true->Wl,beq->Wm,blt->Wo,eq_of_beq_eq_true->Wq,le_trans->Wz,le_add_right->WC,ble->WD,add_sub_cancel_left->WH,exists_eq_add_of_le->WM,le_refl->WO,sub->WP,le_of_succ_le->WR,succ->WU,lt_of_lt_of_le->WV,add->WW,lt_of_le_of_lt->X5,le_succ_of_le->X8,lt_or_ge->Xl,add_assoc->Xm,ne_of_beq_eq_false->Xp,zero_le->Xu,ble_eq_true_of_le->Xv,ne_of_lt->XA,lt_succ_self->XB,add_le_add_left->XC,rec->XI,succ_le_succ->XV,exists_eq_add_of_le'->XZ,le_of_lt->Y0,lt_succ_of_lt->Y4,div->Yi,not_le_of_lt->Yy,ne_of_gt->YB,add_le_add_right->YY,not_lt_of_le->Z1,mod->Za,le_of_eq->Zn,sub_eq_zero_of_le->Zr,le_of_not_lt->Zt,mul->Zz,le_succ->ZD,min_le_left->ZK,add_sub_cancel'->ZP,min_self->ZY,zero_add->a03,lt_irrefl->a0t
open Nat.succ renaming inj->YZ
open Ne renaming symm->YQ
open Option renaming isNone_iff_eq_none->Xo,bind_some->Yk,map_eq_some_iff->YC,isSome_iff_exists->a0n,bind_eq_some_iff->a0y
open Option.some renaming inj->Wn,injEq->a0j
open Prod.mk renaming injEq->YI
open PyProof.Rows renaming slot_tuple_getitem->Yt,slot_tuple_getitem->a07
open PySem renaming wpAny_bind->Wj,Expr->Wk,Shared->Wp,wpAny_pure->Ws,Env->Wy,eval->WG,wpAny_mono->WK,wpAny_field->X2,wpAny_holding->X3,Params->X4,Around->X7,wpAny_standAt->Xa,wpAny_callSpecial?_slot->Xx,OsState->Xy,wpAny_setField_rec->Xz,Builtin->XD,Thread->XJ,wpAny_call_entry->XN,wpAny_of_eq->Y2,wpAny_seqItems->Y3,wpAny_newObj_type->Y6,wpAny_loadPart_at->Y7,FuncData->Yg,Arguments->Yo,IsPair->Yx,Program->Yz,codeAny_mono->YE,wpAny_execs_nil->YF,Str->YG,Comprehension->YJ,builtinLookup_eq_fast->YN,getMethod_builtin->YR,PyData->YV,wpAny_setField->YX,wpAny_isSubtype_exc->Z3,NameKind->Z6,wpAny_attempt->Z7,call_meets->Zd,wpAny_Call_NameR->Zw,wpAny_execs_cons->Zx,wpAny_letTemporaryGo->ZE,wpAny_loadName_local->ZF,wpAny_updateSeq_pair->ZJ,wpAny_specialOf->ZL,typeLookup_type->ZM,isTrue->a02,wpAny_rule->a06,wpAny_loadPart->a08,wpAny_call->a0a,isSubtype_type->a0b,wpAny_pyIter_tuple->a0c,arm_evalEach_cons->a0m,wpAny_onRaise->a0o,wpAny_newList->a0p,ExceptHandler->a0q,DictEntry->a0w,Operator->a0z,wpAny_lookBehind->a0C,wpAny_isInstance->a0D
open PySem.Around renaming frames_deeper->ZI
open PySem.Builtin renaming bitNot->a05
open PySem.Builtin.Slice renaming slicePlaces->Z2
open PySem.Builtin.SmallTypes renaming nextOf->Xg,ownedTupleIsFree->XF,ownedTupleHandOut->Z4
open PySem.Builtin.Str renaming occurrences->Zk
open PySem.Calls renaming spliced_cons->a0e,Name_function_global->a0f
open PySem.Code renaming quiet_builtin->a09
open PySem.Const renaming casesOn->a0r
open PySem.F renaming slot_tuple_iterator_next->Ym,slot_list_iadd->Zm,plainAttrs_list->Zo,args_tuple_iterator_next_1->ZN,slot_zip_next->ZO,entry_tuple_iterator_next->a01,slot_list_append->a0d
open PySem.Heap renaming get?_push_of_some->Wr,get?_push_size->WA,get?_update_other->WL,SameBut->WY,get?_update_self->Xw,lt_size->XO,size_push->Y1,get?_none_of_le->YU,dictOf_iff->Z8,ExtBut->a0l
open PySem.Heap.IsSliceOf renaming new->a0s
open PySem.Heap.SameBut renaming update->XQ
open PySem.NameKind renaming free->YK
open PySem.Obj renaming data_mapFields->XX,isFreed_of_fields->YM,mapSeq->YW,mapFields->Zy
open PySem.PyData renaming depthAll->Y8,canLayAll0->Yr,eqv->Ys,keyHash->YS
open PySem.Str renaming ofString->Wi,ofString->Z0
open PySem.TablesWhole renaming noTwice->ZU
open PySem.Value renaming ref->Xn,none->XK,bool->YT,builtin->Z5,int->a04
open PySem.W renaming boot_drawn->Xe,boot_o_0->Yd,boot_o_4->Ye,boot_heap->Zu,looks_findIn->a00
open PySem.W.Fast renaming te17119622794617984870->XG,te8326940854005059898->Zh
set_option Elab.async false
set_option maxRecDepth 100000
set_option maxHeartbeats 0
set_option linter.all false
set_option genInjectivity false
set_option genSizeOf false
section
namespace Mine
inductive V where
 |none|bool (b:Bool)|int (i:Int)|str (s:List Nat)|tup (l:List V)|ref (i:Nat)
inductive O where
 |lst (l:List V)
 |inst (c d:Nat)
 |sd (es:List (List Nat × V))
 |nd (ks:List Int)
 |arg (l:List V)
 |exc (d:Option Nat)
 |tmp
noncomputable abbrev St:=List O
noncomputable abbrev Env:=List (Nat × V)
inductive BI where |len|max|tuple|list|sorted|reversed|range|zip|sum|str
inductive Op where |add|sub|mul|fdiv|mod|pow|shl|shr|band|bor|bxor
inductive Cm where |eq|ne|lt|le|gt|ge|in_|notin|is_|isnot
inductive Kd where |tuple|str
inductive P where |name (x:Nat)|tup (l:List P)
inductive E where
 |any
 |c (v:V)
 |loc (x:Nat)
 |tup (es:List E)
 |lst (es:List E)
 |dct (ks:List (List Nat)) (es:List E)
 |bin (op:Op) (a b:E)
 |neg (a:E)
 |not (a:E)
 |and (es:List E)
 |or (es:List E)
 |cmp (op:Cm) (a b:E)
 |ite (t a b:E)
 |attr (o:E) (n:List Nat)
 |idx (a b:E)
 |slice (a:E) (lo hi:Option E)
 |call (f:Nat) (es:List E)
 |new (c:Nat) (es:List E)
 |meth (o:E) (n:List Nat) (es:List E)
 |bi (b:BI) (es:List E)
 |isi (k:Kd) (a:E)
 |comp (elt:E) (p:P) (it:E) (ifs:List E)
inductive T where |pat (p:P)|attr (o:E) (n:List Nat)|sub (o i:E)
inductive S where
 |any
 |pass|cont|brk
 |expr (e:E)
 |assign (t:T) (e:E)
 |augN (x:Nat) (e:E)
 |augS (o i e:E)
 |ite (t:E) (a b:List S)
 |for_ (p:P) (it:E) (b:List S)
 |while (t:E) (b:List S)
 |ret (e:Option E)
 |raise (es:List E)
 |try_ (e:E) (m:List Nat) (z:Nat)
 |mk (i:Nat)
structure ae where
 params:List Nat
 dflts:List V
 body:List S
structure da where
 init:Nat
 meths:List (List Nat × Nat)
structure bU where
 fns:List ae
 cls:List da
 mks:List (List S)
inductive R(α:Type) where
 |ok (a:α) (σ:St)
 |exc (k:List Nat)
 |bad
inductive F where |next|brk|cont|ret (v:V)
noncomputable section
section
variable{α β:Type}
noncomputable def fp(v:V)(k:Int->α)(d:α):α:=@V.rec (λ_=>α) (λ_=>Unit) d (λ_=>d) k (λ_=>d) (λ_ _=>d) (λ_=>d) () (λ_ _ _ _=>()) v
noncomputable def jv(v:V)(k:List Nat->α)(d:α):α:=@V.rec (λ_=>α) (λ_=>Unit) d (λ_=>d) (λ_=>d) k (λ_ _=>d) (λ_=>d) () (λ_ _ _ _=>()) v
noncomputable def ko(v:V)(k:List V->α)(d:α):α:=@V.rec (λ_=>α) (λ_=>Unit) d (λ_=>d) (λ_=>d) (λ_=>d) (λl _=>k l) (λ_=>d) () (λ_ _ _ _=>()) v
noncomputable def cD(v:V)(k:Nat->α)(d:α):α:=@V.rec (λ_=>α) (λ_=>Unit) d (λ_=>d) (λ_=>d) (λ_=>d) (λ_ _=>d) k () (λ_ _ _ _=>()) v
noncomputable def rv(v:V)(k:Bool->α)(d:α):α:=@V.rec (λ_=>α) (λ_=>Unit) d k (λ_=>d) (λ_=>d) (λ_ _=>d) (λ_=>d) () (λ_ _ _ _=>()) v
noncomputable def FC(v:V)(k d:α):α:=@V.rec (λ_=>α) (λ_=>Unit) k (λ_=>d) (λ_=>d) (λ_=>d) (λ_ _=>d) (λ_=>d) () (λ_ _ _ _=>()) v
noncomputable def iN(v:V)(i:Int->α)(s:List Nat->α)(t:List V->α)(r:Nat->α)(d:α):α:=@V.rec (λ_=>α) (λ_=>Unit) d (λ_=>d) i s (λl _=>t l) r () (λ_ _ _ _=>()) v
noncomputable def opt(o:Option β)(k:β->α)(d:α):α:=@Option.rec β (λ_=>α) d k o
noncomputable def tf(b:Bool)(t e:α):α:=@Bool.rec (λ_=>α) e t b
noncomputable def lc(l:List β)(n:α)(k:β->List β->α):α:=@WB β (λ_=>α) n (λa r _=>k a r) l
noncomputable def nat(i:Int)(k:Nat->α)(d:α):α:=@Int.rec (λ_=>α) k (λ_=>d) i
noncomputable def oL(o:O)(k:List V->α)(d:α):α:=@O.rec (λ_=>α) k (λ_ _=>d) (λ_=>d) (λ_=>d) (λ_=>d) (λ_=>d) d o
noncomputable def oC(o:O)(k:Nat->Nat->α)(d:α):α:=@O.rec (λ_=>α) (λ_=>d) k (λ_=>d) (λ_=>d) (λ_=>d) (λ_=>d) d o
noncomputable def oD(o:O)(k:List (List Nat × V)->α)(d:α):α:=@O.rec (λ_=>α) (λ_=>d) (λ_ _=>d) k (λ_=>d) (λ_=>d) (λ_=>d) d o
noncomputable def oX(o:O)(k:Option Nat->α)(d:α):α:=@O.rec (λ_=>α) (λ_=>d) (λ_ _=>d) (λ_=>d) (λ_=>d) (λ_=>d) k d o
noncomputable def oO(o:O)(l:List V->α)(c:Nat->Nat->α)(s:List (List Nat × V)->α)(n:List Int->α)(a:List V->α)(x:Option Nat->α)(d:α):α:=@O.rec (λ_=>α) l c s n a x d o
noncomputable def vd(f:F)(n b c:α)(r:V->α):α:=@F.rec (λ_=>α) n b c r f
noncomputable def l1(l:List β)(k:β->α)(d:α):α:=lc l d λa r=>lc r (k a) λ_ _=>d
noncomputable def l0(l:List β)(k d:α):α:=lc l k λ_ _=>d
variable{r d:α}{P:Prop}
theorem aR{v:V}{k:Int->α}(h:fp v k d=r)(n:r≠d)(f:∀i,v=.int i->k i=r->P):P:=by cases v<;>first|exact f _ rfl h|exact(n h.symm).elim
theorem cS{v:V}{k:List Nat->α}(h:jv v k d=r)(n:r≠d)(f:∀i,v=.str i->k i=r->P):P:=by cases v<;>first|exact f _ rfl h|exact(n h.symm).elim
theorem cy{v:V}{k:List V->α}(h:ko v k d=r)(n:r≠d)(f:∀i,v=.tup i->k i=r->P):P:=by cases v<;>first|exact f _ rfl h|exact(n h.symm).elim
theorem aM{v:V}{k:Nat->α}(h:cD v k d=r)(n:r≠d)(f:∀i,v=.ref i->k i=r->P):P:=by cases v<;>first|exact f _ rfl h|exact(n h.symm).elim
theorem ji{v:V}{k:Bool->α}(h:rv v k d=r)(n:r≠d)(f:∀i,v=.bool i->k i=r->P):P:=by cases v<;>first|exact f _ rfl h|exact(n h.symm).elim
theorem e8{v:V}{k:α}(h:FC v k d=r)(n:r≠d)(f:v=.none->k=r->P):P:=by cases v<;>first|exact f rfl h|exact(n h.symm).elim
theorem a8{o:Option β}{k:β->α}(h:opt o k d=r)(n:r≠d)(f:∀a,o=some a->k a=r->P):P:=by cases o with |none=>exact(n h.symm).elim|some a=>exact f a rfl h
theorem l9{i:Int}{k:Nat->α}(h:nat i k d=r)(n:r≠d)(f:∀a,i=.ofNat a->k a=r->P):P:=by cases i with |negSucc _=>exact(n h.symm).elim|ofNat a=>exact f a rfl h
theorem au{b:Bool}{t e:α}(h:tf b t e=r)(f:b=true->t=r->P)(g:b=false->e=r->P):P:=by cases b with |true=>exact f rfl h|false=>exact g rfl h
theorem am{b:Bool}{t:α}(h:tf b t d=r)(n:r≠d)(f:b=true->t=r->P):P:=by cases b with |true=>exact f rfl h|false=>exact(n h.symm).elim
theorem v7{o:O}{k:List V->α}(h:oL o k d=r)(n:r≠d)(f:∀a,o=.lst a->k a=r->P):P:=by cases o<;>first|exact f _ rfl h|exact(n h.symm).elim
theorem uN{o:O}{k:Nat->Nat->α}(h:oC o k d=r)(n:r≠d)(f:∀a b,o=.inst a b->k a b=r->P):P:=by cases o<;>first|exact f _ _ rfl h|exact(n h.symm).elim
theorem uh{o:O}{k:List (List Nat × V)->α}(h:oD o k d=r)(n:r≠d)(f:∀a,o=.sd a->k a=r->P):P:=by cases o<;>first|exact f _ rfl h|exact(n h.symm).elim
theorem CZ{o:O}{k:Option Nat->α}(h:oX o k d=r)(n:r≠d)(f:∀a,o=.exc a->k a=r->P):P:=by cases o<;>first|exact f _ rfl h|exact(n h.symm).elim
theorem eH{l:List β}{k:β->α}(h:l1 l k d=r)(n:r≠d)(f:∀a,l=[a]->k a=r->P):P:=by
 cases l with
 |nil=>exact(n h.symm).elim
 |cons a l=>cases l with
  |nil=>exact f a rfl h
  |cons _ _=>exact(n h.symm).elim
theorem iB{l:List β}{k:α}(h:l0 l k d=r)(n:r≠d)(f:l=[]->k=r->P):P:=by cases l with |nil=>exact f rfl h|cons _ _=>exact(n h.symm).elim
end
noncomputable def R.bind{α β:Type}(r:R α)(f:α->St->R β):R β:=@R.rec α (λ_=>R β) f .exc .bad r
noncomputable def R.of{α:Type}(o:Option α)(σ:St):R α:=opt o (λa=>.ok a σ) .bad
noncomputable def gd{α:Type}(b:Bool)(r:R α):R α:=tf b r .bad
theorem aV:true≠false:=λe=>Ww e.symm
theorem ad{α:Type}{a:α}:some a≠none:=Option.some_ne_none a
theorem ka{α:Type}{o:Option α}{a:α}{P:Prop}(h:o=none)(k:o=some a):P:=absurd (k.symm.trans h) ad
noncomputable def bp(a:List Nat):List Nat->Bool:=@WB Nat (λ_=>List Nat->Bool) (λb=>lc b true λ_ _=>false) (λx _ ih b=>lc b false λy s=>tf (Wm x y) (ih s) false) a
noncomputable def aa(ρ:Env)(x:Nat):Option V:=@WB (Nat × V) (λ_=>Option V) none (λp _ ih=>tf (Wm p.1 x) (some p.2) ih) ρ
noncomputable def ag(ρ:Env)(x:Nat)(v:V):Env:=@WB (Nat × V) (λ_=>Env) [(x,v)] (λp r ih=>tf (Wm p.1 x) ((p.1,v)::r) (p::ih)) ρ
noncomputable def ax(es:List (List Nat × V))(x:List Nat):Option V:=@WB (List Nat × V) (λ_=>Option V) none (λp _ ih=>tf (bp p.1 x) (some p.2) ih) es
noncomputable def bw(es:List (List Nat × V))(x:List Nat)(v:V):List (List Nat × V):=@WB (List Nat × V) (λ_=>List (List Nat × V)) [(x,v)] (λp r ih=>tf (bp p.1 x) ((p.1,v)::r) (p::ih)) es
noncomputable def a6(σ:St):Nat->Option O:=@WB O (λ_=>Nat->Option O) (λ_=>none) (λa _ ih i=>@XI (λ_=>Option O) (some a) (λk _=>ih k) i) σ
noncomputable def az(σ:St):Nat->O->St:=@WB O (λ_=>Nat->O->St) (λ_ _=>[]) (λa r ih i o=>@XI (λ_=>St) (o::r) (λk _=>a::ih k o) i) σ
theorem aj(σ:St):∀i,a6 σ i=σ[i]?:=by
 induction σ with
 |nil=>exact λ_=>rfl
 |cons a r ih=>exact λi=>by cases i with |zero=>rfl|succ i=>exact ih i
theorem cC(o:O)(σ:St):∀i,az σ i o=σ.set i o:=by
 induction σ with
 |nil=>exact λ_=>rfl
 |cons a r ih=>exact λi=>by cases i with |zero=>rfl|succ i=>exact congrArg (a:: ·) (ih i)
theorem jz{a b:Nat}(h:a≠b):Wm a b=false:=by
 cases q:Wm a b with
 |true=>exact absurd (Wq q) h
 |false=>rfl
theorem aH{x n:Nat}{v:V}{ρ:Env}:aa (ag ρ x v) n=tf (Wm x n) (some v) (aa ρ n):=by
 induction ρ with
 |nil=>rfl
 |cons p r ih=>
  show aa (tf (Wm p.1 x) ((p.1,v)::r) (p::ag r x v)) n=tf (Wm x n) (some v) (tf (Wm p.1 n) (some p.2) (aa r n))
  cases h:Wm p.1 x with
  |true=>
   rw[<-Wq h]
   show tf (Wm p.1 n) (some v) (aa r n)=_
   cases Wm p.1 n<;>rfl
  |false=>
   show tf (Wm p.1 n) (some p.2) (aa (ag r x v) n)=_
   rw[ih]
   cases k:Wm p.1 n with
   |false=>rfl
   |true=>
    cases Wq k
    rw[jz λe=>Xp h e.symm]
    rfl
theorem fE{x n:Nat}{v w:V}{ρ:Env}{P:Prop}(h:aa (ag ρ x v) n=some w)(f:x=n->v=w->P)(g:x≠n->aa ρ n=some w->P):P:=
 au (aH.symm.trans h) (λe k=>f (Wq e) (Wn k)) λe k=>g (Xp e) k
noncomputable def atL{α:Type}(σ:St)(i:Nat)(k:List V->α)(d:α):α:=opt (a6 σ i) (λo=>oL o k d) d
noncomputable def atD{α:Type}(σ:St)(i:Nat)(k:List (List Nat × V)->α)(d:α):α:=opt (a6 σ i) (λo=>oD o k d) d
noncomputable def QH{α:Type}(σ:St)(i:Nat)(k:Nat->Nat->α)(d:α):α:=opt (a6 σ i) (λo=>oC o k d) d
section
variable{α:Type}{σ:St}{i:Nat}{r d:α}{P:Prop}
theorem aZ{k:List V->α}(h:atL σ i k d=r)(n:r≠d)(f:∀l,a6 σ i=some (.lst l)->k l=r->P):P:=a8 h n λ_ e h=>v7 h n λ_ q h=>f _ (q▸e) h
theorem lp{k:List (List Nat × V)->α}(h:atD σ i k d=r)(n:r≠d)(f:∀l,a6 σ i=some (.sd l)->k l=r->P):P:=a8 h n λ_ e h=>uh h n λ_ q h=>f _ (q▸e) h
theorem Dd{k:Nat->Nat->α}(h:QH σ i k d=r)(n:r≠d)(f:∀c e,a6 σ i=some (.inst c e)->k c e=r->P):P:=a8 h n λ_ e h=>uN h n λ_ _ q h=>f _ _ (q▸e) h
end
noncomputable def pB(σ:St)(v:V)(n:List Nat):R V:=cD v (λi=>QH σ i (λ_ d=>atD σ d (λes=>.of (ax es n) σ) .bad) .bad) .bad
noncomputable def QF(i:Int)(b:V):Bool:=@V.rec (λ_=>Bool) (λ_=>Unit) false (λb=>decide (i=tf b 1 0)) (λj=>decide (i=j)) (λ_=>false) (λ_ _=>false) (λ_=>false) () (λ_ _ _ _=>()) b
noncomputable def ny(a:V):V->Bool:=@V.rec (λ_=>V->Bool) (λ_=>List V->Bool) (λb=>FC b true false) (λx=>QF (tf x 1 0)) QF (λs b=>jv b (bp s) false) (λ_ ih b=>ko b ih false) (λ_ _=>false)
 (λb=>lc b true λ_ _=>false) (λ_ _ f g b=>lc b false λy s=>tf (f y) (g s) false) a
noncomputable def BG(a:List V):List V->Bool:=@V.rec_1 (λ_=>V->Bool) (λ_=>List V->Bool) (λb=>FC b true false) (λx=>QF (tf x 1 0)) QF (λs b=>jv b (bp s) false) (λ_ ih b=>ko b ih false) (λ_ _=>false)
 (λb=>lc b true λ_ _=>false) (λ_ _ f g b=>lc b false λy s=>tf (f y) (g s) false) a
noncomputable def F5(v:V):Nat:=@V.rec (λ_=>Nat) (λ_=>Nat) 0 (λ_=>0) (λ_=>0) (λ_=>0) (λ_ n=>n+1) (λ_=>0) 0 (λ_ _ a b=>max a b) v
noncomputable def jd(v:List V):Nat:=@V.rec_1 (λ_=>Nat) (λ_=>Nat) 0 (λ_=>0) (λ_=>0) (λ_=>0) (λ_ n=>n+1) (λ_=>0) 0 (λ_ _ a b=>max a b) v
noncomputable def oK(s:List Nat):Bool:=@WB Nat (λ_=>Bool) true (λc _ ih=>tf (Wo c 55296) ih false) s
noncomputable def plain(v:V):Bool:=@V.rec (λ_=>Bool) (λ_=>Bool) true (λ_=>true) (λ_=>true) oK (λ_ b=>b) (λ_=>false) true (λ_ _ a b=>tf a b false) v
noncomputable def aG(v:List V):Bool:=@V.rec_1 (λ_=>Bool) (λ_=>Bool) true (λ_=>true) (λ_=>true) oK (λ_ b=>b) (λ_=>false) true (λ_ _ a b=>tf a b false) v
noncomputable def jq(a b:Nat):Bool:=decide (min a b<=60)
noncomputable def lG(v:V)(l:List V):Bool:=@WB V (λ_=>Bool) false (λa _ ih=>tf (ny a v) true ih) l
noncomputable def QR(σ:St)(v:V)(l:List V):R Bool:=gd (plain v&&aG l&&decide (F5 v<=60)) (.ok (lG v l) σ)
noncomputable def Sc(σ:St)(a b:V):R Bool:=gd (plain a&&plain b&&jq (F5 a) (F5 b)) (.ok (ny a b) σ)
noncomputable def E3(σ:St)(i j:Nat):R Bool:=atL σ i (λx=>atL σ j (λy=>gd (aG x&&aG y&&jq (jd x+1) (jd y+1)) (.ok (BG x y) σ)) .bad) .bad
noncomputable def sf(σ:St)(a b:V):R Bool:=cD a (λi=>cD b (E3 σ i) .bad) (Sc σ a b)
noncomputable def aU(n:Nat):Bool:=decide (n<=100000)
noncomputable def dW(σ:St)(v:V):R Bool:=@V.rec (λ_=>R Bool) (λ_=>Unit) (.ok false σ) (λb=>.ok b σ) (λi=>.ok (decide (i≠0)) σ) (λs=>gd (aU s.length) (.ok (!s.isEmpty) σ)) (λl _=>gd (aU l.length) (.ok (!l.isEmpty) σ))
 (λi=>atL σ i (λl=>.ok (!l.isEmpty) σ) .bad) () (λ_ _ _ _=>()) v
noncomputable def FM{α:Type}(l:List α)(k:Int):Option α:=@Int.rec (λ_=>Option α) (λn=>tf (Wo n 100000) l[n]? none) (λn=>tf (Wo n 100000&&Wo n l.length&&WD l.length 1000000) l[l.length-(n+1)]? none) k
noncomputable def BE(σ:St)(l:List V)(k:V):R V:=fp k (λz=>.of (FM l z) σ) .bad
noncomputable def A5(σ:St)(o:O)(k:V):R V:=oO o (λl=>BE σ l k) (λ_ _=>.bad) (λes=>jv k (λn=>.of (ax es n) σ) .bad) (λ_=>.bad) (λ_=>.bad) (λ_=>.bad) .bad
noncomputable def item(σ:St)(a k:V):R V:=iN a (λ_=>.bad) (λs=>fp k (λz=>opt (FM s z) (λc=>.ok (.str [c]) σ) .bad) .bad) (λl=>BE σ l k) (λi=>opt (a6 σ i) (λo=>A5 σ o k) .bad) .bad
noncomputable def wC{α:Type}(o:Option V)(k:Option Nat->R α):R α:=opt o (λv=>fp v (λz=>nat z (λn=>k (some n)) .bad) .bad) (k none)
noncomputable def cut{α:Type}(l:List α)(lo hi:Option Nat):List α:=opt lo (λk=>(opt hi (λh=>l.take h) l).drop k) (opt hi (λh=>l.take h) l)
noncomputable def ia(i:Int):Bool:=decide (-(2 ^ 64:Int)<i)&&decide (i<(2 ^ 64:Int))
noncomputable def og(b:Bool)(i:Int):Option Int:=tf b (some i) none
noncomputable def C6(op:Op)(a b:Int):Option Int:=@Op.rec (λ_=>Option Int) (some (a+b)) (some (a-b)) (og (ia a&&ia b) (a*b)) (og (decide (b≠0)&&(decide (-1000000<b)&&decide (b<1000000))) (Int.fdiv a b)) (og (decide (b≠0)) (ZA a b))
 (og (decide (a=2)&&(decide (0<=b)&&decide (b<64))) ((2:Int) ^ b.toNat)) (og (decide (a=1)&&(decide (0<=b)&&decide (b<64))) ((2:Int) ^ b.toNat))
 (og (decide (0<=a)&&(ia a&&(decide (0<=b)&&decide (b<64)))) (Int.fdiv a ((2:Int) ^ b.toNat)))
 (og (decide (0<=a)&&(decide (0<=b)&&(ia a&&ia b))) (Yj (a.toNat&&& b.toNat))) (og (decide (0<=a)&&(decide (0<=b)&&(ia a&&ia b))) (Yj (a.toNat|||b.toNat)))
 (og (decide (0<=a)&&(decide (0<=b)&&(ia a&&ia b))) (Yj (a.toNat|||b.toNat)-Yj (a.toNat&&& b.toNat))) op
noncomputable def mU(o:Op):Bool:=@Op.rec (λ_=>Bool) true false false false false false false false false false false o
noncomputable def Bi(o:Op):Bool:=@Op.rec (λ_=>Bool) false false true false false false false false false false false o
theorem jH{op:Op}(h:mU op=true):op=.add:=by cases op<;>first|rfl|exact absurd h Ww
theorem wZ{op:Op}(h:Bi op=true):op=.mul:=by cases op<;>first|rfl|exact absurd h Ww
noncomputable def newL(σ:St)(l:List V):R V:= .ok (.ref σ.length) (σ++[.lst l])
noncomputable def OZ(σ:St)(x y:List V):R V:=gd (aU (x.length+y.length)) (newL σ (x++y))
noncomputable def Rz(σ:St)(l:List V)(z:Int):R V:=nat z (λn=>l1 l (λx=>gd (Wo n 64) (newL σ (Xk n x))) .bad) .bad
noncomputable def OE(op:Op)(σ:St)(x:List V)(b:V):R V:=iN b (λn=>gd (Bi op) (Rz σ x n)) (λ_=>.bad) (λ_=>.bad) (λj=>atL σ j (λy=>gd (mU op) (OZ σ x y)) .bad) .bad
noncomputable def Ru(op:Op)(σ:St)(x y:List Nat):R V:=gd (mU op) (gd (aU (x.length+y.length)) (.ok (.str (x++y)) σ))
noncomputable def Sl(op:Op)(σ:St)(x y:List V):R V:=gd (mU op) (gd (aU (x.length+y.length)) (.ok (.tup (x++y)) σ))
noncomputable def gB(op:Op)(σ:St)(a b:V):R V:=iN a (λx=>fp b (λy=>opt (C6 op x y) (λz=>.ok (.int z) σ) .bad) .bad) (λx=>jv b (Ru op σ x) .bad) (λx=>ko b (Sl op σ x) .bad) (λi=>atL σ i (λl=>OE op σ l b) .bad) .bad
noncomputable def qa(σ:St)(a b:V):R V:=iN a (λx=>fp b (λy=>.ok (.int (x+y)) σ) .bad) (λ_=>.bad) (λ_=>.bad)
 (λi=>cD b (λj=>atL σ i (λx=>atL σ j (λy=>gd (aU (x.length+y.length)) (.ok (.ref i) (az σ i (.lst (x++y))))) .bad) .bad) .bad) .bad
noncomputable def iM(v:V):Bool:=FC v true false
noncomputable def Ak(σ:St)(a:V)(o:O):R Bool:=oO o (QR σ a) (λ_ _=>.bad) (λes=>jv a (λn=>.ok (ax es n).isSome σ) .bad) (λ_=>.bad) (λ_=>.bad) (λ_=>.bad) .bad
noncomputable def tW(σ:St)(a b:V):R Bool:=iN b (λ_=>.bad) (λ_=>.bad) (QR σ a) (λi=>opt (a6 σ i) (Ak σ a) .bad) .bad
noncomputable def yF(σ:St)(a b:V)(f:Int->Int->Bool):R Bool:=fp a (λx=>fp b (λy=>.ok (f x y) σ) .bad) .bad
noncomputable def zP(r:R Bool):R Bool:=r.bind λq σ=>.ok (!q) σ
noncomputable def jf(op:Cm)(σ:St)(a b:V):R Bool:=@Cm.rec (λ_=>R Bool) (sf σ a b) (zP (sf σ a b)) (yF σ a b λx y=>decide (x<y)) (yF σ a b λx y=>decide (x<=y)) (yF σ a b λx y=>decide (y<x)) (yF σ a b λx y=>decide (y<=x))
 (tW σ a b) (zP (tW σ a b)) (gd (iM b) (.ok (iM a) σ)) (gd (iM b) (.ok (!iM a) σ)) op
noncomputable def uZ(c:Nat)(l:List Nat):Nat->Option Nat:=@WB Nat (λ_=>Nat->Option Nat) (λ_=>none) (λa _ ih k=>tf (Wm a c) (some k) (ih (k+1))) l
noncomputable def fH(l:List V):Option (List Int):=@WB V (λ_=>Option (List Int)) (some []) (λv _ ih=>fp v (λi=>opt ih (λr=>some (i::r)) none) none) l
noncomputable def jg(x:Int)(l:List Int):List Int:=@WB Int (λ_=>List Int) [x] (λy r ih=>tf (decide (x<=y)) (x::y::r) (y::ih)) l
noncomputable def ib(l:List Int):List Int:=@WB Int (λ_=>List Int) [] (λx _ ih=>jg x ih) l
noncomputable def va(m:Int)(l:List Int):Int:=@WB Int (λ_=>Int->Int) (λm=>m) (λx _ ih m=>ih (tf (decide (m<x)) x m)) l m
noncomputable def gU(i:Int):Bool:=decide (-(2 ^ 40:Int)<i)&&decide (i<(2 ^ 40:Int))
noncomputable def kg(m:Int)(l:List Int):Int:=@WB Int (λ_=>Int->Int) (λm=>m) (λx _ ih m=>ih (m+x)) l m
noncomputable def pZ(f:Nat):Nat->List Nat:=@XI (λ_=>Nat->List Nat) (λ_=>[]) (λ_ ih n=>tf (Wo n 10) [48+n] (ih (n / 10)++[48+n % 10])) f
noncomputable def Nq(σ:St)(v:V):R V:=iN v (λ_=>.bad) (λs=>gd (aU s.length) (.ok (.int s.length) σ)) (λl=>gd (aU l.length) (.ok (.int l.length) σ)) (λi=>atL σ i (λl=>.ok (.int l.length) σ) .bad) .bad
noncomputable def NO(σ:St)(v:V):R V:=cD v (λi=>atL σ i (λl=>opt (fH l) (λns=>lc ns .bad λa r=>.ok (.int (va a r)) σ) .bad) .bad) .bad
noncomputable def G9(σ:St)(v w:V):R V:=fp v (λa=>fp w (λb=>.ok (.int (tf (decide (a<b)) b a)) σ) .bad) .bad
noncomputable def JC(σ:St)(v:V):R V:=cD v (λi=>atL σ i (λl=>.ok (.tup l) σ) .bad) .bad
noncomputable def Q2(σ:St)(v:V):R V:=ko v (λl=>gd (aU l.length) (newL σ l)) .bad
noncomputable def CE(σ:St)(o:O):R V:=oO o (λ_=>.bad) (λ_ _=>.bad) (λes=>l0 es (newL σ []) .bad) (λks=>gd (Wo ks.length 64) (newL σ ((ib ks).map .int))) (λ_=>.bad) (λ_=>.bad) .bad
noncomputable def wE(σ:St)(v:V):R V:=cD v (λi=>opt (a6 σ i) (CE σ) .bad) .bad
noncomputable def Kr(σ:St)(v:V):R V:=cD v (λi=>atL σ i (λl=>opt (fH l) (λns=>gd (ns.all gU&&aU ns.length) (.ok (.int (kg 0 ns)) σ)) .bad) .bad) .bad
noncomputable def PH(σ:St)(v:V):R V:=fp v (λi=>nat i (λn=>gd (Wo n 64) (.ok (.str (pZ 10 n)) σ)) .bad) .bad
noncomputable def Rl(σ:St)(vs:List V):R V:=lc vs .bad λv r=>lc r (NO σ v) λw r=>lc r (G9 σ v w) λ_ _=>.bad
noncomputable def builtin(b:BI)(σ:St)(vs:List V):R V:=@BI.rec (λ_=>R V) (l1 vs (Nq σ) .bad) (Rl σ vs) (l1 vs (JC σ) .bad) (l1 vs (Q2 σ) .bad) (l1 vs (wE σ) .bad) .bad .bad .bad (l1 vs (Kr σ) .bad) (l1 vs (PH σ) .bad) b
noncomputable def GE(s:List Nat)(σ:St)(v:V):R V:=jv v (λt=>l1 t (λc=>opt (uZ c s 0) (λk=>.ok (.int (Yj k)) σ) .bad) .bad) .bad
noncomputable def AK(n:List Nat):Bool:=bp n [97,112,112,101,110,100]||bp n [101,120,116,101,110,100]||bp n [112,111,112]||bp n [114,101,118,101,114,115,101]
noncomputable def jT(σ:St)(i:Nat)(v:V)(l:List V):R V:= .ok v (az σ i (.lst l))
noncomputable def Qm(σ:St)(i:Nat)(l:List V)(v:V):R V:=cD v (λj=>atL σ j (λm=>gd (aU (l.length+m.length)) (jT σ i .none (l++m))) .bad) .bad
noncomputable def iG(σ:St)(i:Nat)(l:List V)(n:List Nat)(vs:List V):R V:=
 tf (bp n [97,112,112,101,110,100]) (l1 vs (λv=>gd (aU l.length) (jT σ i .none (l++[v]))) .bad)
  (tf (bp n [101,120,116,101,110,100]) (l1 vs (Qm σ i l) .bad)
   (l0 vs (tf (bp n [112,111,112]) (lc l.reverse .bad λv r=>jT σ i v r.reverse)
    (gd (bp n [114,101,118,101,114,115,101]) (jT σ i .none l.reverse))) .bad))
inductive bA where |vals (l:List V)|list (i k:Nat)|rlist (i k:Nat)
noncomputable def bA.next(σ:St)(s:bA):Option (Option (V × bA)):=@bA.rec (λ_=>Option (Option (V × bA))) (λl=>some (lc l none λv r=>some (v,.vals r))) (λi k=>atL σ i (λl=>some (opt l[k]? (λv=>some (v,.list i (k+1))) none)) none)
 (λi k=>@XI (λ_=>Option (Option (V × bA))) (some none) (λk _=>atL σ i (λl=>opt l[k]? (λv=>some (some (v,.rlist i k))) none) none) k) s
noncomputable def gF(n:Nat):List V->List V:=@XI (λ_=>List V->List V) (λacc=>acc) (λn ih acc=>ih (.int (Yj n)::acc)) n
noncomputable def nR(a:List V):List V->List V:=@WB V (λ_=>List V->List V) (λ_=>[]) (λx _ ih b=>lc b [] λy s=>.tup [x,y]::ih s) a
noncomputable def kA(σ:St)(v:V):R bA:=iN v (λ_=>.bad) (λ_=>.bad) (λl=>.ok (.vals l) σ) (λi=>atL σ i (λ_=>.ok (.list i 0) σ) .bad) .bad
noncomputable def Pm(σ:St)(v:V):R bA:=fp v (λz=>nat z (λn=>gd (Wo n 100) (.ok (.vals (gF n [])) σ)) .bad) .bad
noncomputable def JV(σ:St)(v:V):R bA:=iN v (λ_=>.bad) (λ_=>.bad) (λl=>gd (aU l.length) (.ok (.vals l.reverse) σ)) (λi=>atL σ i (λl=>.ok (.rlist i l.length) σ) .bad) .bad
noncomputable def Oq(σ:St)(v w:V):R bA:=ko v (λa=>ko w (λb=>.ok (.vals (nR a b)) (σ++[.tmp])) .bad) .bad
noncomputable def qe(b:BI)(σ:St)(vs:List V):R bA:=(builtin b σ vs).bind λv σ=>kA σ v
noncomputable def QI(b:BI)(σ:St)(vs:List V):R bA:=@BI.rec (λ_=>R bA) (qe b σ vs) (qe b σ vs) (qe b σ vs) (qe b σ vs) (qe b σ vs) (l1 vs (JV σ) .bad) (l1 vs (Pm σ) .bad) (lc vs .bad λv r=>l1 r (Oq σ v) .bad) (qe b σ vs) (qe b σ vs) b
noncomputable def aL(p:P):V->Env->Option Env:=@P.rec (λ_=>V->Env->Option Env) (λ_=>List V->Env->Option Env) (λx v ρ=>some (ag ρ x v)) (λ_ ih v ρ=>ko v (λvs=>ih vs ρ) none)
 (λvs ρ=>lc vs (some ρ) λ_ _=>none) (λ_ _ f g vs ρ=>lc vs none λv r=>opt (f v ρ) (g r) none) p
noncomputable def bf(p:List P):List V->Env->Option Env:=@P.rec_1 (λ_=>V->Env->Option Env) (λ_=>List V->Env->Option Env) (λx v ρ=>some (ag ρ x v)) (λ_ ih v ρ=>ko v (λvs=>ih vs ρ) none)
 (λvs ρ=>lc vs (some ρ) λ_ _=>none) (λ_ _ f g vs ρ=>lc vs none λv r=>opt (f v ρ) (g r) none) p
noncomputable def l7(ps:List Nat):List V->Option Env:=@WB Nat (λ_=>List V->Option Env) (λvs=>l0 vs (some []) none) (λp _ ih vs=>lc vs none λv r=>opt (ih r) (λρ=>some ((p,v)::ρ)) none) ps
noncomputable def bindArgs(ps:List Nat)(ds vs:List V):Option Env:=@WB V (λ_=>Option Env) (l7 ps vs) (λd ds ih=>opt (l7 ps (vs++d::ds)) some ih) ds
theorem gK{ps:List Nat}{P:Prop}:∀{vs:List V} {ρ:Env},l7 ps vs=some ρ->(ps.length=vs.length->ps.zip vs=ρ->P)->P:=by
 induction ps with
 |nil=>exact λh k=>iB h ad λe h=>k (congrArg a0i e.symm) (by rw[e];exact Wn h)
 |cons p ps ih=>
  intro vs ρ h k
  cases vs with
  |nil=>exact absurd h.symm ad
  |cons v vs=>exact a8 (o:=l7 ps vs) (k:=λρ=>some ((p,v)::ρ)) h ad λr e h=>ih e λa b=>k (congrArg WU a) ((congrArg ((p,v):: ·) b).trans (Wn h))
theorem qq{ps:List Nat}{vs:List V}{ρ:Env}{P:Prop}{ds:List V}:bindArgs ps ds vs=some ρ->(∀a b,ds=a++b->ps.length=(vs++b).length->ps.zip (vs++b)=ρ->P)->P:=by
 induction ds with
 |nil=>exact λh k=>gK h λa b=>k [] [] rfl (by rw[Xh];exact a) (by rw[Xh];exact b)
 |cons d ds ih=>
  intro h k
  have h:opt (l7 ps (vs++d::ds)) some (bindArgs ps ds vs)=some ρ:=h
  cases e:l7 ps (vs++d::ds)with
  |none=>rw[e]at h;exact ih h λa b x=>k (d::a) b (congrArg _ x)
  |some r=>rw[e]at h;exact gK e λa b=>k [] _ rfl a (b.trans (Wn h))
noncomputable def nD(ks:List (List Nat)):List V->List (List Nat × V)->List (List Nat × V):=@WB (List Nat) (λ_=>List V->List (List Nat × V)->List (List Nat × V)) (λ_ es=>es) (λk _ ih vs es=>lc vs es λv r=>ih r (bw es k v)) ks
noncomputable def KQ(σ:St)(o i v:V):R Unit:=cD o (λd=>opt (a6 σ d) (λob=>oO ob (λ_=>.bad) (λ_ _=>.bad)
  (λes=>iN i (λk=>l0 es (rv v (λb=>gd b (.ok () (az σ d (.nd [k])))) .bad) .bad) (λn=>gd (aU es.length) (.ok () (az σ d (.sd (bw es n v))))) (λ_=>.bad) (λ_=>.bad) .bad)
  (λks=>fp i (λk=>rv v (λb=>gd b (gd (aU ks.length) (.ok () (az σ d (.nd (tf (ks.contains k) ks (ks++[k]))))))) .bad) .bad) (λ_=>.bad) (λ_=>.bad) .bad) .bad) .bad
noncomputable def E8(k:Kd)(x:V):Bool:=@Kd.rec (λ_=>Bool) (ko x (λ_=>true) false) (jv x (λ_=>true) false) k
noncomputable def EC(l:List (List Nat × Nat))(m:List Nat):Option Nat:=@WB (List Nat × Nat) (λ_=>Option Nat) none (λp _ ih=>tf (bp p.1 m) (some p.2) ih) l
noncomputable def BB(σ:St)(o:O)(l h:Option Nat):R V:=oO o (λvs=>newL σ (cut vs l h)) (λ_ _=>.bad) (λ_=>.bad) (λ_=>.bad) (λvs=>gd (aU (cut vs l h).length) (newL σ (cut vs l h))) (λ_=>.bad) .bad
noncomputable def sliceV(σ:St)(x:V)(l h:Option Nat):R V:=iN x (λ_=>.bad) (λ_=>.bad) (λvs=>gd (aU vs.length) (.ok (.tup (cut vs l h)) σ)) (λi=>opt (a6 σ i) (λo=>BB σ o l h) .bad) .bad
noncomputable def PV(σ:St)(d:Nat)(m:List Nat)(v:V)(ρ:Env):R (F × Env):=atD σ d (λes=>gd (aU es.length) (.ok (.next,ρ) (az σ d (.sd (bw es m v))))) .bad
noncomputable def Tw(σ:St)(i:Nat)(m:List Nat)(v:V)(ρ:Env)(o:O):R (F × Env):=oO o (λ_=>.bad) (λ_ d=>PV σ d m v ρ) (λ_=>.bad) (λ_=>.bad) (λ_=>.bad)
 (λo=>opt o (λd=>PV σ d m v ρ) (.ok (.next,ρ) (az (σ++[.sd [(m,v)]]) i (.exc (some σ.length))))) .bad
noncomputable def OB(σ:St)(x:V)(m:List Nat)(v:V)(ρ:Env):R (F × Env):=cD x (λi=>opt (a6 σ i) (Tw σ i m v ρ) .bad) .bad
noncomputable def ql{α:Type}(n:Nat)(r:V)(σ:St):R α:=FC r (opt (a6 σ n) (λo=>oX o (λo=>opt o (λd=>gd (WD n d) (atD σ d (λes=>opt (ax es [107,105,110,100]) (λv=>jv v .exc .bad) .bad) .bad)) .bad) .bad) .bad) .bad
noncomputable def eS(q:F × Env)(σ:St)(k:Env->R (F × Env)):R (F × Env):=vd q.1 (k q.2) (.ok (.next,q.2) σ) (k q.2) λv=>.ok (.ret v,q.2) σ
noncomputable def nE(q:F × Env)(σ:St):R V:=vd q.1 (.ok .none σ) .bad .bad λv=>.ok v σ
noncomputable def bO(q:F × Env)(σ:St)(k:Env->R (F × Env)):R (F × Env):=vd q.1 (k q.2) (.ok q σ) (.ok q σ) λ_=>.ok q σ
noncomputable def Su{α:Type}(e:E)(k:BI->List E->α)(d:α):α:=@E.casesOn (λ_=>α) e d (λ_=>d) (λ_=>d) (λ_=>d) (λ_=>d) (λ_ _=>d) (λ_ _ _=>d) (λ_=>d) (λ_=>d) (λ_=>d) (λ_=>d) (λ_ _ _=>d) (λ_ _ _=>d) (λ_ _=>d) (λ_ _=>d) (λ_ _ _=>d) (λ_ _=>d) (λ_ _=>d) (λ_ _ _=>d) k (λ_ _=>d) (λ_ _ _ _=>d)
noncomputable def TL{α:Type}(e:E)(n:E->α)(a o:List E->α)(i:E->E->E->α)(d:α):α:=@E.casesOn (λ_=>α) e d (λ_=>d) (λ_=>d) (λ_=>d) (λ_=>d) (λ_ _=>d) (λ_ _ _=>d) (λ_=>d) n a o (λ_ _ _=>d) i (λ_ _=>d) (λ_ _=>d) (λ_ _ _=>d) (λ_ _=>d) (λ_ _=>d) (λ_ _ _=>d) (λ_ _=>d) (λ_ _=>d) (λ_ _ _ _=>d)
structure QC where
 ev:E->Env->St->R V
 evs:List E->Env->St->R (List V)
 evO:Option E->Env->St->R (Option V)
 evAnd:List E->Env->St->R V
 evOr:List E->Env->St->R V
 evIt:E->Env->St->R bA
 tr:E->Env->St->R Bool
 trAnd:List E->Env->St->R Bool
 trOr:List E->Env->St->R Bool
 comp:E->P->bA->List E->Env->St->List V->R (List V)
 callF:Nat->List V->St->R V
 ex:S->Env->St->R (F × Env)
 store:T->V->Env->St->R (F × Env)
 exB:List S->Env->St->R (F × Env)
 loopF:P->bA->List S->Env->St->R (F × Env)
 loopW:E->List S->Env->St->R (F × Env)
section
variable(Γ:bU)(f:QC)
noncomputable def RE(c:Nat)(es:List E)(ρ:Env)(σ:St):R V:=(f.evs es ρ σ).bind λvs σ=>tf (Wm c 2) .bad (opt Γ.cls[c]? (λk=>(f.callF k.init (.ref (σ.length+1)::vs) (σ++[.sd [],.inst c σ.length])).bind λr σ'=>FC r (.ok (.ref (σ.length+1)) σ') .bad) .bad)
noncomputable def ub(i:Nat)(m:List Nat)(es:List E)(ρ:Env)(σ:St)(o:O):R V:=oO o (λ_=>gd (AK m) ((f.evs es ρ σ).bind λvs σ=>atL σ i (λl=>iG σ i l m vs) .bad))
 (λc d=>opt Γ.cls[c]? (λk=>opt (EC k.meths m) (λg=>atD σ d (λats=>opt (ax ats m) (λ_=>.bad) ((f.evs es ρ σ).bind λvs σ=>f.callF g (.ref i::vs) σ)) .bad) .bad) .bad) (λ_=>.bad) (λ_=>.bad) (λ_=>.bad) (λ_=>.bad) .bad
noncomputable def mM(x:V)(m:List Nat)(es:List E)(ρ:Env)(σ:St):R V:=iN x (λ_=>.bad) (λs=>gd (bp s [97,98,99,100]&&bp m [105,110,100,101,120]) ((f.evs es ρ σ).bind λvs σ=>l1 vs (GE s σ) .bad)) (λ_=>.bad)
 (λi=>opt (a6 σ i) (ub Γ f i m es ρ σ) .bad) .bad
noncomputable def VK(e:E)(ρ:Env)(σ:St):R V:=@E.casesOn (λ_=>R V) e
 .bad
 (λv=>.ok v σ)
 (λx=>.of (aa ρ x) σ)
 (λes=>(f.evs es ρ σ).bind λvs σ=>.ok (.tup vs) σ)
 (λes=>(f.evs es ρ σ).bind λvs σ=>newL σ vs)
 (λks es=>(f.evs es ρ σ).bind λvs σ=>.ok (.ref σ.length) (σ++[.sd (nD ks vs [])]))
 (λop a b=>(f.ev a ρ σ).bind λx σ=>(f.ev b ρ σ).bind λy σ=>gB op σ x y)
 (λa=>(f.ev a ρ σ).bind λx σ=>fp x (λi=>.ok (.int (-i)) σ) .bad)
 (λa=>(f.ev a ρ σ).bind λx σ=>(dW σ x).bind λb σ=>.ok (.bool (!b)) σ)
 (λes=>f.evAnd es ρ σ)
 (λes=>f.evOr es ρ σ)
 (λop a b=>(f.ev a ρ σ).bind λx σ=>(f.ev b ρ σ).bind λy σ=>(jf op σ x y).bind λq σ=>.ok (.bool q) σ)
 (λt a b=>(f.tr t ρ σ).bind λq σ=>tf q (f.ev a ρ σ) (f.ev b ρ σ))
 (λo m=>(f.ev o ρ σ).bind λx σ=>pB σ x m)
 (λa b=>(f.ev a ρ σ).bind λx σ=>(f.ev b ρ σ).bind λy σ=>item σ x y)
 (λa lo hi=>(f.ev a ρ σ).bind λx σ=>(f.evO lo ρ σ).bind λl σ=>(f.evO hi ρ σ).bind λh σ=>wC l λl=>wC h λh=>sliceV σ x l h)
 (λg es=>(f.evs es ρ σ).bind λvs σ=>f.callF g vs σ)
 (λc es=>RE Γ f c es ρ σ)
 (λo m es=>(f.ev o ρ σ).bind λx σ=>mM Γ f x m es ρ σ)
 (λb es=>(f.evs es ρ σ).bind λvs σ=>builtin b σ vs)
 (λk a=>(f.ev a ρ σ).bind λx σ=>cD x (λ_=>.bad) (.ok (.bool (E8 k x)) σ))
 (λelt p it ifs=>(f.evIt it ρ σ).bind λsrc σ=>(f.comp elt p src ifs ρ σ []).bind λvs σ=>newL σ vs)
noncomputable def Ul(e:E)(ρ:Env)(σ:St):R bA:=Su e (λb es=>(f.evs es ρ σ).bind λvs σ=>QI b σ vs) ((f.ev e ρ σ).bind λv σ=>kA σ v)
noncomputable def U4(e:E)(ρ:Env)(σ:St):R Bool:=TL e (λa=>(f.tr a ρ σ).bind λq σ=>.ok (!q) σ) (λes=>f.trAnd es ρ σ) (λes=>f.trOr es ρ σ) (λt a b=>(f.tr t ρ σ).bind λq σ=>tf q (f.tr a ρ σ) (f.tr b ρ σ)) ((f.ev e ρ σ).bind λv σ=>dW σ v)
noncomputable def Qh(elt:E)(p:P)(src:bA)(ifs:List E)(ρ:Env)(σ:St)(acc:List V):R (List V):=opt (src.next σ) (λo=>opt o (λx=>opt (aL p x.1 ρ) (λρ'=>(f.trAnd ifs ρ' σ).bind λq σ=>
 tf q ((f.ev elt ρ' σ).bind λy σ=>gd (aU acc.length) (f.comp elt p x.2 ifs ρ σ (acc++[y]))) (f.comp elt p x.2 ifs ρ σ acc)) .bad) (.ok acc σ)) .bad
noncomputable def Pe(g:Nat)(vs:List V)(σ:St):R V:=opt Γ.fns[g]? (λd=>opt (bindArgs d.params d.dflts vs) (λρ=>(f.exB d.body ρ σ).bind nE) .bad) .bad
noncomputable def Ia(es:List E)(ρ:Env)(σ:St):R (F × Env):=(f.evs es ρ σ).bind λvs σ=>opt Γ.cls[2]? (λk=>(f.callF k.init (.ref σ.length::vs) (σ++[.exc none])).bind λr σ'=>ql σ.length r σ') .bad
noncomputable def VH(s:S)(ρ:Env)(σ:St):R (F × Env):=@S.casesOn (λ_=>R (F × Env)) s
 .bad
 (.ok (.next,ρ) σ)
 (.ok (.cont,ρ) σ)
 (.ok (.brk,ρ) σ)
 (λe=>(f.ev e ρ σ).bind λ_ σ=>.ok (.next,ρ) σ)
 (λt e=>(f.ev e ρ σ).bind λv σ=>f.store t v ρ σ)
 (λx e=>(R.of (aa ρ x) σ).bind λa σ=>(f.ev e ρ σ).bind λb σ=>(qa σ a b).bind λv σ=>.ok (.next,ag ρ x v) σ)
 (λo i e=>(f.ev o ρ σ).bind λov σ=>(f.ev i ρ σ).bind λiv σ=>(item σ ov iv).bind λa σ=>(f.ev e ρ σ).bind λb σ=>(qa σ a b).bind λv σ=>(KQ σ ov iv v).bind λ_ σ=>.ok (.next,ρ) σ)
 (λt a b=>(f.tr t ρ σ).bind λq σ=>tf q (f.exB a ρ σ) (f.exB b ρ σ))
 (λp it b=>(f.evIt it ρ σ).bind λsrc σ=>f.loopF p src b ρ σ)
 (λt b=>f.loopW t b ρ σ)
 (λe=>opt e (λe=>(f.ev e ρ σ).bind λv σ=>.ok (.ret v,ρ) σ) (.ok (.ret .none,ρ) σ))
 (λes=>Ia Γ f es ρ σ)
 (λ_ _ _=>.bad)
 (λi=>opt Γ.mks[i]? (λb=>f.exB b ρ σ) .bad)
noncomputable def Lj(t:T)(v:V)(ρ:Env)(σ:St):R (F × Env):=@T.casesOn (λ_=>R (F × Env)) t (λp=>opt (aL p v ρ) (λρ'=>.ok (.next,ρ') σ) .bad) (λo m=>(f.ev o ρ σ).bind λx σ=>OB σ x m v ρ)
 (λo i=>(f.ev o ρ σ).bind λov σ=>(f.ev i ρ σ).bind λiv σ=>(KQ σ ov iv v).bind λ_ σ=>.ok (.next,ρ) σ)
noncomputable def RS(p:P)(src:bA)(b:List S)(ρ:Env)(σ:St):R (F × Env):=opt (src.next σ) (λo=>opt o (λx=>opt (aL p x.1 ρ) (λρ'=>(f.exB b ρ' σ).bind λq σ=>eS q σ λρ=>f.loopF p x.2 b ρ σ) .bad) (.ok (.next,ρ) σ)) .bad
noncomputable def Rn:QC where
 ev:=VK Γ f
 evs es ρ σ:=lc es (.ok [] σ) λe r=>(f.ev e ρ σ).bind λv σ=>(f.evs r ρ σ).bind λvs σ=>.ok (v::vs) σ
 evO e ρ σ:=opt e (λe=>(f.ev e ρ σ).bind λv σ=>.ok (some v) σ) (.ok none σ)
 evAnd es ρ σ:=lc es .bad λe r=>lc r (f.ev e ρ σ) λ_ _=>(f.ev e ρ σ).bind λv σ=>(dW σ v).bind λq σ=>tf q (f.evAnd r ρ σ) (.ok v σ)
 evOr es ρ σ:=lc es .bad λe r=>lc r (f.ev e ρ σ) λ_ _=>(f.ev e ρ σ).bind λv σ=>(dW σ v).bind λq σ=>tf q (.ok v σ) (f.evOr r ρ σ)
 evIt:=Ul f
 tr:=U4 f
 trAnd es ρ σ:=lc es (.ok true σ) λe r=>(f.tr e ρ σ).bind λq σ=>tf q (f.trAnd r ρ σ) (.ok false σ)
 trOr es ρ σ:=lc es (.ok false σ) λe r=>(f.tr e ρ σ).bind λq σ=>tf q (.ok true σ) (f.trOr r ρ σ)
 comp:=Qh f
 callF:=Pe Γ f
 ex:=VH Γ f
 store:=Lj f
 exB ss ρ σ:=lc ss (.ok (.next,ρ) σ) λs r=>(f.ex s ρ σ).bind λq σ=>bO q σ λρ=>f.exB r ρ σ
 loopF:=RS f
 loopW t b ρ σ:=(f.tr t ρ σ).bind λq σ=>tf q ((f.exB b ρ σ).bind λq σ=>eS q σ λρ=>f.loopW t b ρ σ) (.ok (.next,ρ) σ)
noncomputable def lw(n:Nat):QC:=@XI (λ_=>QC) ⟨λ_ _ _=>.bad,λ_ _ _=>.bad,λ_ _ _=>.bad,λ_ _ _=>.bad,λ_ _ _=>.bad,λ_ _ _=>.bad,λ_ _ _=>.bad,λ_ _ _=>.bad,λ_ _ _=>.bad,λ_ _ _ _ _ _ _=>.bad,λ_ _ _=>.bad,
 λ_ _ _=>.bad,λ_ _ _ _=>.bad,λ_ _ _=>.bad,λ_ _ _ _ _=>.bad,λ_ _ _ _=>.bad⟩ (λ_ f=>Rn Γ f) n
end
section
variable(Γ:bU)(n:Nat)
noncomputable def ev:E->Env->St->R V:=(lw Γ n).ev
noncomputable def evs:List E->Env->St->R (List V):=(lw Γ n).evs
noncomputable def evO:Option E->Env->St->R (Option V):=(lw Γ n).evO
noncomputable def evAnd:List E->Env->St->R V:=(lw Γ n).evAnd
noncomputable def evOr:List E->Env->St->R V:=(lw Γ n).evOr
noncomputable def evIt:E->Env->St->R bA:=(lw Γ n).evIt
noncomputable def tr:E->Env->St->R Bool:=(lw Γ n).tr
noncomputable def trAnd:List E->Env->St->R Bool:=(lw Γ n).trAnd
noncomputable def trOr:List E->Env->St->R Bool:=(lw Γ n).trOr
noncomputable def comp:E->P->bA->List E->Env->St->List V->R (List V):=(lw Γ n).comp
noncomputable def callF:Nat->List V->St->R V:=(lw Γ n).callF
noncomputable def ex:S->Env->St->R (F × Env):=(lw Γ n).ex
noncomputable def store:T->V->Env->St->R (F × Env):=(lw Γ n).store
noncomputable def exB:List S->Env->St->R (F × Env):=(lw Γ n).exB
noncomputable def loopF:P->bA->List S->Env->St->R (F × Env):=(lw Γ n).loopF
noncomputable def loopW:E->List S->Env->St->R (F × Env):=(lw Γ n).loopW
end
noncomputable def u7(Γ:bU)(n:Nat)(e:E)(m:List Nat)(z:Nat)(ρ:Env)(σ:St)(k:St->R (F × Env)):R (F × Env):=@R.rec V (λ_=>R (F × Env)) (λ_ σ=>k σ)
 (λkd=>gd (bp m [107,105,110,100]) (opt (aa ρ z) (λv=>jv v (λkd'=>gd (oK kd') (.ok (.ret (.bool (bp kd kd')),ρ) σ)) .bad) .bad)) .bad (ev Γ n e ρ σ)
noncomputable def sT(s:S){α:Type}(t:E->List Nat->Nat->α)(i:E->List S->List S->α)(d:α):α:=@S.casesOn (λ_=>α) s d d d d (λ_=>d) (λ_ _=>d) (λ_ _=>d) (λ_ _ _=>d) i (λ_ _ _=>d) (λ_ _=>d) (λ_=>d) (λ_=>d) t (λ_=>d)
noncomputable def gY(Γ:bU)(n:Nat):List S->Env->St->R (F × Env):=@XI (λ_=>List S->Env->St->R (F × Env)) (λ_ _ _=>.bad) (λn ih ss ρ σ=>lc ss (.ok (.next,ρ) σ) λs r=>
 sT s (λe m z=>u7 Γ n e m z ρ σ λσ=>ih r ρ σ) (λt a b=>((tr Γ n t ρ σ).bind λq σ=>tf q (ih a ρ σ) (ih b ρ σ)).bind λq σ=>bO q σ λρ=>ih r ρ σ)
  ((ex Γ n s ρ σ).bind λq σ=>bO q σ λρ=>ih r ρ σ)) n
noncomputable def rj(Γ:bU)(n f:Nat)(vs:List V)(σ:St):R V:=opt Γ.fns[f]? (λd=>opt (bindArgs d.params d.dflts vs) (λρ=>(gY Γ n d.body ρ σ).bind nE) .bad) .bad
end
end Mine
end
open Mine.E renaming loc->a0F
open Mine.S renaming assign->a0G
open Mine.E renaming cmp->a0H
open Mine.T renaming pat->a0I
open Mine.E renaming meth->a0J
section
open PySem PySem.W PyProof.Rows
namespace Mine
noncomputable def jS{α β:Type}(o:Option β)(k:β->α)(d:α):α:=@Option.rec β (λ_=>α) d k o
noncomputable def bI(l:List (Addr × Obj))(a:Addr):Option Obj:=@WB (Addr × Obj) (λ_=>Option Obj) none (λp _ ih=>tf (Wm p.1 a) (some p.2) ih) l
noncomputable def ti(l:List (Addr × Obj))(a:Addr)(o:Obj):List (Addr × Obj):=@WB (Addr × Obj) (λ_=>List (Addr × Obj)) [] (λp r ih=>tf (Wm p.1 a) ((p.1,o)::r) (p::ih)) l
theorem yS(p:Addr × Obj)(r:List (Addr × Obj))(b:Addr):bI (p::r) b=if p.1=b then some p.2 else bI r b:=by
 show tf (Wm p.1 b) (some p.2) (bI r b)=_
 rw[BT.beq_eq]
 by_cases q:p.1=b
 ·rw[if_pos q,decide_eq_true q];rfl
 ·rw[if_neg q,decide_eq_false q];rfl
theorem SA{a b:Nat}(h:a≠b):Wm a b=false:=(BT.beq_eq a b).trans (decide_eq_false h)
section
variable{a b:Addr}{o:Obj}{K:List (Addr × Obj)}
theorem wt(n:a≠b):bI (ti K a o) b=bI K b:=by
 induction K with
 |nil=>rfl
 |cons p r ih=>
  show bI (tf (Wm p.1 a) ((p.1,o)::r) (p::ti r a o)) b=tf (Wm p.1 b) (some p.2) (bI r b)
  cases q:Wm p.1 a with
  |true=>
   have z:Wm p.1 b=false:=SA λe=>n ((Wq q).symm.trans e)
   show tf (Wm p.1 b) (some o) (bI r b)=_
   rw[z]
   rfl
  |false=>exact congrArg (tf (Wm p.1 b) (some p.2)) ih
theorem ye{u:Obj}:bI K a=some u->bI (ti K a o) a=some o:=by
 induction K with
 |nil=>exact λh=>ka rfl h
 |cons p r ih=>
  intro h
  have h:tf (Wm p.1 a) (some p.2) (bI r a)=some u:=h
  show bI (tf (Wm p.1 a) ((p.1,o)::r) (p::ti r a o)) a=_
  cases q:Wm p.1 a with
  |true=>show tf (Wm p.1 a) (some o) (bI r a)=_;rw[q];rfl
  |false=>rw[q]at h;show tf (Wm p.1 a) (some p.2) (bI (ti r a o) a)=_;rw[q];exact ih h
end
structure Ov where
 K:List (Addr × Obj)
 n₁:Nat
 T:BT
 m:Nat
 gens:Array GenState
 drawn:Drawn
 toks:Nat
 os:Xy
noncomputable def rH(K:List (Addr × Obj))(n:Nat)(T:BT)(a:Addr):Option Obj:=tf (Wo a n) (bI K a) (T.get (a-n))
noncomputable def Ov.look(v:Ov)(a:Addr):Option Obj:=rH v.K v.n₁ v.T a
noncomputable def rG(o:Obj)(r:Ov × XJ):Option (Ov × XJ):=tf o.isFreed none (some r)
noncomputable def zY(r:Step)(k:Wp->XJ->Option (Ov × XJ)):Option (Ov × XJ):=@Step.casesOn (λ_=>Option (Ov × XJ)) r k λ_ _=>none
noncomputable def qX(den:Code->Sem Fin)(p:Yz)(w:World)(v:Ov)(t:XJ):Option (Ov × XJ):=@Ov.casesOn (λ_=>Option (Ov × XJ)) v λK n T m gens drawn toks os=>@XJ.casesOn (λ_=>Option (Ov × XJ)) t λcur code pos stack=>
 match cur with
 | .load a _ k=>jS (rH K n T a) (λo=>some (⟨K,n,T,m,gens,drawn,toks,os⟩,⟨k o,code,pos,stack⟩)) none
 | .update a _ f k=>tf (Wo a n) (jS (bI K a) (λo=>rG (f o) (⟨ti K a (f o),n,T,m,gens,drawn,toks,os⟩,⟨k (),code,pos,stack⟩)) none) (jS (T.get (a-n)) (λo=>rG (f o) (⟨K,n,T.set (a-n) f,m,gens,drawn,toks,os⟩,⟨k (),code,pos,stack⟩)) none)
 | .alloc o k=>tf ((T.ins m o).get m).isSome (rG o (⟨K,n,T.ins m o,m+1,gens,drawn,toks,os⟩,⟨k (n+m),code,pos,stack⟩)) none
 | .loadIfAlive a k=>jS (rH K n T a) (λo=>some (⟨K,n,T,m,gens,drawn,toks,os⟩,⟨k (some o),code,pos,stack⟩)) none
 |c=>zY (step den p w ⟨{},gens,drawn,toks,os⟩ ⟨c,code,pos,stack⟩) λs' t'=>some (⟨K,n,T,m,s'.gens,s'.drawn,s'.toks,s'.os⟩,t')
structure fS(v:Ov)(s:Wp):Prop where
 size:s.heap.objs.size=v.n₁+v.m
 old:∀a o,a<v.n₁->bI v.K a=some o->s.heap.get? a=some o
 new:∀i o,v.T.get i=some o->i<v.m/\s.heap.get? (v.n₁+i)=some o
 gens:s.gens=v.gens
 drawn:s.drawn=v.drawn
 toks:s.toks=v.toks
 os:s.os=v.os
structure fP(v:Ov)(s:Wp)(v':Ov)(s':Wp):Prop where
 n₁:v'.n₁=v.n₁
 keys:∀a,bI v.K a=none->bI v'.K a=none
 keep:∀b o,b<v.n₁->bI v.K b=none->s.heap.get? b=some o->s'.heap.get? b=some o
theorem fP.refl(v:Ov)(s:Wp):fP v s v s:=⟨rfl,λ_ h=>h,λ_ _ _ _ h=>h⟩
theorem fP.trans{v v₁ v₂:Ov}{s s₁ s₂:Wp}(x:fP v s v₁ s₁)(y:fP v₁ s₁ v₂ s₂):fP v s v₂ s₂:=
 ⟨y.n₁.trans x.n₁,λa h=>y.keys a (x.keys a h),λb o l h e=>y.keep b o (x.n₁▸l) (x.keys b h) (x.keep b o l h e)⟩
theorem CK{a n:Nat}(h:Wo a n=true):a<n:=Wl h
theorem A6{a n:Nat}(h:Wo a n=false):n<=a:=Zt λq=>Ww (h.symm.trans (Xv q))
theorem fS.look{v:Ov}{s:Wp}(A:fS v s){a:Addr}{o:Obj}(e:v.look a=some o):s.heap.get? a=some o:=by
 have e:tf (Wo a v.n₁) (bI v.K a) (v.T.get (a-v.n₁))=some o:=e
 cases h:Wo a v.n₁ with
 |true=>rw[h]at e;exact A.old a o (CK h) e
 |false=>
  rw[h]at e
  exact ZP (A6 h)▸(A.new _ _ e).2
inductive OS(den:Code->Sem Fin)(p:Yz)(w:World)(v:Ov)(s:Wp)(t:XJ)(v':Ov)(t':XJ):Prop
 |mk (s':Wp):step den p w s t=.go s' t'->fS v' s'->fP v s v' s'->OS den p w v s t v' t'
section
variable{den:Code->Sem Fin}{p:Yz}{w:World}{v':Ov}{t':XJ}{code:Code}{pos:Pos}{stack:List Frame}{H:Heap}{K:List (Addr × Obj)}{n:Nat}{T:BT}{m:Nat}{gens:Array GenState}{drawn:Drawn}{toks:Nat}{os:Xy}
theorem c7{α β:Type}{o:Option β}{k:β->Option α}{r:α}{P:Prop}(h:jS o k none=some r)(g:∀a,o=some a->k a=some r->P):P:=by
 cases o with
 |none=>exact ka rfl h
 |some a=>exact g a rfl h
theorem jx{o:Obj}{r q:Ov × XJ}{P:Prop}(h:rG o r=some q)(g:o.isFreed=false->q=r->P):P:=by
 unfold rG at h
 cases e:o.isFreed with
 |true=>rw[e]at h;exact ka rfl h
 |false=>rw[e]at h;exact g e (Wn h).symm
theorem DF{a:Addr}{q:Option Value}{k:Obj->Sem Fin}{o:Obj}(h:H.get? a=some o):step den p w ⟨H,gens,drawn,toks,os⟩ ⟨.load a q k,code,pos,stack⟩=.go ⟨H,gens,drawn,toks,os⟩ ⟨k o,code,pos,stack⟩:=by simp only[step,h]
theorem zO{a:Addr}{k:Option Obj->Sem Fin}{o:Obj}(h:H.get? a=some o):step den p w ⟨H,gens,drawn,toks,os⟩ ⟨.loadIfAlive a k,code,pos,stack⟩=.go ⟨H,gens,drawn,toks,os⟩ ⟨k (some o),code,pos,stack⟩:=by simp only[step,h]
theorem oS{a:Addr}{q:Option Value}{f:Obj->Obj}{k:Unit->Sem Fin}{o:Obj}(h:H.get? a=some o):step den p w ⟨H,gens,drawn,toks,os⟩ ⟨.update a q f k,code,pos,stack⟩=.go ⟨H.update a f,gens,drawn,toks,os⟩ ⟨k (),code,pos,stack⟩:=by simp only[step,h,Option.isSome_some,if_true]
theorem zU{o:Obj}{k:Addr->Sem Fin}{a:Nat}(h:H.objs.size=a):step den p w ⟨H,gens,drawn,toks,os⟩ ⟨.alloc o k,code,pos,stack⟩=.go ⟨H.push o,gens,drawn,toks,os⟩ ⟨k a,code,pos,stack⟩:=by simp only[step,h]
noncomputable abbrev Ag(K:List (Addr × Obj))(n:Nat)(T:BT)(m:Nat)(gens:Array GenState)(drawn:Drawn)(toks:Nat)(os:Xy)(H:Heap):Prop:=fS ⟨K,n,T,m,gens,drawn,toks,os⟩ ⟨H,gens,drawn,toks,os⟩
theorem Nw(A:Ag K n T m gens drawn toks os H){a:Addr}{f:Obj->Obj}{o:Obj}(l:a<n)(g:bI K a=some o)(fr: (f o).isFreed=false):Ag (ti K a (f o)) n T m gens drawn toks os (H.update a f)/\fP ⟨K,n,T,m,gens,drawn,toks,os⟩ ⟨H,gens,drawn,toks,os⟩ ⟨ti K a (f o),n,T,m,gens,drawn,toks,os⟩ ⟨H.update a f,gens,drawn,toks,os⟩:=by
 refine⟨⟨(Heap.size_after_update ..).trans A.size,λb u lb hb=>?_,λi u hi=>?_,rfl,rfl,rfl,rfl⟩,⟨rfl,λb hb=>?_,λb u lb hb hg=>(WL H f λe=>ka hb (e▸g)).trans hg⟩⟩
 ·exact(YA (a=b)).elim (λz=>by
   subst z
   exact(Xw f (A.old a o l g) fr).trans ((ye g).symm.trans hb)) λz=>(WL H f z).trans (A.old b u lb ((wt z).symm.trans hb))
 ·have z:=A.new i u hi
  exact⟨z.1,(WL H f (XA (WV l (WC _ _)))).trans z.2⟩
 ·exact(wt λe=>ka hb (e▸g)).trans hb
theorem KJ(A:Ag K n T m gens drawn toks os H){a:Addr}{f:Obj->Obj}{o:Obj}(l:n<=a)(g:T.get (a-n)=some o)(fr: (f o).isFreed=false):Ag K n (T.set (a-n) f) m gens drawn toks os (H.update a f)/\fP ⟨K,n,T,m,gens,drawn,toks,os⟩ ⟨H,gens,drawn,toks,os⟩ ⟨K,n,T.set (a-n) f,m,gens,drawn,toks,os⟩ ⟨H.update a f,gens,drawn,toks,os⟩:=by
 have old:∀{b u},b<n->H.get? b=some u->(H.update a f).get? b=some u:=λlb h=>(WL H f (YB (WV lb l))).trans h
 refine⟨⟨(Heap.size_after_update ..).trans A.size,λb u lb hb=>old lb (A.old b u lb hb),λi u h0=>?_,rfl,rfl,rfl,rfl⟩,⟨rfl,λ_ h=>h,λb u lb _ hg=>old lb hg⟩⟩
 have hi: (T.set (a-n) f).get i=some u:=h0
 clear h0
 rw[BT.get_set]at hi
 refine(YA (i=a-n)).elim (λz=>?_) λz=>?_
 ·rw[if_pos z,g]at hi
  have y:=A.new _ _ g
  subst z
  refine⟨y.1,?_⟩
  have y:=y.2
  rw[show n+(a-n)=a from ZP l]at y ⊢
  exact(Xw f y fr).trans hi
 ·rw[if_neg z]at hi
  have y:=A.new i u hi
  exact⟨y.1,(WL H f λq=>z (by rw[show a=n+i from q];exact(WH ..).symm)).trans y.2⟩
theorem DS(A:Ag K n T m gens drawn toks os H){o:Obj}(e: ((T.ins m o).get m).isSome=true)(fr:o.isFreed=false):Ag K n (T.ins m o) (m+1) gens drawn toks os (H.push o)/\fP ⟨K,n,T,m,gens,drawn,toks,os⟩ ⟨H,gens,drawn,toks,os⟩ ⟨K,n,T.ins m o,m+1,gens,drawn,toks,os⟩ ⟨H.push o,gens,drawn,toks,os⟩:=by
 refine⟨⟨(Y1 ..).trans (congrArg WU A.size),λb u l hb=>Wr o (A.old b u l hb),λi u h0=>?_,rfl,rfl,rfl,rfl⟩,⟨rfl,λ_ h=>h,λb u _ _ hg=>Wr o hg⟩⟩
 have hi: (T.ins m o).get i=some u:=h0
 clear h0
 rw[BT.get_ins o T m e]at hi
 refine(YA (i=m)).elim (λz=>?_) λz=>?_
 ·rw[if_pos z]at hi
  subst z
  exact⟨XB _,(congrArg (H.push o).get? A.size.symm).trans ((WA H fr).trans hi)⟩
 ·rw[if_neg z]at hi
  have y:=A.new i u hi
  exact⟨Y4 y.1,Wr o y.2⟩
noncomputable def R6(c:Sem Fin):Bool:=match c with
 | .load _ _ _=>true
 | .update _ _ _ _=>true
 | .alloc _ _=>true
 | .loadIfAlive _ _=>true
 |_=>false
theorem Ba{cur:Sem Fin}(A:Ag K n T m gens drawn toks os H)(hp:R6 cur=false)(h:zY (step den p w ⟨{},gens,drawn,toks,os⟩ ⟨cur,code,pos,stack⟩) (λs' t'=>some (⟨K,n,T,m,s'.gens,s'.drawn,s'.toks,s'.os⟩,t'))=some (v',t')):
  OS den p w ⟨K,n,T,m,gens,drawn,toks,os⟩ ⟨H,gens,drawn,toks,os⟩ ⟨cur,code,pos,stack⟩ v' t':=by
 cases q:step den p w ⟨{},gens,drawn,toks,os⟩ ⟨cur,code,pos,stack⟩with
 |halt o s=>rw[q]at h;exact ka rfl h
 |go s₀ t₀=>
  rw[q]at h
  cases h
  exact⟨_,W.step_heap (H:=H) (λa q k e=>by subst e;exact aV hp) (λa q f k e=>by subst e;exact aV hp) (λo k e=>by subst e;exact aV hp) (λa k e=>by subst e;exact aV hp) q,⟨A.size,A.old,A.new,rfl,rfl,rfl,rfl⟩,⟨rfl,λ_ h=>h,λ_ _ _ _ h=>h⟩⟩
theorem Oc{cur:Sem Fin}(A:Ag K n T m gens drawn toks os H)(h:qX den p w ⟨K,n,T,m,gens,drawn,toks,os⟩ ⟨cur,code,pos,stack⟩=some (v',t')):
  OS den p w ⟨K,n,T,m,gens,drawn,toks,os⟩ ⟨H,gens,drawn,toks,os⟩ ⟨cur,code,pos,stack⟩ v' t':=by
 cases cur with
 |load a q k=>
  refine c7 (o:=rH K n T a) h λo e h=>?_
  cases h
  exact⟨_,DF (A.look e),A,.refl _ _⟩
 |loadIfAlive a k=>
  refine c7 (o:=rH K n T a) h λo e h=>?_
  cases h
  exact⟨_,zO (A.look e),A,.refl _ _⟩
 |update a q f k=>
  refine au (b:=Wo a n) h (λe h=>?_) λe h=>?_
  ·refine c7 (o:=bI K a) h λo g h=>jx h λfr h=>?_
   cases h
   have z:=Nw A (CK e) g fr
   exact⟨_,oS (A.old a o (CK e) g),z.1,z.2⟩
  ·refine c7 (o:=T.get (a-n)) h λo g h=>jx h λfr h=>?_
   cases h
   have z:=KJ A (A6 e) g fr
   exact⟨_,oS (ZP (A6 e)▸(A.new _ _ g).2),z.1,z.2⟩
 |alloc o k=>
  refine au (b:=((T.ins m o).get m).isSome) h (λe h=>jx h λfr h=>?_) λe h=>ka rfl h
  cases h
  have z:=DS A e fr
  exact⟨_,zU A.size,z.1,z.2⟩
 |_=>exact Ba A rfl h
theorem mR{v:Ov}{s:Wp}{t:XJ}(h:qX den p w v t=some (v',t'))(A:fS v s):OS den p w v s t v' t':=by
 cases v with |mk K n T m g d k o=>
 cases s with |mk H g' d' k' o'=>
 cases t with |mk cur code pos stack=>
 cases(show g'=g from A.gens)
 cases(show d'=d from A.drawn)
 cases(show k'=k from A.toks)
 cases(show o'=o from A.os)
 exact Oc A h
end
noncomputable def kh(den:Code->Sem Fin)(p:Yz)(w:World)(n₀:Nat)(ann:Option Value)(b n:Nat):Ov->XJ->Option (Flow × Ov × Code × Pos):=@XI (λ_=>Ov->XJ->Option (Flow × Ov × Code × Pos)) (λ_ _=>none) (λ_ ih v t=>
 jS (endAt b t) (λf=>some (f,v,t.code,t.pos)) (tf (stepOk n₀ ann t) (jS (qX den p w v t) (λr=>@Prod.casesOn Ov XJ (λ_=>Option (Flow × Ov × Code × Pos)) r ih) none) none)) n
noncomputable def Qz(den:Code->Sem Fin)(p:Yz)(w:World)(n₀:Nat)(ann:Option Value)(n:Nat):Ov->XJ->Option (Ov × XJ):=@XI (λ_=>Ov->XJ->Option (Ov × XJ)) (λv t=>some (v,t)) (λ_ ih v t=>
 tf (through t) none (tf (stepOk n₀ ann t) (jS (qX den p w v t) (λr=>@Prod.casesOn Ov XJ (λ_=>Option (Ov × XJ)) r ih) none) none)) n
section
variable{tb:String->Option XD}{p:Yz}{w:World}{n₀:Nat}{ann:Option Value}{b:Nat}
theorem ML{n:Nat}{s s':Wp}{t t':XJ}(h1:endAt b t=none)(h2:stepOk n₀ ann t=true)(h3:step (denote tb) p w s t=.go s' t'):segRun tb p w n₀ ann b (n+1) s t=segRun tb p w n₀ ann b n s' t':=by
 rw[segRun,h1,h2,h3]
theorem K9{n:Nat}{s s':Wp}{t t':XJ}(h1:through t=false)(h2:stepOk n₀ ann t=true)(h3:step (denote tb) p w s t=.go s' t'):topGo tb p w n₀ ann (n+1) s t=topGo tb p w n₀ ann n s' t':=by
 rw[topGo,h1,h2,h3]
theorem jD{n:Nat}:∀{v v':Ov} {s:Wp} {t:XJ} {f:Flow} {c:Code} {q:Pos},
  kh (denote tb) p w n₀ ann b n v t=some (f,v',c,q)->fS v s->∃s',segRun tb p w n₀ ann b n s t=some (f,s',c,q)/\fS v' s'/\fP v s v' s':=by
 induction n with
 |zero=>exact λh=>ka rfl h
 |succ n ih=>
  intro v v' s t f c q h A
  have h:jS (endAt b t) (λf=>some (f,v,t.code,t.pos)) (tf (stepOk n₀ ann t) (jS (qX (denote tb) p w v t) (λr=>@Prod.casesOn Ov XJ (λ_=>Option (Flow × Ov × Code × Pos)) r (kh (denote tb) p w n₀ ann b n)) none) none)=some (f,v',c,q):=h
  cases he:endAt b t with
  |some x=>
   rw[he]at h
   cases h
   refine⟨s,?_,A,.refl _ _⟩
   rw[segRun,he]
  |none=>
   rw[he]at h
   refine au (b:=stepOk n₀ ann t) h (λhk h=>c7 h λr hs h=>?_) λ_ h=>ka rfl h
   cases r with |mk v₂ t₂=>
   cases mR hs A with |mk s₂ e A₂ X=>
   obtain⟨s',e',A',Y⟩:=ih h A₂
   exact⟨s',(ML he hk e).trans e',A',X.trans Y⟩
theorem AF{n:Nat}:∀{v v':Ov} {s:Wp} {t t':XJ},
  Qz (denote tb) p w n₀ ann n v t=some (v',t')->fS v s->∃s',topGo tb p w n₀ ann n s t=some (s',t')/\fS v' s'/\fP v s v' s':=by
 induction n with
 |zero=>exact λ{v v' s t t'} h A=>by cases h;exact⟨s,rfl,A,.refl _ _⟩
 |succ n ih=>
  intro v v' s t t' h A
  refine au (b:=through t) h (λ_ h=>ka rfl h) λht h=>au (b:=stepOk n₀ ann t) h (λhk h=>c7 h λr hs h=>?_) λ_ h=>ka rfl h
  cases r with |mk v₂ t₂=>
  cases mR hs A with |mk s₂ e A₂ X=>
  obtain⟨s',e',A',Y⟩:=ih h A₂
  exact⟨s',(K9 ht hk e).trans e',A',X.trans Y⟩
end
end Mine
end
section
open PySem PySem.W PyProof.Rows
namespace Mine
open PySem.Challenge
noncomputable def wQ(P:X4):List (Addr × Obj):=[(0,Yd P),(1,boot_o_1 P),(2,boot_o_2 P),(3,boot_o_3 P),(4,Ye P),(5,boot_o_5 P),(6,boot_o_6 P),(7,boot_o_7 P),(8,boot_o_8 P),(9,boot_o_9 P),(10,boot_o_10 P)]
noncomputable def PJ(w:World)(os:Xy):Ov:=⟨wQ w.params,11,.nil,0,#[],Xe,boot_toks,os⟩
noncomputable def den:Code->Sem Fin:=PySem.W.Fast.tw11892475500146522536 treeTable
theorem yZ:denote treeTable=den:=congrFun PySem.W.Fast.te11892475500146522536 treeTable
noncomputable def dR:List Stmt:=behindTheImports pw_ok0103_01
noncomputable def bZ:Wy:={scope:=pw_ok0103_01.main.scope,locals:=mainNs,globals:=mainNs,cells:=[],code:= .ref 13,frame:=some 14}
noncomputable abbrev cL:Code:= .body dR bZ
noncomputable abbrev p0:Pos:=⟨0,0,0,0⟩
theorem pre(w:World)(os:Xy): ((Qz den pw_ok0103_01 w 11 (some (.ref 6)) 12 (PJ w os) (topStub pw_ok0103_01)).map λr=>(r.1.m,r.2))=some (4,⟨den cL,cL,p0,[topFrame p0]⟩):=by kernel_rfl
noncomputable abbrev Es:=List (String × Nat × Value)
noncomputable abbrev vS(x:String)(t:Nat):Value:= .str (Wi x) t
noncomputable def dE(P:X4)(x:String × Nat × Value):a0w:=⟨YS P (Wi x.1),vS x.1 x.2.1,x.2.2⟩
noncomputable def dO(P:X4)(c:Value)(l:Es)(n:Nat):Obj:=⟨c,none,.dict (l.map (dE P)).toArray n,#[]⟩
noncomputable def nL(l:List (String × Nat × Nat)):Es:=l.map λx=>(x.1,x.2.1,.ref x.2.2)
noncomputable def pat(ps:List (Nat × Value))(l:Es):Es:=ps.foldl (λl p=>l.modify p.1 λx=>(x.1,x.2.1,p.2)) l
noncomputable def OT:List Nat->List Value
 |a::b::c::r=>.int (.ofNat a) 0:: .int (.ofNat b) 0:: .ref c::OT r
 |_=>[]
structure FE where
 i:Nat
 j:Option Nat
 a:Nat
 c:Nat
 d:Option Nat
noncomputable def RB{α:Type}(v:Value)(s:YG->α)(z:α):α:=@Value.casesOn (λ_=>α) v z z z (λ_=>z) (λ_ _=>z) (λ_ _=>z) (λx _=>s x) (λ_ _=>z) (λ_=>z) (λ_=>z) (λ_=>z)
noncomputable def q9{α:Type}(d:Data)(q:Array Value->α)(f:Yg->α)(l:Array Value->α)(z:α):α:=@Data.casesOn (λ_=>α) d z (λ_=>z) (λx _=>q x) (λ_ _=>z) (λ_ _ _=>z) (λ_ _=>z) (λ_=>z) f (λ_=>z) l z
noncomputable def Tk(o:Obj):Option YG:=q9 o.data (λ_=>none) (λ_=>none) (λvs=>jS vs[1]? (λv=>RB v some none) none) none
structure FV where
 cls:Value
 dict:Option Addr
 slots:Array (Option Value)
 ps:Yo
 body:FuncBody
 sc:Scope
 gl:Nat
 bu:Nat
 cl:List (YG × Addr)
 cd:Value
 df:Value
 ok:Bool
noncomputable def vF(o c:Obj):Option FV:=q9 o.data (λ_=>none) (λfd=>some ⟨o.cls,o.dict,o.slots,fd.params,fd.body,fd.scope,fd.globals,fd.builtins,fd.closure,fd.code,fd.defaults,Tk c==some fd.qualname⟩) (λ_=>none) none
noncomputable def vw(v:Ov)(e:FE):Option FV:=jS (v.look e.a) (λo=>jS (v.look e.c) (vF o) none) none
noncomputable def Qw{α:Type}(s:Stmt)(f:Yo->List Stmt->Scope->α)(c:List Stmt->α)(d:α):α:=@Stmt.casesOn (λ_=>α) s (λ_ ps b _ _ _ sc _ _ _=>f ps b sc) (λ_ _ _ _ _ _ _ _ _ _=>d) (λ_ _ _ b _ _ _ _ _ _ _=>c b) (λ_ _=>d) (λ_ _=>d) (λ_ _ _=>d) (λ_ _ _ _ _ _ _=>d) (λ_ _ _ _=>d) (λ_ _ _ _ _=>d) (λ_ _ _ _ _=>d) (λ_ _ _ _ _=>d) (λ_ _ _ _=>d) (λ_ _ _ _=>d) (λ_ _ _=>d) (λ_ _ _=>d) (λ_ _ _=>d) (λ_ _ _=>d) (λ_ _ _ _ _=>d) (λ_ _ _ _ _=>d) (λ_ _ _=>d) (λ_ _=>d) (λ_ _ _ _=>d) (λ_ _=>d) (λ_ _=>d) (λ_ _=>d) (λ_=>d) (λ_=>d) (λ_=>d)
noncomputable def Ss(e:FE):Option Stmt:=jS e.j (λj=>jS dR[e.i]? (λs=>Qw s (λ_ _ _=>none) (λb=>b[j]?) none) none) dR[e.i]?
noncomputable def DZ{α:Type}(e:FE)(f:Yo->List Stmt->Scope->α)(d:α):α:=jS (Ss e) (λs=>Qw s f (λ_=>d) d) d
noncomputable def eF(e:FE):Option FV:=DZ e (λps b sc=>some ⟨.type "function",none,#[],ps,.stmts b,sc,mainGlobals,builtinsNs,[],.ref e.c,jS e.d Xn .none,true⟩) none
noncomputable def M4:List Value->Nat->Obj:=λl n=>⟨.none,none,.fields (l.take n).toArray,#[]⟩
noncomputable def kO:Es:=[("__name__",165,(vS "law_ok0103_01" 2696)),("__doc__",166,.none),("__package__",167,.none),("__loader__",168,(.builtin "__main__.__loader__#opaque")),("__spec__",169,.none)]++nL [("__annotations__",170,6),("__builtins__",171,4)]++[("__file__",173,(vS "/claim/cut.py" 172)),("__cached__",174,.none)]++nL [("_wall",193,21),("GateloomError",231,39),("DesignError",247,52),("LimitReached",263,64),("mask",272,73),("vec",283,81),("zeros",290,88),("all_x",298,95),("all_z",305,102),("from_int",313,109),("is_known",320,116),("to_int",331,123),("code",339,130),("slice_vec",355,137),("put_slice",371,144),("concat",382,151),("extend",395,158),("z_to_x",402,165),("truth",409,172),("Store",477,210),("Context",536,253),("add",546,264),("sub",554,271),("mul",562,278),("neg",569,285),("quotient",578,292),("div",589,299),("mod",600,306),("raise_whole",613,313),("power",626,320),("shift_left",636,327),("shift_right",645,334),("shift_arith",660,341),("ordered",671,348),("less",681,355),("less_equal",691,362),("greater",700,369),("greater_equal",709,376),("one_bit",718,383),("bit_not",728,390),("bit_and",742,397),("bit_or",757,404),("bit_xor",766,411),("bit_xnor",774,418),("reduce_and",784,425),("reduce_nand",791,432),("reduce_or",798,439),("reduce_nor",805,446),("reduce_xor",814,453),("reduce_xnor",821,460),("logic_not",828,467),("logic_and",836,474),("logic_or",844,481),("equal",853,488),("not_equal",861,495),("case_equal",869,502),("case_not_equal",877,509),("matches",888,516),("choose",901,523),("unary",911,530),("arithmetic",921,537),("comparison",931,544),("bitwise",940,551),("binary",951,558),("whole_of",960,565),("memory_word",970,572),("picked",980,579),("conditional",990,586),("bits_needed",998,593),("system_value",1009,997),("system_value_evaluate",1010,600),("evaluate",1016,605),("locate",1025,612),("holder_width",1033,619),("resolve_target",1052,626),("store_rows",1069,633)]++[("DEPTH_LIMIT",1073,(.int 24 1072))]++nL [("FunctionContext",1140,677),("run_block",1150,686),("run_set",1160,693),("run_case",1173,700),("run_while",1184,707),("run_repeat",1194,714),("run_for",1202,721),("run_statement",1211,728),("children",1221,735),("subexpressions",1232,742),("expr_reads",1241,749),("expr_calls",1250,756),("target_indexes",1259,763),("target_writes",1268,770),("stmt_parts",1274,775),("substatements",1285,782),("stmt_targets",1291,787),("stmt_exprs",1303,794),("stmt_reads",1314,801),("stmt_writes",1325,808),("stmt_calls",1336,815)]++[("MAX_WIDTH",1340,(.int 65536 1339))]++nL [("last_select",1349,822),("is_memory",1357,829),("shape",1367,1123),("shape_elabparts",1368,836),("read_entry",1378,843),("folds",1385,850),("folded",1393,857),("checked_width",1401,864),("selected",1410,871),("text_vec",1419,878),("inner_join",1426,885),("is_context_operator",1433,892),("is_shift",1440,899),("widen",1449,906),("number_value",1460,913),("is_constant",1473,920),("path_names",1486,927),("entry_of",1495,934),("base_entry",1505,941),("select_width",1513,948),("select_where",1531,955),("named_type",1541,962),("named_value",1554,969),("function_of",1564,976),("call_value",1576,983),("system_type",1586,990),("system_value_elabexpr",1598,997),("joined_parts",1608,1004),("copies",1617,1011),("joined_width",1627,1018),("joined_value",1638,1025),("both_types",1649,1032),("expr_type",1659,1039),("unary_value",1670,1046),("binary_value",1686,1053),("build",1700,1060),("self_determined",1710,1067),("sized",1721,1074),("constant_vec",1731,1081),("constant",1741,1088),("constant_sized",1750,1095),("whole",1761,1102),("range_of",1771,1109)]++[("MOST_WIDTH",1775,(.int 4096 1774)),("MOST_WORDS",1777,(.int 65536 1776))]++nL [("width_of",1787,1116),("shape_elabdecl",1801,1123),("array_bounds",1813,1130),("declare_signal",1832,1137),("declare_event",1842,1144),("set_initial",1852,1151),("parameter_value",1868,1158),("declare_parameter",1879,1166),("uses_frame",1886,1173),("declare_local",1905,1180),("declare_variable",1923,1187),("declare_inner",1932,1194),("flat_parts",1944,1201),("check_entry",1955,1208),("target_part",1970,1215),("target",1983,1222)]++[("STAR_WORDS",1987,(.int 64 1986))]++nL [("is_name",1994,1229),("event_trigger",2004,1236),("event_triggers",2010,1241),("word_triggers",2021,1248),("read_words",2033,1255),("star_triggers",2045,1262),("case_type",2061,1269),("case_labels",2067,1274),("system_argument",2079,1281),("names_path",2087,1288),("system_arguments",2093,1293),("disabled_scope",2102,1300),("task_of",2113,1307),("task_call",2127,1314),("check_nonblocking",2136,1321),("inner_statements",2142,1326),("declare_blocks",2156,1334),("StatementMaker",2330,1448),("net_kinds",2338,1459),("Signal",2423,1511),("Routine",2475,1537),("Design",2576,1600),("Scope",2695,1677),("_law_row",2708,1688),("_law_next",2715,1695),("_law_number",2723,1702),("_law_name",2730,1709),("_law_expr",2738,1716),("_law_reads",2747,1723),("_law_left",2754,1730),("_law_own",2762,1737),("_law_put",2774,1744),("_law_set",2784,1751),("_law_controlled",2799,1758),("_law_case",2805,1763),("_law_type",2816,1770),("_law_statement",2822,1775),("_law_alike",2828,1780),("law",2853,1787)]
noncomputable def PM:List Value:=OT [1,0,20,5,0,27,11,0,48,13,0,60,16,0,72,18,0,80,21,0,87,23,0,94,26,0,101,28,0,108,30,0,115,32,0,122,39,0,129,41,0,136,52,0,143,63,0,150,72,0,157,82,0,164,84,0,171,91,0,178,134,0,220,154,0,263,158,0,270,162,0,277,166,0,284,170,0,291,175,0,298,181,0,305,187,0,312,198,0,319,213,0,326,221,0,333,228,0,340,238,0,347,246,0,354,251,0,361,256,0,368,258,0,375,261,0,382,263,0,389,266,0,396,271,0,403,277,0,410,280,0,417,282,0,424,287,0,431,289,0,438,291,0,445,293,0,452,302,0,459,304,0,466,306,0,473,308,0,480,310,0,487,315,0,494,317,0,501,319,0,508,321,0,515,329,0,522,340,0,529,360,0,536,378,0,543,396,0,550,410,0,557,419,0,564,421,0,571,429,0,578,435,0,585,443,0,592,448,0,599,462,0,604,493,0,611,500,0,618,504,0,625,523,0,632,535,0,639,578,0,685,586,0,692,593,0,699,604,0,706,612,0,713,623,0,720,626,0,727,653,0,734,672,0,741,681,0,748,687,0,755,693,0,762,701,0,769,707,0,774,725,0,781,736,0,786,742,0,793,767,0,800,774,0,807,781,0,814,792,0,821,797,0,828,799,0,835,813,0,842,824,0,849,828,0,856,835,0,863,841,0,870,845,0,877,850,0,884,852,0,891,854,0,898,856,0,905,860,0,912,864,0,919,882,0,926,889,0,933,896,0,940,906,0,947,912,0,954,934,0,961,947,0,968,966,0,975,978,0,982,986,0,989,1004,0,996,1013,0,1003,1023,0,1010,1028,0,1017,1035,0,1024,1043,0,1031,1047,0,1038,1075,0,1045,1082,0,1052,1101,0,1059,1124,0,1066,1127,0,1073,1130,0,1080,1137,0,1087,1140,0,1094,1142,0,1101,1148,0,1108,1158,0,1115,1163,0,1122,1173,0,1129,1179,0,1136,1195,0,1143,1200,0,1150,1204,0,1157,1215,0,1165,1218,0,1172,1220,0,1179,1229,0,1186,1241,0,1193,1249,0,1200,1259,0,1207,1271,0,1214,1294,0,1221,1306,0,1228,1308,0,1235,1316,0,1240,1318,0,1247,1325,0,1254,1333,0,1261,1347,0,1268,1356,0,1273,1360,0,1280,1375,0,1287,1388,0,1292,1396,0,1299,1403,0,1306,1413,0,1313,1424,0,1320,1428,0,1325,1444,0,1333,1456,0,1340,1589,0,1458,1591,0,1465,1637,0,1521,1657,0,1547,1702,0,1610,1778,0,1687,1791,0,1694,1793,0,1701,1796,0,1708,1798,0,1715,1807,0,1722,1815,0,1729,1817,0,1736,1819,0,1743,1823,0,1750,1827,0,1757,1843,0,1762,1855,0,1769,1866,0,1774,1926,0,1779,1964,0,1786]
noncomputable def tC(n:Nat):Obj:=M4 PM n
noncomputable def bS(P:X4):Obj:=dO P .none [("type.__subclasses__.Exception.0",228,(.int 39 0)),("type.__subclasses__.Exception.n",229,(.int 1 0))] 2
noncomputable def dh:Obj:=⟨.type "code",none,.fields #[vS "<module>" 182,vS "<module>" 183,vS "/claim/cut.py" 184,.int 1 0,.int 0 0,.int 0 0,.int 0 0,.int 0 0,.ref 11,.bool false,.int 181 0,.ref 12,.none,.none,.none,.none,.int 185 0,.int 1 0,vS "/claim/cut.py" 186],#[]⟩
noncomputable def FX:Obj:=⟨.type "type",none,.cls ⟨Wi "GateloomError",[.type "Exception"],[.ref 39,.type "Exception",.type "BaseException",.type "object"],38,Wi "GateloomError",true,[],[.ref 52,.ref 64],false,none,false⟩,#[some (.ref 22),none,some (vS "GateloomError" 196),some (vS "GateloomError" 204),some (.builtin "Exception.__new__"),some (.bool true)]⟩
noncomputable def we:Obj:=⟨.type "type",none,.cls ⟨Wi "DesignError",[.ref 39],[.ref 52,.ref 39,.type "Exception",.type "BaseException",.type "object"],51,Wi "DesignError",true,[],[],false,none,false⟩,#[some (.ref 43),none,some (vS "DesignError" 232),some (vS "DesignError" 240),some (.builtin "Exception.__new__"),some (.bool true)]⟩
noncomputable def BW:Obj:=⟨.type "type",none,.cls ⟨Wi "Store",[.type "object"],[.ref 210,.type "object"],209,Wi "Store",true,[],[],false,none,false⟩,#[none,none,some (vS "Store" 412),some (vS "Store" 420),some (.builtin "object.__new__"),some (.bool true)]⟩
noncomputable def qy:Obj:=⟨.type "type",none,.cls ⟨Wi "Context",[.type "object"],[.ref 253,.type "object"],252,Wi "Context",true,[],[.ref 677],false,none,false⟩,#[none,none,some (vS "Context" 478),some (vS "Context" 486),some (.builtin "object.__new__"),some (.bool true)]⟩
noncomputable def wG:Obj:=⟨.type "type",none,.cls ⟨Wi "StatementMaker",[.type "object"],[.ref 1448,.type "object"],1447,Wi "StatementMaker",true,[],[],false,none,false⟩,#[none,none,some (vS "StatementMaker" 2157),some (vS "StatementMaker" 2165),some (.builtin "object.__new__"),some (.bool true)]⟩
noncomputable def w9:Obj:=⟨.type "type",none,.cls ⟨Wi "Signal",[.type "object"],[.ref 1511,.type "object"],1510,Wi "Signal",true,[],[],false,none,false⟩,#[none,none,some (vS "Signal" 2339),some (vS "Signal" 2347),some (.builtin "object.__new__"),some (.bool true)]⟩
noncomputable def wI:Obj:=⟨.type "type",none,.cls ⟨Wi "Routine",[.type "object"],[.ref 1537,.type "object"],1536,Wi "Routine",true,[],[],false,none,false⟩,#[none,none,some (vS "Routine" 2424),some (vS "Routine" 2432),some (.builtin "object.__new__"),some (.bool true)]⟩
noncomputable def wb:Obj:=⟨.type "type",none,.cls ⟨Wi "Design",[.type "object"],[.ref 1600,.type "object"],1599,Wi "Design",true,[],[],false,none,false⟩,#[none,none,some (vS "Design" 2476),some (vS "Design" 2484),some (.builtin "object.__new__"),some (.bool true)]⟩
noncomputable def wA:Obj:=⟨.type "type",none,.cls ⟨Wi "Scope",[.type "object"],[.ref 1677,.type "object"],1676,Wi "Scope",true,[],[],false,none,false⟩,#[none,none,some (vS "Scope" 2579),some (vS "Scope" 2587),some (.builtin "object.__new__"),some (.bool true)]⟩
noncomputable def vH:Obj:={qy with data:=match qy.data with | .cls c=>.cls {c with subclasses:=[]}|d=>d}
noncomputable def FG(P:X4):Obj:=dO P (.type "dict") [("__module__",203,(vS "gateloom.errors" 194)),("__firstlineno__",207,(.int 5 206)),("__init__",220,(.ref 36)),("__static_attributes__",224,(.ref 37)),("__weakref__",226,(.ref 40)),("__doc__",227,.none)] 3
noncomputable def G1(P:X4):Obj:=dO P (.type "dict") [("__module__",239,(vS "gateloom.errors" 194)),("__firstlineno__",243,(.int 11 242)),("__static_attributes__",244,(.ref 50)),("__doc__",245,.none)] 2
noncomputable def Co(P:X4):Obj:=dO P (.type "dict") [("__module__",419,(vS "gateloom.store" 410)),("__firstlineno__",423,(.int 91 422)),("__init__",431,(.ref 186)),("get",441,(.ref 193)),("word",452,(.ref 200)),("set_bits",465,(.ref 207)),("__static_attributes__",470,(.ref 208)),("__dict__",472,(.ref 211)),("__weakref__",474,(.ref 212)),("__doc__",475,.none)] 4
noncomputable def qt(P:X4):Obj:=dO P (.type "dict") [("__module__",485,(vS "gateloom.store" 410)),("__firstlineno__",489,(.int 134 488)),("__init__",500,(.ref 229)),("call",509,(.ref 236)),("next_random",517,(.ref 243)),("time_vec",525,(.ref 250)),("__static_attributes__",529,(.ref 251)),("__dict__",531,(.ref 254)),("__weakref__",533,(.ref 255)),("__doc__",534,.none)] 4
noncomputable def wl(P:X4):Obj:=dO P (.type "dict") [("__module__",2164,(vS "gateloom.elabstmt" 1984)),("__firstlineno__",2168,(.int 1456 2167)),("__init__",2178,(.ref 1349)),("in_function",2185,(.ref 1356)),("no_timing",2193,(.ref 1363)),("value",2201,(.ref 1370)),("block",2207,(.ref 1375)),("assignment",2221,(.ref 1382)),("nonblocking",2235,(.ref 1389)),("control",2244,(.ref 1396)),("step",2253,(.ref 1403)),("selection",2271,(.ref 1410)),("loop",2283,(.ref 1417)),("waiting",2292,(.ref 1424)),("trigger",2301,(.ref 1431)),("call",2309,(.ref 1438)),("make",2319,(.ref 1445)),("__static_attributes__",2323,(.ref 1446)),("__dict__",2325,(.ref 1449)),("__weakref__",2327,(.ref 1450)),("__doc__",2328,.none)] 4
noncomputable def wV(P:X4):Obj:=dO P (.type "dict") [("__module__",2346,(vS "gateloom.design" 2331)),("__firstlineno__",2350,(.int 1591 2349)),("__init__",2364,(.ref 1473)),("is_net",2371,(.ref 1480)),("is_memory",2378,(.ref 1487)),("words",2385,(.ref 1494)),("offset",2394,(.ref 1501)),("place",2403,(.ref 1508)),("__static_attributes__",2416,(.ref 1509)),("__dict__",2418,(.ref 1512)),("__weakref__",2420,(.ref 1513)),("__doc__",2421,.none)] 4
noncomputable def wv(P:X4):Obj:=dO P (.type "dict") [("__module__",2431,(vS "gateloom.design" 2331)),("__firstlineno__",2435,(.int 1637 2434)),("__init__",2447,(.ref 1529)),("inputs",2453,(.ref 1534)),("__static_attributes__",2468,(.ref 1535)),("__dict__",2470,(.ref 1538)),("__weakref__",2472,(.ref 1539)),("__doc__",2473,.none)] 4
noncomputable def vO(P:X4):Obj:=dO P (.type "dict") [("__module__",2483,(vS "gateloom.design" 2331)),("__firstlineno__",2487,(.int 1657 2486)),("__init__",2494,(.ref 1555)),("add_signal",2509,(.ref 1562)),("add_scope",2517,(.ref 1569)),("add_routine",2529,(.ref 1576)),("add_process",2540,(.ref 1583)),("find",2548,(.ref 1590)),("routine",2557,(.ref 1597)),("__static_attributes__",2569,(.ref 1598)),("__dict__",2571,(.ref 1601)),("__weakref__",2573,(.ref 1602)),("__doc__",2574,.none)] 4
noncomputable def vx(P:X4):Obj:=dO P (.type "dict") [("__module__",2586,(vS "gateloom.scopes" 2577)),("__firstlineno__",2590,(.int 1702 2589)),("__init__",2601,(.ref 1618)),("child",2612,(.ref 1625)),("declare",2622,(.ref 1632)),("module_scope",2629,(.ref 1639)),("lookup",2638,(.ref 1646)),("lookup_routine",2648,(.ref 1653)),("descend",2659,(.ref 1660)),("resolve",2670,(.ref 1667)),("answers_to",2678,(.ref 1674)),("__static_attributes__",2688,(.ref 1675)),("__dict__",2690,(.ref 1678)),("__weakref__",2692,(.ref 1679)),("__doc__",2693,.none)] 4
noncomputable def Gb:Obj:=⟨.type "tuple",none,.seq #[.int (-1) 209,vS "" 210],#[]⟩
noncomputable def G5:Obj:=⟨.type "tuple",none,.seq #[.int 0 273],#[]⟩
noncomputable def Az:Obj:=⟨.type "tuple",none,.seq #[.int 0 490],#[]⟩
noncomputable def wN:Obj:=⟨.type "tuple",none,.seq #[.none],#[]⟩
noncomputable def vP:Obj:=⟨.type "tuple",none,.seq #[.none],#[]⟩
noncomputable def vY:Obj:=⟨.type "code",none,.fields #[vS "law" 2829,vS "law" 2830,vS "/claim/cut.py" 2831,.int 1964 0,.int 1 0,.int 0 0,.int 0 0,.int 3 0,.ref 1781,.bool true,.int 181 0,.ref 1782,.none,.ref 1783,.ref 1784,.ref 1785,.int 2851 0,.int 1964 0,vS "/claim/cut.py" 2852],#[]⟩
noncomputable def Im:FE:=⟨217,none,1787,1786,none⟩
noncomputable def G6:Yg:=DZ Im (λps b sc=>{name:=Wi "law",qualname:=Wi "law",params:=ps,body:= .stmts b,scope:=sc,globals:=mainGlobals,closure:=[],defaults:= .none,kwdefaults:= .none,doc:= .none,pyModule:=vS "law_ok0103_01" 2696,code:= .ref 1786,builtins:=builtinsNs}) default
noncomputable def Ez:Obj:=⟨.type "function",none,.func G6,#[]⟩
noncomputable def TH(P:X4):Obj:=(dO P (.type "dict") (pat [(0,(vS "gateloom.vecops" 710))] (kO.take 49)) 49)
noncomputable def Tq(P:X4):Obj:=(dO P (.type "dict") (pat [(0,(vS "gateloom.funcs" 1070)),(78,(.ref 600))] (kO.take 92)) 92)
noncomputable def T8(P:X4):Obj:=(dO P (.type "dict") (pat [(0,(vS "gateloom.elabexpr" 1474)),(78,(.ref 600)),(110,(.ref 836))] (kO.take 129)) 129)
noncomputable def Ts(P:X4):Obj:=(dO P (.type "dict") (pat [(0,(vS "gateloom.elablv" 1933))] (kO.take 165)) 165)
noncomputable def SV(P:X4):Obj:=(dO P (.type "dict") (pat [(0,(vS "gateloom.elabstmt" 1984))] (kO.take 188)) 188)
noncomputable def SY(P:X4):Obj:=(dO P (.type "dict") (pat [(0,(vS "gateloom.design" 2331))] (kO.take 191)) 191)
noncomputable def Td(P:X4):Obj:=(dO P (.type "dict") (pat [] (kO.take 193)) 193)
noncomputable def QQ(P:X4):Obj:=(dO P (.type "dict") (pat [] (kO.take 209)) 209)
noncomputable def SB(w:World)(os:Xy):Option (Flow × Ov × Code × Pos):=
 (Qz den pw_ok0103_01 w 11 (some (.ref 6)) 12 (PJ w os) (topStub pw_ok0103_01)).bind λr=>
  (kh den pw_ok0103_01 w 11 (some (.ref 6)) 1 2 r.1 (blockOf dR bZ cL p0 [topFrame p0])).bind λr2=>
   kh den pw_ok0103_01 w 11 (some (.ref 6)) 1 6000 r2.2.1 (piecesOf (dR.take 45) bZ cL r2.2.2.2 [topFrame p0])
noncomputable def Qu:List FE:=[⟨2,some 0,36,35,some 29⟩,⟨6,none,73,72,none⟩,⟨7,none,81,80,some 74⟩,⟨13,none,123,122,none⟩,⟨14,none,130,129,none⟩,⟨18,none,158,157,none⟩,⟨22,some 0,186,185,none⟩,⟨23,some 0,229,228,some 222⟩]
noncomputable def RP(P:X4):List (Addr × Obj):=[(0,Yd P),(2,bS P),(3,TH P),(4,Ye P),(12,tC 120),(13,dh),(1,boot_o_1 P),(5,boot_o_5 P),(6,boot_o_6 P),(7,boot_o_7 P),(8,boot_o_8 P),(9,boot_o_9 P),(10,boot_o_10 P),(39,FX),(52,we),(210,BW),(253,vH),(38,(FG P)),(51,(G1 P)),(209,(Co P)),(252,(qt P)),(29,Gb),(74,G5),(222,Az)]
theorem PK(w:World)(os:Xy): (SB w os).map (λr=>(r.1,(r.2.1.m,r.2.1.toks,r.2.1.gens,r.2.1.drawn,r.2.1.os),r.2.2,Qu.map (vw r.2.1),(RP w.params).map λp=>r.2.1.look p.1))=
  some (.next,(380,729,#[],Xe,os),(cL,⟨263,0,265,34⟩),Qu.map eF,(RP w.params).map λp=>some p.2):=by kernel_rfl
noncomputable def VT(P:X4):List (Addr × Obj):=[(0,Yd P),(2,bS P),(3,TH P),(4,Ye P),(12,tC 120),(13,dh),(253,vH),(252,qt P)]
noncomputable def W1(w:World)(os:Xy):Option (Flow × Ov × Code × Pos):=kh den pw_ok0103_01 w 11 (some (.ref 6)) 1 6000 ⟨VT w.params,391,.nil,0,#[],Xe,729,os⟩ (piecesOf ((dR.drop 45).take 45) bZ cL ⟨263,0,265,34⟩ [topFrame p0])
noncomputable def Ro:List FE:=[⟨77,none,605,604,none⟩]
noncomputable def TE(P:X4):List (Addr × Obj):=[(0,Yd P),(2,bS P),(3,Tq P),(4,Ye P),(12,tC 243),(13,dh),(253,qy),(252,qt P)]
theorem Ox(w:World)(os:Xy): (W1 w os).map (λr=>(r.1,(r.2.1.m,r.2.1.toks,r.2.1.gens,r.2.1.drawn,r.2.1.os),r.2.2,Ro.map (vw r.2.1),(TE w.params).map λp=>r.2.1.look p.1))=
  some (.next,(324,1195,#[],Xe,os),(cL,⟨612,0,622,15⟩),Ro.map eF,(TE w.params).map λp=>some p.2):=by kernel_rfl
noncomputable def UU(P:X4):List (Addr × Obj):=[(0,Yd P),(2,bS P),(3,Tq P),(4,Ye P),(12,tC 243),(13,dh)]
noncomputable def W0(w:World)(os:Xy):Option (Flow × Ov × Code × Pos):=kh den pw_ok0103_01 w 11 (some (.ref 6)) 1 6000 ⟨UU w.params,715,.nil,0,#[],Xe,1195,os⟩ (piecesOf ((dR.drop 90).take 40) bZ cL ⟨612,0,622,15⟩ [topFrame p0])
noncomputable def Ri:List FE:=[⟨93,none,735,734,none⟩,⟨94,none,742,741,none⟩,⟨95,none,749,748,none⟩,⟨97,none,763,762,none⟩,⟨99,none,775,774,none⟩,⟨100,none,782,781,none⟩,⟨101,none,787,786,none⟩,⟨102,none,794,793,none⟩,⟨103,none,801,800,none⟩,⟨108,none,822,821,none⟩,⟨109,none,829,828,none⟩,⟨110,none,836,835,none⟩,⟨112,none,843,842,none⟩,⟨113,none,850,849,none⟩,⟨114,none,857,856,none⟩,⟨116,none,871,870,none⟩,⟨119,none,892,891,none⟩,⟨120,none,899,898,none⟩,⟨121,none,906,905,none⟩,⟨122,none,913,912,none⟩,⟨126,none,934,933,none⟩,⟨127,none,941,940,none⟩,⟨128,none,948,947,none⟩,⟨129,none,955,954,none⟩]
noncomputable def Tm(P:X4):List (Addr × Obj):=[(0,Yd P),(2,bS P),(3,T8 P),(4,Ye P),(12,tC 348),(13,dh)]
theorem Om(w:World)(os:Xy): (W0 w os).map (λr=>(r.1,(r.2.1.m,r.2.1.toks,r.2.1.gens,r.2.1.drawn,r.2.1.os),r.2.2,Ri.map (vw r.2.1),(Tm w.params).map λp=>r.2.1.look p.1))=
  some (.next,(241,1532,#[],Xe,os),(cL,⟨912,0,933,46⟩),Ri.map eF,(Tm w.params).map λp=>some p.2):=by kernel_rfl
noncomputable def Vn(P:X4):List (Addr × Obj):=[(0,Yd P),(2,bS P),(3,T8 P),(4,Ye P),(12,tC 348),(13,dh)]
noncomputable def Un(w:World)(os:Xy):Option (Flow × Ov × Code × Pos):=kh den pw_ok0103_01 w 11 (some (.ref 6)) 1 6000 ⟨Vn w.params,956,.nil,0,#[],Xe,1532,os⟩ (piecesOf ((dR.drop 130).take 40) bZ cL ⟨912,0,933,46⟩ [topFrame p0])
noncomputable def RI:List FE:=[⟨130,none,962,961,none⟩,⟨131,none,969,968,none⟩,⟨141,none,1032,1031,none⟩,⟨142,none,1039,1038,none⟩,⟨144,none,1053,1052,none⟩,⟨145,none,1060,1059,none⟩,⟨146,none,1067,1066,none⟩,⟨147,none,1074,1073,none⟩]
noncomputable def TM(P:X4):List (Addr × Obj):=[(0,Yd P),(2,bS P),(3,Ts P),(4,Ye P),(12,tC 450),(13,dh)]
theorem Of(w:World)(os:Xy): (Un w os).map (λr=>(r.1,(r.2.1.m,r.2.1.toks,r.2.1.gens,r.2.1.drawn,r.2.1.os),r.2.2,RI.map (vw r.2.1),(TM w.params).map λp=>r.2.1.look p.1))=
  some (.next,(239,1935,#[],Xe,os),(cL,⟨1248,0,1248,8⟩),RI.map eF,(TM w.params).map λp=>some p.2):=by kernel_rfl
noncomputable def UA(P:X4):List (Addr × Obj):=[(0,Yd P),(2,bS P),(3,Ts P),(4,Ye P),(12,tC 450),(13,dh)]
noncomputable def Uu(w:World)(os:Xy):Option (Flow × Ov × Code × Pos):=kh den pw_ok0103_01 w 11 (some (.ref 6)) 1 6000 ⟨UA w.params,1195,.nil,0,#[],Xe,1935,os⟩ (piecesOf ((dR.drop 170).take 24) bZ cL ⟨1248,0,1248,8⟩ [topFrame p0])
noncomputable def Sy:List FE:=[⟨170,none,1201,1200,none⟩,⟨171,none,1208,1207,none⟩,⟨172,none,1215,1214,none⟩,⟨173,none,1222,1221,none⟩,⟨176,none,1229,1228,none⟩,⟨177,none,1236,1235,none⟩,⟨178,none,1241,1240,none⟩,⟨181,none,1262,1261,none⟩,⟨182,none,1269,1268,none⟩,⟨183,none,1274,1273,none⟩,⟨184,none,1281,1280,none⟩,⟨185,none,1288,1287,none⟩,⟨186,none,1293,1292,none⟩,⟨187,none,1300,1299,none⟩,⟨188,none,1307,1306,none⟩,⟨189,none,1314,1313,none⟩,⟨190,none,1321,1320,none⟩,⟨191,none,1326,1325,none⟩,⟨192,none,1334,1333,some 1327⟩,⟨193,some 0,1349,1348,some 1342⟩,⟨193,some 1,1356,1355,none⟩,⟨193,some 2,1363,1362,none⟩,⟨193,some 3,1370,1369,none⟩,⟨193,some 4,1375,1374,none⟩,⟨193,some 5,1382,1381,none⟩,⟨193,some 6,1389,1388,none⟩,⟨193,some 7,1396,1395,none⟩,⟨193,some 8,1403,1402,none⟩,⟨193,some 9,1410,1409,none⟩,⟨193,some 10,1417,1416,none⟩,⟨193,some 11,1424,1423,none⟩,⟨193,some 12,1431,1430,none⟩,⟨193,some 13,1438,1437,none⟩,⟨193,some 14,1445,1444,none⟩]
noncomputable def Te(P:X4):List (Addr × Obj):=[(0,Yd P),(2,bS P),(3,SV P),(4,Ye P),(12,tC 516),(13,dh),(1448,wG),(1447,(wl P)),(1327,wN),(1342,vP)]
theorem Qf(w:World)(os:Xy): (Uu w os).map (λr=>(r.1,(r.2.1.m,r.2.1.toks,r.2.1.gens,r.2.1.drawn,r.2.1.os),r.2.2,Sy.map (vw r.2.1),(Te w.params).map λp=>r.2.1.look p.1))=
  some (.next,(258,2331,#[],Xe,os),(cL,⟨1456,0,1587,27⟩),Sy.map eF,(Te w.params).map λp=>some p.2):=by kernel_rfl
noncomputable def Vj(P:X4):List (Addr × Obj):=[(0,Yd P),(2,bS P),(3,SV P),(4,Ye P),(12,tC 516),(13,dh)]
noncomputable def UN(w:World)(os:Xy):Option (Flow × Ov × Code × Pos):=kh den pw_ok0103_01 w 11 (some (.ref 6)) 1 6000 ⟨Vj w.params,1453,.nil,0,#[],Xe,2331,os⟩ (piecesOf ((dR.drop 194).take 4) bZ cL ⟨1456,0,1587,27⟩ [topFrame p0])
noncomputable def QY:List FE:=[⟨195,none,1459,1458,none⟩,⟨196,some 0,1473,1472,none⟩,⟨196,some 1,1480,1479,none⟩,⟨196,some 2,1487,1486,none⟩,⟨197,some 0,1529,1528,none⟩]
noncomputable def Tf(P:X4):List (Addr × Obj):=[(0,Yd P),(2,bS P),(3,SY P),(4,Ye P),(12,tC 525),(13,dh),(1511,w9),(1537,wI),(1510,(wV P)),(1536,(wv P))]
theorem Qk(w:World)(os:Xy): (UN w os).map (λr=>(r.1,(r.2.1.m,r.2.1.toks,r.2.1.gens,r.2.1.drawn,r.2.1.os),r.2.2,QY.map (vw r.2.1),(Tf w.params).map λp=>r.2.1.look p.1))=
  some (.next,(89,2476,#[],Xe,os),(cL,⟨1637,0,1656,67⟩),QY.map eF,(Tf w.params).map λp=>some p.2):=by kernel_rfl
noncomputable def Wa(P:X4):List (Addr × Obj):=[(0,Yd P),(2,bS P),(3,SY P),(4,Ye P),(12,tC 525),(13,dh)]
noncomputable def Vg(w:World)(os:Xy):Option (Flow × Ov × Code × Pos):=kh den pw_ok0103_01 w 11 (some (.ref 6)) 1 6000 ⟨Wa w.params,1542,.nil,0,#[],Xe,2476,os⟩ (piecesOf ((dR.drop 198).take 4) bZ cL ⟨1637,0,1656,67⟩ [topFrame p0])
noncomputable def Rf:List FE:=[⟨198,some 0,1555,1554,none⟩,⟨198,some 1,1562,1561,none⟩,⟨198,some 2,1569,1568,none⟩,⟨198,some 3,1576,1575,none⟩,⟨200,some 0,1618,1617,none⟩,⟨200,some 1,1625,1624,none⟩,⟨200,some 2,1632,1631,none⟩,⟨200,some 4,1646,1645,none⟩]
noncomputable def SJ(P:X4):List (Addr × Obj):=[(0,Yd P),(2,bS P),(3,Td P),(4,Ye P),(12,tC 531),(13,dh),(1600,wb),(1677,wA),(1599,(vO P)),(1676,(vx P))]
theorem PO(w:World)(os:Xy): (Vg w os).map (λr=>(r.1,(r.2.1.m,r.2.1.toks,r.2.1.gens,r.2.1.drawn,r.2.1.os),r.2.2,Rf.map (vw r.2.1),(SJ w.params).map λp=>r.2.1.look p.1))=
  some (.next,(140,2698,#[],Xe,os),(cL,⟨1777,0,1777,8⟩),Rf.map eF,(SJ w.params).map λp=>some p.2):=by kernel_rfl
noncomputable def VF(P:X4):List (Addr × Obj):=[(0,Yd P),(2,bS P),(3,Td P),(4,Ye P),(12,tC 531),(13,dh)]
noncomputable def VY(w:World)(os:Xy):Option (Flow × Ov × Code × Pos):=kh den pw_ok0103_01 w 11 (some (.ref 6)) 1 6000 ⟨VF w.params,1682,.nil,0,#[],Xe,2698,os⟩ (piecesOf ((dR.drop 202).take 16) bZ cL ⟨1777,0,1777,8⟩ [topFrame p0])
noncomputable def So:List FE:=[⟨202,none,1688,1687,none⟩,⟨203,none,1695,1694,none⟩,⟨204,none,1702,1701,none⟩,⟨205,none,1709,1708,none⟩,⟨206,none,1716,1715,none⟩,⟨207,none,1723,1722,none⟩,⟨208,none,1730,1729,none⟩,⟨209,none,1737,1736,none⟩,⟨210,none,1744,1743,none⟩,⟨211,none,1751,1750,none⟩,⟨212,none,1758,1757,none⟩,⟨213,none,1763,1762,none⟩,⟨214,none,1770,1769,none⟩,⟨215,none,1775,1774,none⟩,⟨216,none,1780,1779,none⟩,⟨217,none,1787,1786,none⟩]
noncomputable def SD:Obj:=⟨.none,none,.fields #[],#[]⟩
noncomputable def QZ(P:X4):List (Addr × Obj):=[(0,Yd P),(2,bS P),(3,QQ P),(4,Ye P),(12,tC 579),(13,dh),(1786,vY),(1787,Ez),(1782,SD)]
theorem PF(w:World)(os:Xy): (VY w os).map (λr=>(r.1,(r.2.1.m,r.2.1.toks,r.2.1.gens,r.2.1.drawn,r.2.1.os),r.2.2,So.map (vw r.2.1),(QZ w.params).map λp=>r.2.1.look p.1))=
  some (.next,(106,2854,#[],Xe,os),(cL,⟨1964,0,1999,39⟩),So.map eF,(QZ w.params).map λp=>some p.2):=by kernel_rfl
noncomputable def u9(h:Heap)(e:FE):Prop:=∃o c x,h.get? e.a=some o/\h.get? e.c=some c/\vF o c=some x/\eF e=some x
noncomputable def FL(h:Heap)(l:List (Addr × Obj)):Prop:=∀p∈l,h.get? p.1=some p.2
structure Bd(os:Xy)(n toks:Nat)(fs:List FE)(xs:List (Addr × Obj))(s:Wp):Prop where
 size:s.heap.objs.size=n
 gens:s.gens=#[]
 drawn:s.drawn=Xe
 toks:s.toks=toks
 os:s.os=os
 fns:∀e∈fs,u9 s.heap e
 xs:FL s.heap xs
theorem cq{l:List (Addr × Obj)}{a:Addr}{o:Obj}:∀{l},bI l a=some o->(a,o)∈l
 | [],h=>by cases h
 |p::r,h=>by
  rw[yS]at h
  by_cases q:p.1=a
  ·rw[if_pos q]at h
   cases h
   subst q
   exact .head _
  ·rw[if_neg q]at h
   exact .tail _ (cq (l:=r) h)
noncomputable def Sq(K:List (Addr × Obj))(fs:List FE):Bool:=fs.all λe=>(bI K e.a).isNone&&(bI K e.c).isNone
theorem iF{α β:Type}{f g:α->β}:∀{l:List α},l.map f=l.map g->∀x∈l,f x=g x
 |x::r,h,y,hy=>by
  simp only[YH,Zi.injEq]at h
  rcases WJ.mp hy with rfl|hy
  ·exact h.1
  ·exact iF h.2 y hy
theorem vE{v:Ov}{s:Wp}(A:fS v s){fl:List FE}(h:fl.map (vw v)=fl.map eF)(ke:fl.all (λe=>(eF e).isSome)=true):∀e∈fl,u9 s.heap e:=by
 intro e he
 obtain⟨x,hx⟩:=a0n.mp (Xi.mp ke e he)
 exact c7 ((iF h e he).trans hx) λo ho h1=>c7 h1 λc hc h1=>⟨o,c,x,A.look ho,A.look hc,h1,hx⟩
theorem u9.keep{h h':Heap}{e:FE}(x:u9 h e)(k:∀o,h.get? e.a=some o->h'.get? e.a=some o)(k':∀o,h.get? e.c=some o->h'.get? e.c=some o):u9 h' e:=
 let⟨o,c,y,a,b,r⟩:=x;⟨o,c,y,k _ a,k' _ b,r⟩
theorem fN{w:World}{os:Xy}{n toks N mm toks':Nat}{fs fl:List FE}{xs yl K:List (Addr × Obj)}{s:Wp}{t:XJ}{c:Code}{pos:Pos}(B:Bd os n toks fs xs s)
  (hK:K.map (λp=>bI xs p.1)=K.map (λp=>some p.2))(kf:Sq K fs=true)(ke:fl.all (λe=>(eF e).isSome)=true)
  (run: (kh den pw_ok0103_01 w 11 (some (.ref 6)) 1 N ⟨K,n,.nil,0,#[],Xe,toks,os⟩ t).map (λr=>(r.1,(r.2.1.m,r.2.1.toks,r.2.1.gens,r.2.1.drawn,r.2.1.os),r.2.2,fl.map (vw r.2.1),yl.map λp=>r.2.1.look p.1))=
   some (.next,(mm,toks',#[],Xe,os),(c,pos),fl.map eF,yl.map λp=>some p.2)):
  ∃s',segRun treeTable pw_ok0103_01 w 11 (some (.ref 6)) 1 N s t=some (.next,s',c,pos)/\Bd os (n+mm) toks' (fl++fs) (yl++xs.filter λp=>(bI K p.1).isNone) s':=by
 obtain⟨⟨f,v,c',q⟩,e1,e2⟩:=YC.mp run
 simp only[YI]at e2
 obtain⟨rfl,⟨m1,m2,m3,m4,m5⟩,⟨rfl,rfl⟩,h1,h2⟩:=e2
 have hKh:FL s.heap K:=λp hp=>B.xs _ (cq (l:=xs) (iF hK p hp))
 have A:fS ⟨K,n,.nil,0,#[],Xe,toks,os⟩ s:=⟨B.size,λa o _ h=>hKh _ (cq (l:=K) h),λi o h=>by simp[BT.get]at h,B.gens,B.drawn,B.toks,B.os⟩
 rw[<-yZ]at e1
 obtain⟨s',e,A',S⟩:=jD e1 A
 refine⟨s',e,⟨?_,A'.gens.trans m3,A'.drawn.trans m4,A'.toks.trans m2,A'.os.trans m5,?_,?_⟩⟩
 ·rw[A'.size,S.n₁,m1]
 ·have keep:∀b o,bI K b=none->s.heap.get? b=some o->s'.heap.get? b=some o:=λb o h1 h2=>S.keep b o (by rw[<-B.size];exact XO h2) h1 h2
  intro e he
  rcases X1.mp he with he|he
  ·exact vE A' h1 ke e he
  ·have:=Xi.mp kf e he
   simp only[a0x,Xo]at this
   exact(B.fns e he).keep (λo=>keep _ o this.1) λo=>keep _ o this.2
 ·have keep:∀b o,bI K b=none->s.heap.get? b=some o->s'.heap.get? b=some o:=λb o h1 h2=>S.keep b o (by rw[<-B.size];exact XO h2) h1 h2
  intro p hp
  rcases X1.mp hp with hp|hp
  ·exact A'.look (iF h2 p hp)
  ·obtain⟨h3,h4⟩:=List.mem_filter.mp hp
   exact keep _ _ (Xo.mp h4) (B.xs p h3)
noncomputable abbrev yy(w:World)(N:Nat)(s:Wp)(t:XJ):Option Wp:=topRun treeTable pw_ok0103_01 w 11 (some (.ref 6)) N s t
theorem Gf{w:World}{a n N k:Nat}{pos pos':Pos}{s s' r:Wp}(hs:segRun treeTable pw_ok0103_01 w 11 (some (.ref 6)) 1 k s (piecesOf ((dR.drop a).take n) bZ cL pos [topFrame p0])=some (.next,s',cL,pos'))
  (h:yy w N s' (restOf (dR.drop (a+n)) bZ cL pos' [topFrame p0])=some r):yy w (k+N) s (restOf (dR.drop a) bZ cL pos [topFrame p0])=some r:=by
 have e:dR.drop a=(dR.drop a).take n++dR.drop (a+n):=by rw[<-List.drop_drop,Zq]
 rw[e]
 exact piece_app hs h
theorem Sa(w:World)(os:Xy): ((Qz den pw_ok0103_01 w 11 (some (.ref 6)) 12 (PJ w os) (topStub pw_ok0103_01)).bind λr=>kh den pw_ok0103_01 w 11 (some (.ref 6)) 1 2 r.1 (blockOf dR bZ cL p0 [topFrame p0])).map (λr=>(r.1,r.2.2))=some (.next,cL,p0):=by kernel_rfl
theorem mH(P:X4): (Zu P).objs.size=11/\(wQ P).map (λp=>(Zu P).get? p.1)=(wQ P).map (λp=>some p.2):=⟨by kernel_rfl,by kernel_rfl⟩
theorem yP:dR.drop 218=[]:=by kernel_rfl
theorem Dq(w:World)(s:Wp)(pos:Pos):yy w 9 s (restOf (dR.drop 218) bZ cL pos [topFrame p0])=some s:=by
 rw[yP]
 obtain⟨h,g,d,t,o⟩:=s
 rfl
theorem first{w:World}{s₀:Wp}(e: (s₀.heap,s₀.gens,s₀.drawn,s₀.toks)=(Zu w.params,Array.mk [],Xe,boot_toks)):
  ∃s,Bd s₀.os 391 729 Qu (RP w.params) s/\∀N r,yy w N s (restOf (dR.drop 45) bZ cL ⟨263,0,265,34⟩ [topFrame p0])=some r->yy w (12+(2+(6000+N))) s₀ (topStub pw_ok0103_01)=some r:=by
 simp only[YI]at e
 obtain⟨e1,e2,e3,e4⟩:=e
 obtain⟨⟨f,v,c',q⟩,x1,x2⟩:=YC.mp (PK w s₀.os)
 simp only[YI]at x2
 obtain⟨rfl,⟨m1,m2,m3,m4,m5⟩,⟨rfl,rfl⟩,h1,h2⟩:=x2
 unfold SB at x1
 obtain⟨⟨v1,t1⟩,y1,x1⟩:=a0y.mp x1
 obtain⟨⟨f2,v2,c2,q2⟩,y2,x1⟩:=a0y.mp x1
 have P1:=pre w s₀.os
 rw[y1]at P1
 simp only[Option.map_some,a0j,YI]at P1
 obtain⟨_,rfl⟩:=P1
 have P2:=Sa w s₀.os
 rw[y1]at P2
 simp only[Yk]at P2
 rw[y2]at P2
 simp only[Option.map_some,a0j,YI]at P2
 obtain⟨rfl,rfl,rfl⟩:=P2
 dsimp only at x1 y2
 have A:fS (PJ w s₀.os) s₀:=⟨by rw[e1];exact(mH w.params).1,λa o _ h=>by
  rw[e1]
  exact iF (mH w.params).2 _ (cq (l:=wQ w.params) h),λi o h=>by simp[PJ,BT.get]at h,e2,e3,e4,rfl⟩
 rw[<-yZ]at y1 y2 x1
 obtain⟨s1,z1,A1,S1⟩:=AF y1 A
 obtain⟨s2,z2,A2,S2⟩:=jD y2 A1
 obtain⟨s3,z3,A3,S3⟩:=jD x1 A2
 refine⟨s3,⟨?_,A3.gens.trans m3,A3.drawn.trans m4,A3.toks.trans m2,A3.os.trans m5,vE A3 h1 (by kernel_rfl),λp hp=>A3.look (iF h2 p hp)⟩,λN r h=>?_⟩
 ·rw[A3.size,((S1.trans S2).trans S3).n₁,m1]
  rfl
 ·refine go_top z1 ?_
  refine piece_block z2 ?_
  have:=Gf (a:=0) (n:=45) (pos:=p0) z3 (by simpa using h)
  simpa using this
noncomputable def fj:List FE:=Qu++Ro++Ri++RI++Sy++QY++Rf++So
noncomputable def xE(P:X4):List (Addr × Obj):=[(3,QQ P),(0,Yd P),(2,bS P),(1,boot_o_1 P),(4,Ye P),(5,boot_o_5 P),(6,boot_o_6 P),(7,boot_o_7 P),(8,boot_o_8 P),(9,boot_o_9 P),(10,boot_o_10 P),(12,tC 579),(13,dh),
 (39,FX),(52,we),(210,BW),(253,qy),(1448,wG),(1511,w9),(1537,wI),(1600,wb),(1677,wA),
 (38,FG P),(51,G1 P),(209,Co P),(252,qt P),(1447,wl P),(1510,wV P),(1536,wv P),(1599,vO P),(1676,vx P),
 (29,Gb),(74,G5),(222,Az),(1327,wN),(1342,vP),(1786,vY),(1787,Ez),(1782,SD)]
theorem EM{w:World}{s₀:Wp}(e: (s₀.heap,s₀.gens,s₀.drawn,s₀.toks)=(Zu w.params,Array.mk [],Xe,boot_toks)):∃s,yy w 60000 s₀ (topStub pw_ok0103_01)=some s/\Bd s₀.os 1788 2854 fj (xE w.params) s:=by
 obtain⟨s1,B1,k1⟩:=first e
 obtain⟨s2,r2,B2⟩:=fN B1 (by kernel_rfl) (by kernel_rfl) (by kernel_rfl) (Ox w s₀.os)
 obtain⟨s3,r3,B3⟩:=fN B2 (by kernel_rfl) (by kernel_rfl) (by kernel_rfl) (Om w s₀.os)
 obtain⟨s4,r4,B4⟩:=fN B3 (by kernel_rfl) (by kernel_rfl) (by kernel_rfl) (Of w s₀.os)
 obtain⟨s5,r5,B5⟩:=fN B4 (by kernel_rfl) (by kernel_rfl) (by kernel_rfl) (Qf w s₀.os)
 obtain⟨s6,r6,B6⟩:=fN B5 (by kernel_rfl) (by kernel_rfl) (by kernel_rfl) (Qk w s₀.os)
 obtain⟨s7,r7,B7⟩:=fN B6 (by kernel_rfl) (by kernel_rfl) (by kernel_rfl) (PO w s₀.os)
 obtain⟨s8,r8,B8⟩:=fN B7 (by kernel_rfl) (by kernel_rfl) (by kernel_rfl) (PF w s₀.os)
 have k:=k1 _ _ (Gf r2 (Gf r3 (Gf r4 (Gf r5 (Gf r6 (Gf r7 (Gf r8 (Dq w s8 _))))))))
 have k':=topRun_mono 11977 _ _ _ _ k
 have hx:=B8.xs
 revert hx
 generalize hxs: (QZ w.params++_:List (Addr × Obj))=xs
 intro hx
 have hk: (xE w.params).map (λp=>bI xs p.1)=(xE w.params).map (λp=>some p.2):=by subst hxs;kernel_rfl
 exact⟨s8,k',B8.size,B8.gens,B8.drawn,B8.toks,B8.os,λe he=>B8.fns e (by simp only[fj,X1]at he ⊢;simp only[he,or_comm,or_assoc,or_left_comm]at he ⊢;exact he),λp hp=>hx _ (cq (l:=xs) (iF hk p hp))⟩
noncomputable def aS:Yz:={pw_ok0103_01 with main:={pw_ok0103_01.main with body:=pw_ok0103_01.main.body.drop 217}}
noncomputable def cP:List Str:=pw_ok0103_01.boundNames.filter λx=> !(x==Wi "law")
noncomputable def hX(KE:List (Addr × Obj))(O:Nat->Obj)(n:Nat)(life:Life):Heap:=⟨((Zb n).map λa=>match bI KE a with |some o=>o|none=>O a).toArray,life⟩
theorem DU{h:Heap}{KE:List (Addr × Obj)}{n:Nat}(hn:h.objs.size=n)(H:FL h KE):h=hX KE (λa=>(h.objs[a]?).getD default) n h.life:=by
 obtain⟨objs,life⟩:=h
 unfold hX
 congr 1
 apply Array.ext
 ·simpa using hn
 ·intro i h1 h2
  simp only[WX,Xj,List.length_range]at h2
  simp only[List.getElem_toArray,List.getElem_map,List.getElem_range]
  split
  ·rename_i o e
   have:=H _ (cq (l:=KE) e)
   have g:Heap.get? ⟨objs,life⟩ i=some o:=this
   have h1':i<objs.size:=h1
   have e2:objs[i]?=some objs[i]:=a0g h1'
   unfold Heap.get? at g
   dsimp only at g
   rw[e2]at g
   revert g
   split
   ·intro g;cases g
   ·intro g;exact Wn g
  ·have h1':i<objs.size:=h1
   show objs[i]=(objs[i]?).getD default
   rw[a0g h1']
   rfl
noncomputable abbrev sE(P:X4)(O:Nat->Obj)(life:Life)(os:Xy):Wp:=⟨hX (xE P) O 1788 life,#[],Xe,2854,os⟩
noncomputable abbrev Ap:List Str:=importedModules pw_ok0103_01.main.body
section
variable(P:X4)(O:Nat->Obj)(life:Life)(os:Xy)
theorem Wb: (sE P O life os).heap.bltView=bltViewBooted:=by kernel_rfl
theorem U2: (sE P O life os).heap.isNs mainGlobals=true:=by kernel_rfl
theorem VB: (sE P O life os).heap.isNs builtinsNs=true:=by kernel_rfl
theorem UK:tablesOk aS (sE P O life os).heap=true:=by kernel_rfl
theorem UX:tabsOk aS (sE P O life os)=true:=by kernel_rfl
theorem US:pinSeenD aS (drecsOf aS) (sE P O life os)=pinGoodD (drecsOf aS):=by kernel_rfl
theorem Uv:plainSeenE aS (looseW aS cP) (sE P O life os)=plainGoodE aS (looseW aS cP):=by kernel_rfl
theorem Ut:plainSeenD aS cP (sE P O life os)=plainGoodD aS cP:=by kernel_rfl
theorem Ue:wideSeen aS (sE P O life os)=wideGood aS:=by kernel_rfl
theorem RG:clsSeenW aS cP (sE P O life os)=clsGoodW aS cP:=by kernel_rfl
theorem S8: (sE P O life os).heap.accountedOkI Ap=true:=by kernel_rfl
theorem Sf:seen ((recsOf aS).map (·.name)) (ownsOf aS) [] (sE P O life os)=expectedOf aS:=by kernel_rfl
theorem Ra: (sE P O life os).heap.keysOk (looseW aS cP) ((recsOf aS).map (·.name)) ((litsOf aS).map (·.1)) ((clssOf aS (looseW aS cP)).map (·.name))=true:=by kernel_rfl
end
noncomputable def ie(h:Heap):Prop:=∃P,(∀e∈fj,u9 h e)/\FL h (xE P)
theorem ie.keeps{h h':Heap}(x:ie h)(k:∀b o,h.get? b=some o->h'.get? b=some o):ie h':=
 let⟨P,a,b⟩:=x;⟨P,λe he=>(a e he).keep (k _) (k _),λp hp=>k _ _ (b p hp)⟩
theorem VX(P:X4): (Zu P).isNs mainGlobals=true:=by kernel_rfl
theorem V3(P:X4): (Zu P).nsMap mainGlobals "__annotations__"=some (.ref 6):=by kernel_rfl
section
variable(P:X4)(O:Nat->Obj)(life:Life)(os:Xy)
theorem VZ:staticsOk Ap (Zu P) (sE P O life os).heap=true:=by kernel_rfl
theorem en2:namesBound pw_ok0103_01 (sE P O life os).heap=true:=by kernel_rfl
theorem Wg:laidKept (Zu P) (sE P O life os).heap=true:=by kernel_rfl
end
theorem CW(P:X4)(O:Nat->Obj)(life:Life)(os:Xy):openSeen aS cP Ap (λ_=>true) true (sE P O life os)=openGood aS cP:=by
 unfold openSeen openGood
 rw[show({(sE P O life os)with gens:=#[]}:Wp)=sE P O life os from rfl,Sf,Wb,U2,VB,UK,UX,US,Uv,Ut,Ue,RG,S8,Ra]
 rfl
theorem left:LeftO pw_ok0103_01 aS cP (λ_=>true) (λs=>ie s.heap) (λ_=>True) 60000:=λw=>by
 obtain⟨s₀,h0,e⟩:=YC.mp (boot_open (p:=pw_ok0103_01) (N:=60000) (by rfl) (by rfl) (λs=>by rfl) w)
 obtain⟨s,hr,B⟩:=EM e
 have he:=e
 simp only[YI]at he
 obtain⟨e1,e2,e3,e4⟩:=he
 have hs:s=sE w.params (λa=>(s.heap.objs[a]?).getD default) s.heap.life s.os:=by
  obtain⟨h,g,d,t,o⟩:=s
  have:=DU B.size B.xs
  have h1:=B.gens
  have h2:=B.drawn
  have h3:=B.toks
  dsimp only at this h1 h2 h3 ⊢
  subst h1;subst h2;subst h3
  unfold sE
  rw[<-this]
 generalize (λa=>(s.heap.objs[a]?).getD default:Nat->Obj)=O at hs
 generalize s.heap.life=life at hs
 generalize s.os=os at hs
 have hf:ie s.heap:=⟨w.params,B.fns,B.xs⟩
 subst hs
 unfold openEnds
 rw[h0]
 simp only[Yk]
 unfold topFrom
 rw[e1,e2,VX,V3,(mH w.params).1]
 rw[show(true&&(Array.mk ([]:List GenState)).size==0)=true from rfl]
 dsimp only
 rw[show topRun treeTable pw_ok0103_01 w 11 (some (.ref 6)) 60000 s₀ (topStub pw_ok0103_01)=some _ from hr]
 simp only[Yk]
 rw[VZ w.params O life os,en2 w.params O life os,Wg w.params O life os,show gensDone (sE w.params O life os)=true from rfl]
 simp only[Bool.and_self,Option.map_some,a0j,YI]
 exact⟨CW ..,eq_true hf⟩
end Mine
end
section
open PySem PySem.W PyProof.Rows
namespace Mine
theorem ac{a b:Bool}(h: (a&&b)=true):a=true/\b=true:=by
 cases a with
 |true=>exact⟨rfl,h⟩
 |false=>exact absurd h Ww
theorem eqN_refl(a:List Nat):bp a a=true:=by
 induction a with
 |nil=>rfl
 |cons x a ih=>
  show tf (Wm x x) (bp a a) false=true
  rw[Nat.beq_refl x]
  exact ih
theorem eqN_eq{a:List Nat}:∀{b:List Nat},bp a b=true->a=b:=by
 induction a with
 |nil=>intro b h;cases b with |nil=>rfl|cons _ _=>exact absurd h Ww
 |cons x a ih=>
  intro b h
  cases b with
  |nil=>exact absurd h Ww
  |cons y b=>exact am (t:=bp a b) h aV λh k=>Wq h▸congrArg (x:: ·) (ih k)
theorem dU{a b:List Nat}:bp a b=true↔a=b:=⟨eqN_eq,λh=>h▸eqN_refl a⟩
noncomputable abbrev af(s:List Nat):Str:=⟨s.toArray⟩
theorem gM{a b:List Nat}(h:af a=af b):a=b:=congrArg (λx:Str=>x.cps.toList) h
noncomputable def VR(ι:List Addr)(h:Heap)(x:V):Value->Prop:=@V.rec (λ_=>Value->Prop) (λ_=>List Value->Prop) (λv=>v=.none) (λb v=>v=.bool b) (λi v=>∃t,v=.int i t) (λs v=>∃t,v=.str (af s) t)
 (λ_ ih v=>∃a vs,v=.ref a/\(h.IsTuple a (X0 vs)/\a∉ι)/\ih vs) (λi v=>∃a,v=.ref a/\ι[i]?=some a) (λvs=>lc vs True λ_ _=>False) (λ_ _ p q vs=>lc vs False λv r=>p v/\q r) x
noncomputable def aB(ι:List Addr)(h:Heap)(x:List V):List Value->Prop:=@V.rec_1 (λ_=>Value->Prop) (λ_=>List Value->Prop) (λv=>v=.none) (λb v=>v=.bool b) (λi v=>∃t,v=.int i t) (λs v=>∃t,v=.str (af s) t)
 (λ_ ih v=>∃a vs,v=.ref a/\(h.IsTuple a (X0 vs)/\a∉ι)/\ih vs) (λi v=>∃a,v=.ref a/\ι[i]?=some a) (λvs=>lc vs True λ_ _=>False) (λ_ _ p q vs=>lc vs False λv r=>p v/\q r) x
theorem V.ind{p:V->Prop}{q:List V->Prop}(hn:p .none)(hb:∀b,p (.bool b))(hi:∀i,p (.int i))(hs:∀s,p (.str s))(ht:∀l,q l->p (.tup l))(hr:∀i,p (.ref i))(h0:q [])(hc:∀v r,p v->q r->q (v::r)): (∀v,p v)/\∀l,q l:=
 ⟨λv=>@V.rec p q hn hb hi hs ht hr h0 hc v,λl=>@V.rec_1 p q hn hb hi hs ht hr h0 hc l⟩
section
variable{ι ι':List Addr}{h h':Heap}{P:Prop}
theorem aB.nil{vs:List Value}(H:aB ι h [] vs):vs=[]:=by cases vs with |nil=>rfl|cons _ _=>exact False.elim H
theorem aB.cons{x:V}{xs:List V}{vs:List Value}(H:aB ι h (x::xs) vs)(k:∀v r,vs=v::r->VR ι h x v->aB ι h xs r->P):P:=by cases vs with |nil=>exact False.elim H|cons v r=>exact k v r rfl (And.left H) (And.right H)
theorem aB.hd{x:V}{xs:List V}{v:Value}{vs:List Value}(H:aB ι h (x::xs) (v::vs)):VR ι h x v:=And.left H
theorem aB.tl{x:V}{xs:List V}{v:Value}{vs:List Value}(H:aB ι h (x::xs) (v::vs)):aB ι h xs vs:=And.right H
theorem aB.len{xs:List V}:∀{vs:List Value},aB ι h xs vs->xs.length=vs.length:=by
 induction xs with
 |nil=>exact λH=>congrArg a0i H.nil.symm
 |cons x xs ih=>exact λH=>H.cons λv r e _ R=>e▸congrArg WU (ih R)
theorem aB.get{xs:List V}:∀{vs:List Value} {i:Nat} {x:V},aB ι h xs vs->xs[i]?=some x->∃v,vs[i]?=some v/\VR ι h x v:=by
 induction xs with
 |nil=>exact λ_ e=>absurd e.symm ad
 |cons y xs ih=>
  intro vs i x H e
  refine H.cons λv r q V R=>?_
  subst q
  cases i with
  |zero=>exact⟨v,rfl,Wn e▸V⟩
  |succ i=>exact ih (vs:=r) R e
theorem aB.append{xs ys:List V}{ws:List Value}:∀{vs:List Value},aB ι h xs vs->aB ι h ys ws->aB ι h (xs++ys) (vs++ws):=by
 induction xs with
 |nil=>exact λH K=>H.nil▸K
 |cons y xs ih=>exact λH K=>H.cons λv r e V R=>by subst e;exact XM V (ih (vs:=r) R K)
theorem aB.take{xs:List V}:∀{vs:List Value} (n:Nat),aB ι h xs vs->aB ι h (xs.take n) (vs.take n):=by
 induction xs with
 |nil=>intro vs n H;cases H.nil;rw[List.take_nil,List.take_nil];exact trivial
 |cons y xs ih=>
  intro vs n H
  cases n with
  |zero=>exact trivial
  |succ n=>exact H.cons λv r e V R=>by subst e;exact⟨V,ih n R⟩
theorem aB.drop{xs:List V}:∀{vs:List Value} (n:Nat),aB ι h xs vs->aB ι h (xs.drop n) (vs.drop n):=by
 induction xs with
 |nil=>intro vs n H;cases H.nil;rw[List.drop_nil,List.drop_nil];exact trivial
 |cons y xs ih=>
  intro vs n H
  cases n with
  |zero=>exact H
  |succ n=>exact H.cons λv r e V R=>by subst e;exact ih n R
theorem aB.reverse{xs:List V}:∀{vs:List Value},aB ι h xs vs->aB ι h xs.reverse vs.reverse:=by
 induction xs with
 |nil=>exact λH=>H.nil▸trivial
 |cons y xs ih=>
  intro vs H
  refine H.cons λv r e V R=>?_
  rw[e,YO,YO]
  exact aB.append (ih R) ⟨V,trivial⟩
theorem VR.mono'(hι:∀(i:Nat) (a:Addr),ι[i]?=some a->ι'[i]?=some a)(hk:∀a vs,a∉ι->h.IsTuple a vs->a∉ι'/\h'.IsTuple a vs): (∀(x:V) v,VR ι h x v->VR ι' h' x v)/\∀(x:List V) v,aB ι h x v->aB ι' h' x v:=by
 refine V.ind (λ_ H=>H) (λ_ _ H=>H) (λ_ _ H=>H) (λ_ _ H=>H) (λl ih v H=>?_) (λi v H=>?_) (λvs H=>H) λx r p q vs H=>H.cons λv s e V R=>by subst e;exact⟨p v V,q s R⟩
 ·obtain⟨a,vs,e,T,R⟩:=H
  have z:=hk _ _ T.2 T.1
  exact⟨a,vs,e,⟨z.2,z.1⟩,ih vs R⟩
 ·exact Xq (λa z=>⟨z.1,hι _ _ z.2⟩) H
variable(hι:∀(i:Nat) (a:Addr),ι[i]?=some a->ι'[i]?=some a)(hk:∀a vs,a∉ι->h.IsTuple a vs->a∉ι'/\h'.IsTuple a vs)
include hι hk
theorem VR.mono{x:V}{v:Value}(H:VR ι h x v):VR ι' h' x v:=(VR.mono' hι hk).1 x v H
theorem aB.mono{x:List V}{v:List Value}(H:aB ι h x v):aB ι' h' x v:=(VR.mono' hι hk).2 x v H
end
structure Wd where
 prog:Yz
 w:World
 h0:Heap
 K:Frag
 fa:Nat->Addr
 ca:Nat->Addr
 nm:List Str
 an:List (List Nat)
 ck:Nat->Bool
theorem aB.map{ι:List Addr}{h:Heap}{f:V->V}{g:Value->Value}(k:∀x v,VR ι h x v->VR ι h (f x) (g v)){xs:List V}:∀{vs:List Value},aB ι h xs vs->aB ι h (xs.map f) (vs.map g):=by
 induction xs with
 |nil=>exact λH=>H.nil▸trivial
 |cons y xs ih=>exact λH=>H.cons λv r e V R=>by subst e;exact XM (k _ _ V) (ih R)
theorem VR.tup{ι:List Addr}{h:Heap}{l:List V}{v:Value}{P:Prop}(H:VR ι h (.tup l) v)(k:∀a vs,v=.ref a->h.IsTuple a (X0 vs)->a∉ι->aB ι h l vs->P):P:=H.elim λa z=>z.elim λvs z=>k a vs z.1 z.2.1.1 z.2.1.2 z.2.2
theorem VR.mkTup{ι:List Addr}{h:Heap}{l:List V}{vs:List Value}{a:Addr}(T:h.IsTuple a (X0 vs))(n:a∉ι)(R:aB ι h l vs):VR ι h (.tup l) (.ref a):=⟨a,vs,rfl,⟨T,n⟩,R⟩
noncomputable abbrev sK(W:Wd):KeyKind W.prog W.w Str:=strKind W.prog W.w
noncomputable abbrev iK(W:Wd):KeyKind W.prog W.w Int:=intKind W.prog W.w
noncomputable def i9(es:List (List Nat × V)):List Str:=es.map λe=>af e.1
noncomputable def xw(es:List (List Nat × V)):List V:=es.map (·.2)
noncomputable def Pr(o:Obj):Prop:=∃x y,o={cls:= .type "tuple",data:= .seq #[x,y]}
noncomputable def Ti(ι:List Addr)(o:Obj)(d:Option Nat):Prop:=@Option.rec Nat (λ_=>Prop) (o.dict=none) (λd=>∃b,o.dict=some b/\ι[d]?=some b) d
inductive LR(ι:List Addr)(h:Heap)(a:Addr)(l:List V):Prop
 |mk (z:l.length<=100001) (vs:List Value) (n:Nat) (hl:IsL h a (X0 vs) n) (R:aB ι h l vs):LR ι h a l
inductive AR(ι:List Addr)(h:Heap)(a:Addr)(l:List V):Prop
 |mk (z:l.length<=100001) (vs:List Value) (hl:h.IsList a (X0 vs)) (R:aB ι h l vs):AR ι h a l
inductive RK(W:Wd)(ι:List Addr)(h:Heap)(a:Addr)(c d:Nat):Prop
 |mk (o:Obj) (b:Addr) (g:h.get? a=some o) (hc:o.cls=.ref (W.ca c)) (hd:o.dict=some b) (pl:o.data=.plain) (id:ι[d]?=some b) (ck:W.ck c=true):RK W ι h a c d
inductive XR(W:Wd)(ι:List Addr)(h:Heap)(a:Addr)(d:Option Nat):Prop
 |mk (o:Obj) (t:Addr) (g:h.get? a=some o) (hc:o.cls=.ref (W.ca 2)) (hd:o.data=.fields #[.ref t,.none,.none,.none,.bool false,.none]) (e:Ti ι o d):XR W ι h a d
inductive DR(W:Wd)(ι:List Addr)(h:Heap)(a:Addr)(es:List (List Nat × V)):Prop
 |mk (vs:List Value) (D:h.DictOf (sK W) a ((i9 es).zip vs)) (R:aB ι h (xw es) vs):DR W ι h a es
noncomputable def OR(W:Wd)(ι:List Addr)(h:Heap)(a:Addr)(o:O):Prop:=@O.rec (λ_=>Prop) (LR ι h a) (RK W ι h a) (DR W ι h a) (λks=>h.DictOf (iK W) a (ks.map λk=>(k,YT true))) (AR ι h a) (XR W ι h a) (∃p,h.get? a=some p/\Pr p) o
noncomputable def hF(ι:List Addr)(h:Heap)(ι':List Addr)(h':Heap):Prop:=∀a vs,a∉ι->h.IsTuple a vs->a∉ι'/\h'.IsTuple a vs
theorem dictAt{K:Type}[DecidableEq K]{p:Yz}{w:World}{kd:PySem.KeyKind p w K}{h:Heap}{a:Addr}{m:List (K × Value)}(x:h.DictOf kd a m):∃o,h.get? a=some o/\(∃es n,o.data=.dict es n)/\∀h':Heap,h'.get? a=some o->h'.DictOf kd a m:=by
 obtain⟨q,e,p,hq,hx,hd,r⟩:=x
 exact⟨q,hq,⟨e,p,hd⟩,λh' g=>⟨q,e,p,g,hx,hd,r⟩⟩
theorem OR.mono{W:Wd}{ι ι':List Addr}{h h':Heap}{a:Addr}{o:O}(x:OR W ι h a o)(hι:∀(i:Nat) (a:Addr),ι[i]?=some a->ι'[i]?=some a)(hk:∀o,h.get? a=some o->h'.get? a=some o)
  (ht:hF ι h ι' h'):OR W ι' h' a o:=by
 cases o with
 |lst l=>cases x with |mk z vs n hq v=>exact .mk z vs n (hk _ hq) (v.mono hι ht)
 |arg l=>cases x with |mk z vs hq v=>exact .mk z vs (hq.imp λ_ q=>⟨hk _ q.1,q.2⟩) (v.mono hι ht)
 |inst c d=>cases x with |mk q b hq h1 h2 h3 h4 h5=>exact .mk q b (hk _ hq) h1 h2 h3 (hι _ _ h4) h5
 |exc d=>
  cases x with |mk q t hq h1 h2 h3=>
  refine .mk q t (hk _ hq) h1 h2 ?_
  cases d with
  |none=>exact h3
  |some d=>exact Xq (λb g=>⟨g.1,hι _ _ g.2⟩) h3
 |sd es=>cases x with |mk vs D v=>exact(dictAt D).elim λo z=>.mk vs (z.2.2 h' (hk _ z.1)) (v.mono hι ht)
 |nd ks=>exact(dictAt x).elim λo z=>z.2.2 h' (hk _ z.1)
 |tmp=>exact Xq (λp z=>⟨hk _ z.1,z.2⟩) x
theorem eY{α:Type}{l:List α}(h:l.Nodup){i j:Nat}(hi:i<l.length)(hj:j<l.length)(e:l[i]=l[j]):i=j:=by
 rcases Nat.lt_trichotomy i j with k|k|k
 ·exact absurd e (a0h.mp h i j hi hj k)
 ·exact k
 ·exact absurd e.symm (a0h.mp h j i hj hi k)
structure ay(W:Wd)(ι:List Addr)(σ:St)(h:Heap):Prop where
 len:ι.length=σ.length
 nd:ι.Nodup
 big:∃o,W.h0.get? sysModules=some o
 up:∀(i:Nat) (o:O) (a:Addr),a6 σ i=some o->ι[i]?=some a->(∀l,o≠O.arg l)->W.h0.get? a=none
 base:∀b o,W.h0.get? b=some o->h.get? b=some o
 obj:∀(i:Nat) (o:O) (a:Addr),a6 σ i=some o->ι[i]?=some a->OR W ι h a o
theorem ay.at{W:Wd}{ι:List Addr}{σ:St}{h:Heap}(x:ay W ι σ h){i:Nat}{o:O}(e:a6 σ i=some o):∃a,ι[i]?=some a/\OR W ι h a o:=by
 have hl:i<σ.length:=by rw[aj]at e;exact(Wv.mp e).1
 have hl':i<ι.length:=by rw[x.len];exact hl
 refine⟨ι[i],Wt hl',x.obj i o _ e (Wt hl')⟩
theorem Pr.cls{p:Obj}(x:Pr p):p.cls=.type "tuple":=by obtain⟨_,_,rfl⟩:=x;rfl
theorem Pr.dat{p:Obj}(x:Pr p):∃a,p.data=.seq a:=by obtain⟨_,_,rfl⟩:=x;exact⟨_,rfl⟩
theorem OR.is{W:Wd}{ι:List Addr}{h:Heap}{a:Addr}{o:O}(x:OR W ι h a o):∃p,h.get? a=some p/\(o≠.tmp->¬ Pr p):=by
 have nt:∀{p:Obj},p.cls=.type "list"->¬ Pr p:=λe z=>absurd (e.symm.trans z.cls) (by simp)
 have nr:∀{p:Obj} {b:Addr},p.cls=.ref b->¬ Pr p:=λe z=>nomatch e.symm.trans z.cls
 have nd:∀{p:Obj},(∃es n,p.data=.dict es n)->¬ Pr p:=λe z=>e.elim λ_ e=>e.elim λ_ e=>z.dat.elim λ_ q=>nomatch e.symm.trans q
 cases o with
 |lst l=>cases x with |mk z vs n hq v=>exact⟨_,hq,λ_=>nt rfl⟩
 |arg l=>cases x with |mk z vs hq v=>exact hq.imp λq z=>⟨z.1,λ_=>nt z.2.1⟩
 |inst c d=>cases x with |mk q b hq hc=>exact⟨q,hq,λ_=>nr hc⟩
 |exc d=>cases x with |mk q t hq hc=>exact⟨q,hq,λ_=>nr hc⟩
 |sd es=>cases x with |mk vs D v=>exact(dictAt D).imp λo z=>⟨z.1,λ_=>nd z.2.1⟩
 |nd ks=>exact(dictAt x).imp λo z=>⟨z.1,λ_=>nd z.2.1⟩
 |tmp=>exact Xq (λp z=>⟨z.1,λn=>absurd rfl n⟩) x
theorem OR.there{W:Wd}{ι:List Addr}{h:Heap}{a:Addr}{o:O}(x:OR W ι h a o):∃p,h.get? a=some p:=x.is.imp λ_ z=>z.1
theorem OR.notPr{W:Wd}{ι:List Addr}{h:Heap}{a:Addr}{o:O}(x:OR W ι h a o)(ne:o≠.tmp){p:Obj}(hp:h.get? a=some p): ¬ Pr p:=x.is.elim λ_ z=>Wn (z.1.symm.trans hp)▸z.2 ne
theorem ay.id{W:Wd}{ι:List Addr}{σ:St}{h:Heap}(x:ay W ι σ h){a:Addr}(ha:a∈ι):∃i o,a6 σ i=some o/\ι[i]?=some a:=by
 obtain⟨i,hi,e⟩:=ZB.mp ha
 exact⟨i,_,(aj ..).trans (Wt (x.len▸hi)),e▸Wt hi⟩
theorem ay.have{W:Wd}{ι:List Addr}{σ:St}{h:Heap}(x:ay W ι σ h){a:Addr}(ha:a∈ι):∃o,h.get? a=some o:=by
 obtain⟨i,o,e1,e2⟩:=x.id ha
 exact(x.obj i o a e1 e2).there
theorem ay.noTup{W:Wd}{ι:List Addr}{σ:St}{h:Heap}(x:ay W ι σ h){b:Addr}{vs:Array Value}(t:W.h0.IsTuple b vs):b∉ι:=λhb=>by
 obtain⟨i,o,e1,e2⟩:=x.id hb
 obtain⟨p,hp,hc,_⟩:=t
 have ob:=x.obj i o b e1 e2
 have oth: (∀l,o≠O.arg l)->False:=λn=>ka (x.up i o b e1 e2 n) hp
 cases o with
 |arg l=>
  cases ob with |mk z vs hl v=>
  obtain⟨q,hq,hc',_⟩:=hl
  cases(x.base _ _ hp).symm.trans hq
  exact absurd (hc.symm.trans hc') (by simp)
 |_=>exact oth λ_ z=>nomatch z
theorem ay.keep{W:Wd}{ι:List Addr}{σ:St}{h h':Heap}(x:ay W ι σ h)(hk:∀a∈ι,∀o,h.get? a=some o->h'.get? a=some o)(ht:hF ι h ι h')
  (hb:∀b o,W.h0.get? b=some o->h.get? b=some o->h'.get? b=some o):ay W ι σ h':=
 ⟨x.len,x.nd,x.big,x.up,λb o e=>hb b o e (x.base b o e),λi o a e1 e2=>(x.obj i o a e1 e2).mono (λ_ _ e=>e) (hk a (WN e2)) ht⟩
theorem ic{ι:List Addr}{h h':Heap}(k:∀b o,h.get? b=some o->h'.get? b=some o):hF ι h ι h':=λ_ _ hn ⟨o,ho,r⟩=>⟨hn,o,k _ _ ho,r⟩
theorem ay.keeps{W:Wd}{ι:List Addr}{σ:St}{h h':Heap}(x:ay W ι σ h)(k:∀b o,h.get? b=some o->h'.get? b=some o):ay W ι σ h':=
 x.keep (λa _ o e=>k a o e) (ic k) (λb o _ e=>k b o e)
theorem ay.out{W:Wd}{ι:List Addr}{σ:St}{h:Heap}(x:ay W ι σ h){a:Addr}(e:h.get? a=none):a∉ι:=λhm=>by
 obtain⟨p,hp⟩:=x.have hm
 rw[e]at hp;cases hp
theorem ay.free{W:Wd}{ι:List Addr}{σ:St}{h:Heap}(x:ay W ι σ h){a:Addr}(e:h.get? a=none):W.h0.get? a=none:=by
 cases q:W.h0.get? a with
 |none=>rfl
 |some o=>rw[x.base a o q]at e;cases e
theorem lx{ι:List Addr}{σ:St}{i:Nat}{a b:Addr}{o p:O}{P:Prop}(l:ι.length=σ.length)(e1:a6 (σ++[o]) i=some p)(e2: (ι++[a])[i]?=some b)(old:a6 σ i=some p->ι[i]?=some b->P)(new:o=p->a=b->P):P:=by
 rw[aj]at e1 old
 rcases Xl i σ.length with hi|hi
 ·rw[WE hi]at e1
  rw[WE (l▸hi)]at e2
  exact old e1 e2
 ·rw[WQ hi]at e1
  rw[WQ (l▸hi),l]at e2
  have hz:=Nat.lt_one_iff.mp (Wv.mp e1).1
  rw[hz]at e1 e2
  exact new (Wn e1) (Wn e2)
theorem ay.new{W:Wd}{ι:List Addr}{σ:St}{h h':Heap}{a:Addr}{o:O}(x:ay W ι σ h)(k:∀b o,h.get? b=some o->h'.get? b=some o)(hs:h.get? a=none)
  (ho:OR W (ι++[a]) h' a o):ay W (ι++[a]) (σ++[o]) h':=by
 have y:=x.keeps k
 have no:=x.out hs
 refine⟨by rw[Wu,Wu,x.len];rfl,Zl.mpr ⟨x.nd,(by simp),λb hb c hc e=>no (WF.mp hc▸e▸hb)⟩,x.big,λi p b e1 e2 na=>?_,y.base,λi p b e1 e2=>?_⟩
 ·exact lx x.len e1 e2 (λe1 e2=>x.up i p b e1 e2 na) λ_ e=>e▸x.free hs
 ·refine lx x.len e1 e2 (λe1 e2=>(x.obj i p b e1 e2).mono (λj c e=>(WE (Wv.mp e).1).trans e) (λ_ e=>k _ _ e) λc vs hc ht=>?_) λep eb=>ep▸eb▸ho
  obtain⟨q,hq,r⟩:=ht
  exact⟨λhm=>(X1.mp hm).elim hc λhm=>ka hs (WF.mp hm▸hq),q,k _ _ hq,r⟩
theorem zM{ι:List Addr}{σ:St}{i j:Nat}{a b:Addr}{o p:O}{P:Prop}(nd:ι.Nodup)(e:ι[i]?=some a)(e1:a6 (az σ i o) j=some p)(e2:ι[j]?=some b)(old:b≠a->a6 σ j=some p->P)(new:i=j->o=p->a=b->P):P:=by
 rw[aj,cC]at e1
 rw[aj]at old
 rcases Nat.decEq i j with n|q
 ·rw[ZC n]at e1
  refine old (λq=>n ?_) e1
  obtain⟨h1,h2⟩:=Wv.mp e
  obtain⟨h3,h4⟩:=Wv.mp e2
  exact eY nd h1 h3 (h2.trans (q.symm.trans h4.symm))
 ·subst q
  rw[List.getElem?_set_self (List.length_set▸(Wv.mp e1).1)]at e1
  exact new rfl (Wn e1) (Wn (e.symm.trans e2))
theorem ay.set{W:Wd}{ι:List Addr}{σ:St}{h h':Heap}{i:Nat}{a:Addr}{o o':O}(x:ay W ι σ h)(e:a6 σ i=some o)(ea:ι[i]?=some a)(hs:WY a h h')(ho:OR W ι h' a o')(na:∀l,o≠O.arg l):
  ay W ι (az σ i o') h':=by
 have ht:hF ι h ι h':=λt vs hn ⟨p,hp,r⟩=>⟨hn,p,(hs.2 t (λq=>hn (q▸WN ea))).trans hp,r⟩
 have u0:=x.up i o a e ea na
 refine⟨by rw[cC,List.length_set,x.len],x.nd,x.big,λj p b e1 e2 np=>zM x.nd ea e1 e2 (λ_ e1=>x.up j p b e1 e2 np) λ_ _ e=>e▸u0,λb p hb=>(hs.2 b λq=>ka u0 (q▸hb)).trans (x.base b p hb),λj p b e1 e2=>?_⟩
 exact zM x.nd ea e1 e2 (λn e1=>(x.obj j p b e1 e2).mono (λ_ _ e=>e) (λq hq=>(hs.2 b n).trans hq) ht) λ_ ep eb=>ep▸eb▸ho
structure Ev(X:Addr->Prop)(ι:List Addr)(h:Heap)(ι':List Addr)(h':Heap):Prop where
 pre:∀(i:Nat) (a:Addr),ι[i]?=some a->ι'[i]?=some a
 keep:∀a o,h.get? a=some o->a∉ι->¬ X a->h'.get? a=some o
 fresh:∀a∈ι',a∈ι\/h.get? a=none
 tup:hF ι h ι' h'
 there:∀a o,h.get? a=some o->∃o',h'.get? a=some o'/\(∀es n,o.data=.dict es n->∃es' n',o'.data=.dict es' n')/\(Pr o->Pr o')
noncomputable abbrev No:Addr->Prop:=λ_=>False
theorem Ev.refl(X:Addr->Prop)(ι:List Addr)(h:Heap):Ev X ι h ι h:=⟨λ_ _ e=>e,λ_ _ e _ _=>e,λ_ ha=>.inl ha,λ_ _ hn e=>⟨hn,e⟩,λ_ o e=>⟨o,e,λes n d=>⟨es,n,d⟩,id⟩⟩
theorem Ev.gone{X:Addr->Prop}{ι ι':List Addr}{h h':Heap}(x:Ev X ι h ι' h'){a:Addr}(e:h'.get? a=none):h.get? a=none:=by
 cases q:h.get? a with
 |none=>rfl
 |some o=>obtain⟨o',e',_⟩:=x.there a o q;rw[e]at e';cases e'
theorem Ev.trans{X:Addr->Prop}{ι ι₁ ι₂:List Addr}{h h₁ h₂:Heap}(x:Ev X ι h ι₁ h₁)(y:Ev X ι₁ h₁ ι₂ h₂):Ev X ι h ι₂ h₂:=by
 refine⟨λi a e=>y.pre i a (x.pre i a e),λa o e hn hX=>y.keep a o (x.keep a o e hn hX) (λhm=>(x.fresh a hm).elim hn λq=>by rw[q]at e;cases e) hX,λa ha=>?_,
  λa vs hn e=>y.tup a vs (x.tup a vs hn e).1 (x.tup a vs hn e).2,λa o e=>?_⟩
 ·rcases y.fresh a ha with h1|h2
  ·exact x.fresh a h1
  ·exact .inr (x.gone h2)
 ·obtain⟨o',e',d',r'⟩:=x.there a o e
  obtain⟨o'',e'',d'',r''⟩:=y.there a o' e'
  exact⟨o'',e'',λes n d=>(by obtain⟨es',n',q⟩:=d' es n d;exact d'' es' n' q),λq=>r'' (r' q)⟩
theorem Ev.mono{X Y:Addr->Prop}{ι ι':List Addr}{h h':Heap}(x:Ev X ι h ι' h')(k:∀a,X a->Y a):Ev Y ι h ι' h':=
 ⟨x.pre,λa o e hn hY=>x.keep a o e hn λhX=>hY (k a hX),x.fresh,x.tup,x.there⟩
theorem Ev.drop{X Y:Addr->Prop}{ι ι':List Addr}{h h':Heap}(x:Ev X ι h ι' h')(k:∀a,X a->Y a\/h.get? a=none):Ev Y ι h ι' h':=
 ⟨x.pre,λa o e hn hY=>x.keep a o e hn λhX=>(k a hX).elim hY λq=>(by rw[q]at e;cases e),x.fresh,x.tup,x.there⟩
theorem gm{h h':Heap}(k:∀b o,h.get? b=some o->h'.get? b=some o):∀a o,h.get? a=some o->∃o',h'.get? a=some o'/\(∀es n,o.data=.dict es n->∃es' n',o'.data=.dict es' n')/\(Pr o->Pr o'):=
 λa o e=>⟨o,k a o e,λes n d=>⟨es,n,d⟩,id⟩
theorem Ev.keeps(X:Addr->Prop)(ι:List Addr){h h':Heap}(k:∀b o,h.get? b=some o->h'.get? b=some o):Ev X ι h ι h':=
 ⟨λ_ _ e=>e,λa o e _ _=>k a o e,λ_ ha=>.inl ha,ic k,gm k⟩
theorem Ev.new(X:Addr->Prop)(ι:List Addr){h h':Heap}{a:Addr}(k:∀b o,h.get? b=some o->h'.get? b=some o)(ha:h.get? a=none):Ev X ι h (ι++[a]) h':=
 ⟨λi b e=>by rw[WE (Wv.mp e).1];exact e,λa o e _ _=>k a o e,
  λb hb=>(X1.mp hb).elim .inl λq=>.inr (by simp only[WF]at q;subst q;exact ha),
  λb vs hn ⟨o,ho,r⟩=>⟨λhm=>(X1.mp hm).elim hn λq=>(by simp only[WF]at q;subst q;rw[ha]at ho;cases ho),o,k _ _ ho,r⟩,gm k⟩
theorem Ev.set{W:Wd}{σ:St}(X:Addr->Prop){ι:List Addr}{h h':Heap}{i:Nat}{a:Addr}{o:O}(x:ay W ι σ h)(e:a6 σ i=some o)(ea:ι[i]?=some a)(hs:WY a h h')
  {p':Obj}(hp:h'.get? a=some p')(hd:∀p es n,h.get? a=some p->p.data=.dict es n->∃es' n',p'.data=.dict es' n')(ne:o≠.tmp:=by intro q;cases q):Ev X ι h ι h':=by
 refine⟨λ_ _ e=>e,λb p hb hn _=>(hs.2 b λq=>hn (q▸WN ea)).trans hb,λ_ ha=>.inl ha,?_,λb p hb=>?_⟩
 ·exact λt vs hn ⟨p,hp,r⟩=>⟨hn,p,(hs.2 t (λq=>hn (q▸WN ea))).trans hp,r⟩
 ·by_cases q:b=a
  ·subst q;exact⟨p',hp,λes n d=>hd p es n hb d,λr=>absurd r ((x.obj i o _ e ea).notPr ne hb)⟩
  ·exact⟨p,(hs.2 b q).trans hb,λes n d=>⟨es,n,d⟩,id⟩
theorem aw(h:Heap):h.get? h.objs.size=none:=YU (WO _)
noncomputable def Sm(s s':Wp):Prop:=∃h t,s'={s with heap:=h,toks:=t}
theorem Sm.refl(s:Wp):Sm s s:=⟨_,_,rfl⟩
theorem Sm.trans{s s₁ s₂:Wp}(x:Sm s s₁)(y:Sm s₁ s₂):Sm s s₂:=by
 obtain⟨h,t,rfl⟩:=x
 obtain⟨h',t',rfl⟩:=y
 exact⟨_,_,rfl⟩
theorem Sm.mk'(s:Wp)(h:Heap)(t:Tok):Sm s {s with heap:=h,toks:=t}:=⟨_,_,rfl⟩
theorem Sm.heap(s:Wp)(h:Heap):Sm s {s with heap:=h}:=⟨h,s.toks,rfl⟩
theorem Sm.tok(s:Wp)(t:Tok):Sm s {s with toks:=t}:=⟨s.heap,t,rfl⟩
noncomputable def pd(v:V):YV:=@V.rec (λ_=>YV) (λ_=>List YV) .none .bool .int (λs=>.str (af s)) (λ_ l=>.tuple l) (λ_=>.none) [] (λ_ _ a l=>a::l) v
noncomputable def kS(v:List V):List YV:=@V.rec_1 (λ_=>YV) (λ_=>List YV) .none .bool .int (λs=>.str (af s)) (λ_ l=>.tuple l) (λ_=>.none) [] (λ_ _ a l=>a::l) v
theorem fnt{P:Prop}(h:false=true):P:=absurd h Ww
theorem Po{a b:Bool}(h:tf a b false=true):a=true/\b=true:=am h aV .intro
theorem br{v:V}{r:List V}(h:aG (v::r)=true):plain v=true/\aG r=true:=Po h
theorem Dv{s:List Nat}:oK s=true->∀c∈s,c<55296:=by
 induction s with
 |nil=>exact λ_ c h=>absurd h WT
 |cons x r ih=>
  intro e c h
  have z:=Po (b:=oK r) e
  rcases WJ.mp h with rfl|h
  ·exact Wl z.1
  ·exact ih z.2 c h
theorem vX: (∀v:V,plain v=true->(pd v).canLay0=true)/\∀v:List V,aG v=true->Yr (kS v)=true:=by
 refine V.ind (λ_=>rfl) (λ_ _=>rfl) (λ_ _=>rfl) (λs h=>?_) (λl ih h=>ih h) (λ_=>fnt) (λ_=>rfl) λv r a b h=>?_
 ·show YV.strOk (af s)=true
  unfold YV.strOk
  rw[List.all_toArray,Xi]
  exact λc hc=>decide_eq_true (WV (Dv h c hc) (by decide))
 ·show(YV.canLay0 (pd v)&&Yr (kS r))=true
  rw[a (br h).1,b (br h).2]
  rfl
theorem lY{v:V}(h:plain v=true): (pd v).canLay0=true:=vX.1 v h
theorem qj{v:List V}(h:aG v=true):Yr (kS v)=true:=vX.2 v h
theorem oB: (∀v:V,(pd v).depth=F5 v)/\∀v:List V,Y8 (kS v)=jd v:=
 V.ind rfl (λ_=>rfl) (λ_=>rfl) (λ_=>rfl) (λl ih=>congrArg (· + 1) ih) (λ_=>rfl) rfl λv r a b=>by
  show max (YV.depth (pd v)) (Y8 (kS r))=max (F5 v) (jd r)
  rw[a,b]
theorem jj{v:V}: (pd v).depth=F5 v:=oB.1 v
theorem o8{v:List V}:Y8 (kS v)=jd v:=oB.2 v
theorem wm: (∀a:V,∀b,plain a=true->plain b=true->Ys (pd a) (pd b)=ny a b)/\∀x:List V,∀y,aG x=true->aG y=true->YV.eqvAll (kS x) (kS y)=BG x y:=by
 refine V.ind (λb _ k=>?_) (λa b _ k=>?_) (λi b _ k=>?_) (λx b _ k=>?_) (λx ih b h k=>?_) (λ_ _=>fnt) (λy _ _=>?_) λv r a c y h k=>?_
 ·cases b<;>first|rfl|exact fnt k
 ·cases b with
  |bool c=>cases a<;>cases c<;>rfl
  |ref _=>exact fnt k
  |int _=>cases a<;>rfl
  |_=>rfl
 ·cases b<;>first|exact fnt k|rfl| (rename_i b;cases b<;>rfl)
 ·cases b with
  |str y=>
   show(af x==af y)=bp x y
   cases q:bp x y with
   |true=>rw[eqN_eq q];exact beq_self_eq_true _
   |false=>exact beq_eq_false_iff_ne.mpr λe=>Ww (q.symm.trans (dU.mpr (gM e)))
  |ref _=>exact fnt k
  |_=>rfl
 ·cases b with
  |tup y=>exact ih y h k
  |ref _=>exact fnt k
  |_=>rfl
 ·cases y<;>rfl
 ·cases y with
  |nil=>rfl
  |cons w s=>
   show(Ys (pd v) (pd w)&&YV.eqvAll (kS r) (kS s))=tf (ny v w) (BG r s) false
   rw[a w (br h).1 (br k).1,c s (br h).2 (br k).2]
   cases ny v w<;>rfl
theorem uE{a b:V}(h:plain a=true)(k:plain b=true):Ys (pd a) (pd b)=ny a b:=wm.1 a b h k
theorem Eh{a b:List V}(h:aG a=true)(k:aG b=true):YV.eqvAll (kS a) (kS b)=BG a b:=wm.2 a b h k
theorem Ay{ι:List Addr}{h:Heap}: (∀x:V,∀v,VR ι h x v->plain x=true->Reads h v (pd x) [])/\∀x:List V,∀v,aB ι h x v->aG x=true->ReadsAll h v (kS x) []:=by
 refine V.ind (λ_ H _=>?_) (λ_ _ H _=>?_) (λ_ _ H _=>?_) (λ_ _ H _=>?_) (λl ih v H p=>?_) (λ_ _ _=>fnt) (λv H _=>H.nil▸ .nil) λv r a b vs H p=>H.cons λu s e V R=>e▸ .cons (a u V (br p).1) (b s R (br p).2)
 ·cases H;exact .none
 ·cases H;exact .bool _
 ·obtain⟨_,rfl⟩:=H;exact .int _ _
 ·obtain⟨_,rfl⟩:=H;exact .str _ _
 ·obtain⟨a,vs,rfl,T,R⟩:=H
  obtain⟨o,ho,hc,n,hd⟩:=T.1
  exact .tuple ho hc hd (ih vs R p)
theorem VR.reads{ι:List Addr}{h:Heap}{x:V}{v:Value}(H:VR ι h x v)(p:plain x=true):Reads h v (pd x) []:=Ay.1 x v H p
theorem aB.reads{ι:List Addr}{h:Heap}{x:List V}{v:List Value}(H:aB ι h x v)(p:aG x=true):ReadsAll h v (kS x) []:=Ay.2 x v H p
inductive EP{α β:Type}(W:Wd)(X:Addr->Prop)(ι:List Addr)(s:Wp)(r:R α)(rel:List Addr->Heap->α->β->Prop)(v:β)(s':Wp):Prop
 |mk (x:α) (σ':St) (ι':List Addr):r=.ok x σ'->ay W ι' σ' s'.heap->Ev X ι s.heap ι' s'.heap->Sm s s'->rel ι' s'.heap x v->EP W X ι s r rel v s'
theorem EP.here{α β:Type}{W:Wd}{X:Addr->Prop}{ι:List Addr}{σ:St}{s:Wp}{r:R α}{rel:List Addr->Heap->α->β->Prop}{v:β}{x:α}(I:ay W ι σ s.heap)(e:r=.ok x σ)
  (k:rel ι s.heap x v)(t:Tok):EP W X ι s r rel v {s with toks:=t}:=⟨x,σ,ι,e,I,Ev.refl ..,Sm.tok s t,k⟩
theorem EP.here'{α β:Type}{W:Wd}{X:Addr->Prop}{ι:List Addr}{σ:St}{s:Wp}{r:R α}{rel:List Addr->Heap->α->β->Prop}{v:β}{x:α}(I:ay W ι σ s.heap)(e:r=.ok x σ)
  (k:rel ι s.heap x v):EP W X ι s r rel v s:=EP.here I e k s.toks
noncomputable def opOf(o:Op):a0z:=@Op.rec (λ_=>a0z) .Add .Sub .Mult .FloorDiv .Mod .Pow .LShift .RShift .BitAnd .BitOr .BitXor o
theorem yr{i:Int}(h:ia i=true):i.natAbs<2 ^ 64:=by
 have a:=of_decide_eq_true (ac h).1
 have b:=of_decide_eq_true (ac h).2
 omega
theorem nc{a b:Int}(ha: 0<=a)(hb: 0<=b):XD.bitAnd a b=Yj (a.toNat&&& b.toNat):=by
 obtain⟨n,rfl⟩:=Y5 ha
 obtain⟨m,rfl⟩:=Y5 hb
 rfl
theorem oV{a b:Int}(ha: 0<=a)(hb: 0<=b):XD.bitOr a b=Yj (a.toNat|||b.toNat):=by
 obtain⟨n,rfl⟩:=Y5 ha
 obtain⟨m,rfl⟩:=Y5 hb
 have e1:∀k:Nat,a05 (k:Int)= -(k:Int)-1:=λ_=>rfl
 have e2:∀k:Nat,a05 (-(k:Int)-1)=k:=λk=>by show -(-(k:Int)-1)-1=_;omega
 unfold XD.bitOr XD.bitAnd
 rw[e1,e1,decide_eq_false (by omega),decide_eq_false (by omega)]
 dsimp only
 rw[e2,e2]
 show a05 (a05 ((n|||m:Nat):Int))=_
 rw[e1,e2]
 rfl
theorem tU{a b:Int}(ha: 0<=a)(hb: 0<=b):XD.bitXor a b=Yj (a.toNat|||b.toNat)-Yj (a.toNat&&& b.toNat):=by
 unfold XD.bitXor
 rw[oV ha hb,nc ha hb]
section
variable{W:Wd}{A:X7}{E:Value->Wp->Prop}{s:Wp}{ι:List Addr}{σ:St}
theorem tc{op:Op}{a b c:Int}{t u:Tok}{Q:Value->Wp->Prop}(e:C6 op a b=some c)(h:∀t' tk,Q (.int c t') {s with toks:=tk}):
  wpAny (model W.prog W.w) A (binaryOp (opOf op) (.int a t) (.int b u)) Q E s:=by
 have og2:∀{q:Bool} {x:Int} {P:Prop},og q x=some c->(q=true->(∀t' tk,Q (.int x t') {s with toks:=tk})->P)->P:=λ{q x P} e k=>am e ad λhq e=>k hq (Wn e▸h)
 have d:∀{p:Prop} [Decidable p],decide p=true->p:=of_decide_eq_true
 cases op with
 |add=>exact add_int (Wn e▸h _ _)
 |sub=>exact sub_int (Wn e▸h _ _)
 |mul=>exact og2 e λq h=>PyProof.Rows.mul_int (h _ _) (IntMulOk.of_left (intBits_le (yr (ac q).1)))
 |fdiv=>exact og2 e λq h=>floordiv_int (d (ac q).1) (h _ _) (Or.inl (PyProof.noPylong_small (by have a:=d (ac (ac q).2).1;have b:=d (ac (ac q).2).2;omega)))
 |mod=>exact og2 e λq h=>mod_int (d q) (h _ _)
 |pow=>exact og2 e λq h=>d (ac q).1▸pow_int_small (d (ac (ac q).2).1) (ZV (Int.le_of_lt (d (ac (ac q).2).2)) (by decide)) (by decide) (h _ _)
 |shl=>
  refine og2 e λq h=>d (ac q).1▸lshift_int_small (d (ac (ac q).2).1) (ZV (Int.le_of_lt (d (ac (ac q).2).2)) (by decide)) (by decide) ?_
  rw[Int.one_mul];exact h _ _
 |shr=>exact og2 e λq h=>rshift_int (d (ac (ac (ac q).2).2).1) (h _ _)
 |band=>
  refine og2 e λq h=>and_int ?_
  rw[nc (d (ac q).1) (d (ac (ac q).2).1)];exact h _ _
 |bor=>
  refine og2 e λq h=>or_int ?_
  rw[oV (d (ac q).1) (d (ac (ac q).2).1)];exact h _ _
 |bxor=>
  refine og2 e λq h=>xor_int ?_
  rw[tU (d (ac q).1) (d (ac (ac q).2).1)];exact h _ _
theorem tL{a b:Int}{t u:Tok}{Q:Value->Wp->Prop}(h:∀t' tk,Q (.int (a+b) t') {s with toks:=tk}):
  wpAny (model W.prog W.w) A (inplaceOp .Add (.int a t) (.int b u)) Q E s:=PyProof.Rows.iadd_int (h _ _)
theorem aB.up{ι ι':List Addr}{h h':Heap}{xs:List V}{vs:List Value}(x:aB ι h xs vs){X:Addr->Prop}(e:Ev X ι h ι' h'):aB ι' h' xs vs:=x.mono e.pre e.tup
theorem VR.up{ι ι':List Addr}{h h':Heap}{x:V}{v:Value}(k:VR ι h x v){X:Addr->Prop}(e:Ev X ι h ι' h'):VR ι' h' x v:=k.mono e.pre e.tup
theorem aq(h:Heap)(o:Obj):∀b p,h.get? b=some p->(h.push o).get? b=some p:=λ_ _ e=>Wr o e
theorem aP{α:Type}(l:List α)(a:α): (l++[a])[l.length]?=some a:=by simp
theorem new_list(X:Addr->Prop){h:Heap}{l:List V}{vs:List Value}(I:ay W ι σ h)(hl:l.length<=100001)(V:aB ι h l vs):
  ay W (ι++[h.objs.size]) (σ++[.lst l]) (h.push {cls:= .type "list",data:= .seq vs.toArray})/\
  Ev X ι h (ι++[h.objs.size]) (h.push {cls:= .type "list",data:= .seq vs.toArray})/\
  VR (ι++[h.objs.size]) (h.push {cls:= .type "list",data:= .seq vs.toArray}) (.ref σ.length) (.ref h.objs.size):=by
 have k:=aq h {cls:= .type "list",data:= .seq vs.toArray}
 have ev:Ev X ι h (ι++[h.objs.size]) (h.push {cls:= .type "list",data:= .seq vs.toArray}):=Ev.new X ι k (aw h)
 refine⟨I.new k (aw h) (LR.mk hl vs 0 (IsL.new _ _) (V.up ev)),ev,⟨_,rfl,?_⟩⟩
 rw[<-I.len]
 exact aP _ _
theorem pe(X:Addr->Prop){h h':Heap}{l:List V}{vs:List Value}{a:Addr}{n:Nat}(I:ay W ι σ h)(hl:l.length<=100001)(V:aB ι h l vs)(k:∀b o,h.get? b=some o->h'.get? b=some o)
  (hn:h.get? a=none)(hL:IsL h' a (X0 vs) n):ay W (ι++[a]) (σ++[.lst l]) h'/\Ev X ι h (ι++[a]) h'/\VR (ι++[a]) h' (.ref σ.length) (.ref a):=by
 have ev:Ev X ι h (ι++[a]) h':=Ev.new X ι k hn
 refine⟨I.new k hn (LR.mk hl vs n hL (V.up ev)),ev,⟨_,rfl,?_⟩⟩
 rw[<-I.len]
 exact aP _ _
theorem lB(X:Addr->Prop){h:Heap}{l:List V}{vs:List Value}(I:ay W ι σ h)(V:aB ι h l vs):
  ay W ι σ (h.push {cls:= .type "tuple",data:= .seq vs.toArray})/\Ev X ι h ι (h.push {cls:= .type "tuple",data:= .seq vs.toArray})/\
  VR ι (h.push {cls:= .type "tuple",data:= .seq vs.toArray}) (.tup l) (.ref h.objs.size):=by
 have k:=aq h {cls:= .type "tuple",data:= .seq vs.toArray}
 have ev:Ev X ι h ι (h.push {cls:= .type "tuple",data:= .seq vs.toArray}):=Ev.keeps X ι k
 exact⟨I.keeps k,ev,VR.mkTup ⟨_,WA _ rfl,rfl,_,rfl⟩ (I.out (aw _)) (V.up ev)⟩
theorem ay.lst{h:Heap}{P:Prop}(I:ay W ι σ h){i:Nat}{l:List V}(e:a6 σ i=some (.lst l)){v:Value}(V:VR ι h (.ref i) v)(k:∀a vs n,v=.ref a->ι[i]?=some a->l.length<=100001->IsL h a (X0 vs) n->aB ι h l vs->P):P:=
 V.elim λa z=>by cases I.obj i _ a e z.2 with |mk z2 vs n hl R=>exact k a vs n z.1 z.2 z2 hl R
theorem se(X:Addr->Prop){h:Heap}{l l':List V}{i:Nat}{a:Addr}{vs:List Value}{n:Nat}(I:ay W ι σ h)(e:a6 σ i=some (.lst l))(ha:ι[i]?=some a)(hl:IsL h a (X0 vs) n)
  (f:Array Value->Array Value){ws:List Value}(hf:f (X0 vs)=ws.toArray)(V:aB ι h l' ws)(hz:l'.length<=100001):
  ay W ι (az σ i (.lst l')) (h.update a (YW f))/\Ev X ι h ι (h.update a (YW f)):=by
 have hu:=hl.update f
 have ev:=Ev.set X I e ha (XQ h a (YW f)) hu (λp es n hp hd=>by cases hl.symm.trans hp;cases hd)
 rw[hf]at hu
 exact⟨I.set e ha (XQ h a (YW f)) (LR.mk hz ws _ hu (V.up ev)) (λ_ z=>nomatch z),ev⟩
theorem aN{n:Nat}(h:aU n=true):n<=100000:=by simpa[aU] using h
theorem yW{n:Nat}(h:n<=200010):n<=sizeLine:=by rw[sizeLine_eq];omega
theorem szA{us:List Value}(h:us.length<=100001):us.toArray.size<=sizeLine:=by
 rw[WX]
 exact yW (Wz h (by decide))
theorem ya(a:Value)(n:Nat):∀acc:Array Value,List.foldl (λx1 x2:Array Value=>x1++x2) acc (Xk n #[a])=acc++(Xk n a).toArray:=by
 induction n with
 |zero=>exact λacc=>(Array.append_empty ..).symm
 |succ n ih=>
  intro acc
  rw[List.replicate_succ,List.foldl_cons,ih,Array.append_assoc,List.replicate_succ]
  exact congrArg (acc++ ·) (Yh [a] _)
theorem aB.rep{h:Heap}{x:V}{v:Value}(V:VR ι h x v)(n:Nat):aB ι h (Xk n x) (Xk n v):=by
 induction n with
 |zero=>exact trivial
 |succ n ih=>exact XM V ih
theorem la{x y:List V}{vs ws:List Value}{h:Heap}(h1:aB ι h x vs)(h2:aB ι h y ws)(hf:aU (x.length+y.length)=true):vs.toArray.size+ws.toArray.size<=sizeLine:=by
 rw[WX,WX,<-h1.len,<-h2.len]
 exact yW (Wz (aN hf) (by decide))
noncomputable abbrev BP(W:Wd)(ι:List Addr)(s:Wp)(r:R V):Value->Wp->Prop:=EP W No ι s r VR
theorem zj{x y:List Nat}{a b:Value}{r:R V}(I:ay W ι σ s.heap)(Vx:VR ι s.heap (.str x) a)(Vy:VR ι s.heap (.str y) b)(hf:aU (x.length+y.length)=true)(e: .ok (.str (x++y)) σ=r):
  wpAny (model W.prog W.w) A (binaryOp .Add a b) (BP W ι s r) E s:=by
 obtain⟨t,rfl⟩:=Vx
 obtain⟨u,rfl⟩:=Vy
 have q: (af x).append (af y)=af (x++y):=congrArg Str.mk (Yh x y)
 exact PyProof.Rows.add_str (λt' tk=>EP.here I e.symm ⟨t',congrArg (Value.str · t') q⟩ tk) (yW (Wz (show(af x).length+(af y).length<=100000 from aN hf) (by decide)))
section
variable{p q:Addr}{vs ws:List Value}{x y:List V}{r:R V}
theorem wa{h:Heap}{p:Addr}{vs:List Value}{P:Prop}(T:h.IsTuple p (X0 vs))(k:∀dd n sl,h.get? p=some ⟨.type "tuple",dd,.seq (X0 vs) n,sl⟩->P):P:=by
 obtain⟨⟨cls,dd,data,sl⟩,ho,hc,n,hd⟩:=T
 cases hc
 cases hd
 exact k dd n sl ho
theorem Bg{a b:Value}(I:ay W ι σ s.heap)(Vx:VR ι s.heap (.tup x) a)(Vy:VR ι s.heap (.tup y) b)(hf:aU (x.length+y.length)=true)(e: .ok (.tup (x++y)) σ=r):
  wpAny (model W.prog W.w) A (binaryOp .Add a b) (BP W ι s r) E s:=by
 refine Vx.tup λp vs ep T1 n1 R1=>Vy.tup λq ws eq T2 n2 R2=>wa T1 λd1 k1 s1 h1=>wa T2 λd2 k2 s2 h2=>?_
 subst ep eq
 have go:∀{S:PySem.Spec},Meets (XD.«tuple.__add__» ⟨[.ref p,.ref q],[]⟩) S->S A (wants (BP W ι s r) E) s->wpAny (model W.prog W.w) A (binaryOp .Add (.ref p) (.ref q)) (BP W ι s r) E s:=λg h=>
  concat_meets ⟨_,h1,rfl⟩ ⟨_,h2,rfl⟩ noFill_tuple_add seq_tuple_add PySem.F.slot_tuple_add PySem.F.entry_tuple_add (PySem.F.args_tuple_add_2 _ _) g h
 cases vs with
 |nil=>
  cases Xc R1.len
  exact go (tuple_addW0 _ _ _ _ _ _ _ _ _ _ rfl) ⟨h1,h2,EP.here' I e.symm (VR.mkTup T2 n2 R2)⟩
 |cons v vs=>
  cases ws with
  |nil=>
   cases Xc R2.len
   rw[Xh]at e
   exact go (tuple_addW1 _ _ _ _ _ _ _ _ _ _ (by simp) rfl) ⟨h1,h2,EP.here' I e.symm (VR.mkTup T1 n1 R1)⟩
  |cons w ws=>
   refine go (tuple_addW2 _ _ _ _ _ _ _ _ _ _ (by simp) (by simp) (la R1 R2 hf)) ⟨h1,h2,?_⟩
   rw[Yh]
   obtain⟨i1,i2,i3⟩:=lB No I (R1.append R2)
   exact⟨_,_,_,e.symm,i1,i2,Sm.mk' s _ _,i3⟩
theorem A4{i:Nat}{z:Int}{v:V}{a b:Value}{r:R V}(I:ay W ι σ s.heap)(hz:a6 σ i=some (.lst [v]))(Vx:VR ι s.heap (.ref i) a)(Vy:VR ι s.heap (.int z) b)(h0: 0<=z)(h1:z<64)
  (e:newL σ (Xk z.toNat v)=r):wpAny (model W.prog W.w) A (binaryOp .Mult a b) (BP W ι s r) E s:=by
 refine I.lst hz Vx λl vs k el ha hlen hl R=>R.cons λw ws ev Vw Rw=>?_
 cases Rw.nil
 obtain⟨u,eb⟩:=Vy
 subst el ev eb
 refine wpAny_binaryOp_repeat_ref (T:="list") (U:="int") (by decide) ⟨_,hl,rfl⟩ (λs'=>typeIs_int s' z u) noFill_list_mul PySem.F.fills_int_mul PySem.F.slot_int_rmul repeat_list PySem.F.slot_int_index.lookup
  (Zd PySem.F.slot_int_rmul (typeIs_int s z u) PySem.F.entry_int_rmul (PySem.F.args_int_rmul_2 _ _) (int___rmul___int_list z u l _ k)
   ⟨hl,rfl,⟨_,hl,rfl⟩,Zd PySem.F.slot_list_mul ⟨_,hl,rfl⟩ PySem.F.entry_list_mul (PySem.F.args_list_mul_2 _ _)
    (AutoListH.list___mul___list_int_3 l _ k z u (by simp[XD.List.listFitsIndex];omega) (by simp;omega) (by simp[XD.List.listTooLong,sizeLine];omega))
    ⟨hl,?_⟩⟩)
 have e1: (List.foldl (λx1 x2:Array Value=>x1++x2) #[] (Xk (if([w].toArray).isEmpty=true then 0 else z.toNat) [w].toArray))=(Xk z.toNat w).toArray:=by
  rw[if_neg (λq=>by cases q)]
  exact(ya w _ #[]).trans (Array.empty_append ..)
 rw[e1]
 obtain⟨i1,i2,i3⟩:=new_list No I (l:=Xk z.toNat v) (vs:=Xk z.toNat w) (by rw[YL];omega) (aB.rep Vw _)
 exact⟨_,_,_,e.symm,i1,i2,Sm.mk' s _ _,i3⟩
theorem yt{i j:Nat}{a b:Value}(I:ay W ι σ s.heap)(hx:a6 σ i=some (.lst x))(hy:a6 σ j=some (.lst y))(Vx:VR ι s.heap (.ref i) a)(Vy:VR ι s.heap (.ref j) b)(hf:aU (x.length+y.length)=true)
  (e:newL σ (x++y)=r):wpAny (model W.prog W.w) A (binaryOp .Add a b) (BP W ι s r) E s:=by
 refine I.lst hx Vx λl vs n el ha hlen hl R=>I.lst hy Vy λl' ws n' el' ha' hlen' hl' R'=>?_
 subst el el'
 refine PySem.P.add_list hl hl' ?_ (la R R' hf)
 rw[Yh]
 obtain⟨i1,i2,i3⟩:=new_list No I (l:=x++y) (by rw[Wu];exact X8 (aN hf)) (R.append R')
 exact⟨_,_,_,e.symm,i1,i2,Sm.mk' s _ _,i3⟩
end
theorem qI{op:Op}{x y:V}{a b:Value}{r:R V}(I:ay W ι σ s.heap)(Vx:VR ι s.heap x a)(Vy:VR ι s.heap y b)(e:gB op σ x y=r)(hr:r≠.bad):
  wpAny (model W.prog W.w) A (binaryOp (opOf op) a b) (BP W ι s r) E s:=by
 cases x with
 |int x=>
  refine aR e hr λy ey e1=>a8 e1 hr λz hz e2=>?_
  subst ey
  obtain⟨t,rfl⟩:=Vx
  obtain⟨u,rfl⟩:=Vy
  exact tc hz λt' tk=>EP.here I e2.symm ⟨t',rfl⟩ tk
 |str x=>exact cS e hr λy ey e=>am e hr λho e=>am e hr λhf e=>jH ho▸zj I Vx (ey▸Vy) hf e
 |tup x=>exact cy e hr λy ey e=>am e hr λho e=>am e hr λhf e=>jH ho▸Bg I Vx (ey▸Vy) hf e
 |ref i=>
  refine aZ e hr λl hx e=>?_
  cases y with
  |ref j=>exact aZ e hr λy hy e=>am e hr λho e=>am e hr λhf e=>jH ho▸yt I hx hy Vx Vy hf e
  |int k=>exact am e hr λho e=>l9 e hr λn en e=>eH e hr λv hl e=>am e hr λhk e=>wZ ho▸A4 (z:=k) I (hl▸hx) Vx Vy (en▸XU n) (en▸ZW.mpr (Wl hk)) (by rw[en];exact e)
  |_=>exact(hr e.symm).elim
 |_=>exact(hr e.symm).elim
end
section
variable{W:Wd}{A:X7}{E:Value->Wp->Prop}{s:Wp}{ι:List Addr}{σ:St}
noncomputable def OV(ι:List Addr)(h:Heap)(o:Option V)(w:Option Value):Prop:=opt o (λx=>∃v,w=some v/\VR ι h x v) (w=none)
theorem pO{m:List (Str × Value)}{k n:Str}{v:Value}:valueAt ((k,v)::m) n=tf (decide (k=n)) (some v) (valueAt m n):=by
 show((List.find? (λp:Str × Value=>decide (p.1=n)) ((k,v)::m)).map _)=_
 rw[List.find?_cons]
 cases decide (k=n)<;>rfl
theorem xV{k n:List Nat}:decide (af k=af n)=bp k n:=by
 cases q:bp k n with
 |true=>exact decide_eq_true (congrArg af (eqN_eq q))
 |false=>exact decide_eq_false λe=>Ww (q.symm.trans (dU.mpr (gM e)))
theorem w7{h:Heap}{n:List Nat}{es:List (List Nat × V)}:∀{vs:List Value},aB ι h (xw es) vs->OV ι h (ax es n) (valueAt ((i9 es).zip vs) (af n)):=by
 induction es with
 |nil=>exact λ_=>rfl
 |cons p es ih=>
  refine λH=>H.cons λv vs e V R=>?_
  subst e
  show OV ι h (tf (bp p.1 n) (some p.2) (ax es n)) (valueAt ((af p.1,v)::(i9 es).zip vs) (af n))
  rw[pO,xV]
  cases bp p.1 n with
  |true=>exact⟨v,rfl,V⟩
  |false=>exact ih R
theorem ly{h:Heap}{es:List (List Nat × V)}{vs:List Value}{n:List Nat}{x:V}{P:Prop}(R:aB ι h (xw es) vs)(e:ax es n=some x)(k:∀v,valueAt ((i9 es).zip vs) (af n)=some v->VR ι h x v->P):P:=by
 have z:=w7 (n:=n) R
 rw[e]at z
 exact WS z λv w=>k v w.1 w.2
theorem vD{h:Heap}{es:List (List Nat × V)}{vs:List Value}{n:List Nat}(R:aB ι h (xw es) vs)(e:ax es n=none):valueAt ((i9 es).zip vs) (af n)=none:=by
 have z:=w7 (n:=n) R
 rw[e]at z
 exact z
inductive S6(ι:List Addr)(h:Heap)(m m':List (Str × Value))(es:List (List Nat × V))(l:Nat):Prop
 |mk (ws:List Value):m'=(i9 es).zip ws->aB ι h (xw es) ws->es.length<=l+1->S6 ι h m m' es l
theorem xz{m:List (Str × Value)}{k n:Str}{u v:Value}(h:k≠n):stored ((k,u)::m) n v=(k,u)::stored m n v:=by
 unfold stored
 rw[List.any_cons,decide_eq_false h,Bool.false_or]
 split
 ·rw[YH,if_neg h]
 ·rfl
theorem uf{m:List (Str × Value)}{k:Str}{u v:Value}(h:k∉m.map (·.1)):stored ((k,u)::m) k v=(k,v)::m:=by
 unfold stored
 rw[if_pos (by simp),YH,if_pos rfl,map_store_of_not_mem _ _ _ h]
theorem zZ{h:Heap}{n:List Nat}{x:V}{v:Value}(hv:VR ι h x v){es:List (List Nat × V)}:∀{vs:List Value},(i9 es).Nodup->aB ι h (xw es) vs->
  S6 ι h ((i9 es).zip vs) (stored ((i9 es).zip vs) (af n) v) (bw es n x) es.length:=by
 induction es with
 |nil=>exact λ_ _=>.mk [v] rfl (XM hv trivial) (WO _)
 |cons p es ih=>
  refine λhn H=>H.cons λu vs e U R=>?_
  subst e
  have hn:=Y9.mp hn
  show S6 ι h _ (stored ((af p.1,u)::(i9 es).zip vs) (af n) v) (tf (bp p.1 n) ((p.1,x)::es) (p::bw es n x)) (es.length+1)
  cases q:bp p.1 n with
  |true=>
   cases eqN_eq q
   refine .mk (v::vs) (uf λhm=>hn.1 ?_) (XM hv R) (ZD _)
   obtain⟨z,hp,hq⟩:=ZX.mp hm
   have:=(List.of_mem_zip (show(z.1,z.2)∈(i9 es).zip vs from hp)).1
   rw[hq]at this
   exact this
  |false=>
   rw[xz λe=>Ww (q.symm.trans (dU.mpr (gM e)))]
   cases ih hn.2 R with
   |mk ws e1 e2 e3=>exact .mk (u::ws) (congrArg _ e1) (XM U e2) (XV e3)
theorem dz{α β:Type}{a:List α}:∀{b:List β},a.length=b.length->(a.zip b).map (·.1)=a:=by
 induction a with
 |nil=>exact λ_=>rfl
 |cons x a ih=>
  intro b h
  cases b with
  |nil=>exact nomatch h
  |cons y b=>exact congrArg (x:: ·) (ih (YZ h))
theorem iJ{h:Heap}{a:Addr}{es:List (List Nat × V)}{vs:List Value}(D:h.DictOf (sK W) a ((i9 es).zip vs))(V:aB ι h (xw es) vs): (i9 es).Nodup:=by
 obtain⟨_,_,_,_,_,_,_,_,n⟩:=D
 rwa[dz (show(i9 es).length=vs.length from(Xj ..).trans ((Xj ..).symm.trans V.len))]at n
theorem pv(W:Wd)(n:List Nat)(t:Tok): (sK W).is (af n) (.str (af n) t)=true:=by show(af n==af n)=true;simp
theorem MU(W:Wd)(k:Int)(t:Tok): (iK W).is k (.int k t)=true:=by show(k==k)=true;simp
theorem ay.notSys{h:Heap}(I:ay W ι σ h){i:Nat}{o:O}{a:Addr}(e:a6 σ i=some o)(ha:ι[i]?=some a)(n:∀l,o≠.arg l): (a==sysModules)=false:=
 beq_eq_false_iff_ne.mpr λq=>I.big.elim λ_ h2=>ka (I.up i o a e ha n) (q▸h2)
theorem ay.sd{h:Heap}{P:Prop}(I:ay W ι σ h){i:Nat}{es:List (List Nat × V)}(e:a6 σ i=some (.sd es)){v:Value}(V:VR ι h (.ref i) v)
  (k:∀a vs,v=.ref a->ι[i]?=some a->h.DictOf (sK W) a ((i9 es).zip vs)->aB ι h (xw es) vs->(a==sysModules)=false->P):P:=
 V.elim λa z=>by cases I.obj i _ a e z.2 with |mk vs D R=>exact k a vs z.1 z.2 D R (I.notSys e z.2 λ_ z=>nomatch z)
theorem ay.nds{h:Heap}{P:Prop}(I:ay W ι σ h){i:Nat}{ks:List Int}(e:a6 σ i=some (.nd ks)){v:Value}(V:VR ι h (.ref i) v)
  (k:∀a,v=.ref a->ι[i]?=some a->h.DictOf (iK W) a (ks.map λk=>(k,YT true))->(a==sysModules)=false->P):P:=
 V.elim λa z=>k a z.1 z.2 (I.obj i _ a e z.2) (I.notSys e z.2 λ_ z=>nomatch z)
theorem nM:seqSlot? (.type "list") (dunderI "add")=pure (some (.builtin "list.__iadd__")):=PySem.seqSlot_of Zm.lookup (by decide +kernel)
theorem kP:fillsInplaceSlot (.type "list") "add" (a0z.Add== .Add)=pure false:=by
 unfold fillsInplaceSlot
 show(typeLookup (.type "list") (dunderI "add") >>= λfi=>pure (fi.isSome&& !isSeqSlot fi))=pure false
 rw[Zm.lookup]
 exact congrArg (pure (f:=Sem)) (show(true&& !isSeqSlot (some (Z5 "list.__iadd__")))=false by decide +kernel)
theorem lS{x y:V}{a b:Value}{r:R V}(I:ay W ι σ s.heap)(Vx:VR ι s.heap x a)(Vy:VR ι s.heap y b)(e:qa σ x y=r)(hr:r≠.bad):
  wpAny (model W.prog W.w) A (inplaceOp .Add a b) (BP W ι s r) E s:=by
 cases x with
 |int x=>
  refine aR e hr λy ey e1=>?_
  subst ey
  obtain⟨t,rfl⟩:=Vx
  obtain⟨u,rfl⟩:=Vy
  exact tL λt' tk=>EP.here I e1.symm ⟨t',rfl⟩ tk
 |ref i=>
  refine aM e hr λj ej e1=>aZ e1 hr λx hx e2=>aZ e2 hr λy hy e3=>am e3 hr λhf e4=>I.lst hx Vx λl vs n el ha hlen hl R=>I.lst hy (ej▸Vy) λl' ws n' el' ha' hlen' hl' R'=>?_
  subst el el'
  have hz:=la R R' hf
  have T1:s.TypeIs (.ref l) "list":=⟨_,hl,rfl⟩
  have T2:s.TypeIs (.ref l') "list":=⟨_,hl',rfl⟩
  unfold inplaceOp
  refine X3 (Wj (wpAny_typeOf T1 (Wj (Y2 kP ?_))))
  show wpAny _ A (if false=true then _ else _) _ E s
  rw[if_neg Ww]
  refine Wj (wpAny_binaryOp1_none (nm:="add") T1 T2 noFill_list_add (Wj (Y2 nM (Wj (a06 ?_)))))
  refine Zd Zm T1 PySem.F.entry_list_iadd (PySem.F.args_list_iadd_2 _ _)
   (AutoSeq1.list___iadd___list_list_0 l _ n l' _ n' (λq=>Nat.not_lt.mpr hz (of_decide_eq_true (ac q).2)) (Wz (WC _ _) hz) (X8 hz)) ⟨hl,hl',?_⟩
  obtain⟨i1,i2⟩:=se No I hx ha hl (λz=>z++ws.toArray) (ws:=vs++ws) (Yh ..) (R.append R') (by rw[Wu];exact X8 (aN hf))
  exact⟨_,_,_,e4.symm,i1,i2,Sm.mk' s _ _,⟨l,rfl,ha⟩⟩
 |_=>exact(hr e.symm).elim
noncomputable def Aa(c:Cm):CmpOp:=@Cm.rec (λ_=>CmpOp) .Eq .NotEq .Lt .LtE .Gt .GtE .In .NotIn .Is .IsNot c
theorem iZ{A:X7}{a b:Nat}(h:jq a b=true)(hu:A.units+64<cLine):A.units+min a b<cLine:=
 X5 (XC (Wz (of_decide_eq_true h) (by decide)) _) hu
end
end Mine
end
section
open PySem PySem.W PyProof.Rows PySem.SeqAt
namespace Mine
section
variable{W:Wd}{A:X7}{E:Value->Wp->Prop}{s:Wp}{ι:List Addr}{σ:St}
theorem z7{v:V}(hv:plain v=true){l:List V}:aG l=true->((kS l).any λy=>Ys y (pd v))=lG v l:=by
 induction l with
 |nil=>exact λ_=>rfl
 |cons x r ih=>
  intro h
  have h:=br h
  show(Ys (pd x) (pd v)||(kS r).any λy=>Ys y (pd v))=tf (ny x v) true (lG v r)
  rw[uE h.1 hv,ih h.2]
  cases ny x v<;>rfl
theorem VR.tupReads{v:Value}{l:List V}{h:Heap}(V0:VR ι h (.tup l) v)(p:aG l=true):Reads h v (.tuple (kS l)) []:=V0.reads p
theorem lV{h:Heap}{a:Addr}{l:List V}{vs:List Value}{n:Nat}(hl:IsL h a (X0 vs) n)(V:aB ι h l vs)(p:aG l=true):Reads h (.ref a) (.list (kS l)) [a]:=
 Reads.list hl rfl rfl (V.reads p)
theorem VR.none_iff{h:Heap}{x:V}{v:Value}(V:VR ι h x v): (v==XK)=iM x:=by
 cases x with
 |none=>cases V;rfl
 |bool b=>cases V;rfl
 |int i=>obtain⟨t,rfl⟩:=V;rfl
 |str x=>obtain⟨t,rfl⟩:=V;rfl
 |tup l=>exact V.tup λa vs e _ _ _=>e▸rfl
 |ref i=>obtain⟨a,rfl,_⟩:=V;rfl
theorem EK{x:V}(h:iM x=true):x=.none:=e8 h aV λe _=>e
inductive O5(A:X7)(h:Heap)(u v:Value):Bool->Prop
 |mk (x y:YV) (as bs:List Addr):Reads h u x as->Reads h v y bs->x.canLay0=true->y.canLay0=true->A.units+min x.depth y.depth<cLine->O5 A h u v (Ys x y)
theorem CV{x y:V}{r:R Bool}{u v:Value}{P:Prop}(hu:A.units+64<cLine)(I:ay W ι σ s.heap)(Vx:VR ι s.heap x u)(Vy:VR ι s.heap y v)(e:sf σ x y=r)(n:r≠.bad)(k:∀b,.ok b σ=r->O5 A s.heap u v b->P):P:=by
 have gen:Sc σ x y=r->P:=λe=>am e n λp e=>by
  have q:=ac (ac p).1
  refine k _ e ?_
  rw[<-uE q.1 q.2]
  exact⟨_,_,_,_,Vx.reads q.1,Vy.reads q.2,lY q.1,lY q.2,by rw[jj,jj];exact iZ (ac p).2 hu⟩
 cases x with
 |ref i=>
  refine aM (show cD y (E3 σ i) .bad=r from e) n λj ej e=>aZ e n λx hx e=>aZ e n λy hy e=>am e n λp e=>I.lst hx Vx λl vs n el _ _ hl R=>I.lst hy (ej▸Vy) λl' ws n' el' _ _ hl' R'=>?_
  have q:=ac (ac p).1
  refine k _ e ?_
  rw[el,el',<-Eh q.1 q.2]
  refine⟨.list (kS x),.list (kS y),_,_,lV hl R q.1,lV hl' R' q.2,qj q.1,qj q.2,?_⟩
  show A.units+min (Y8 (kS x)+1) (Y8 (kS y)+1)<cLine
  rw[o8,o8]
  exact iZ (ac p).2 hu
 |_=>exact gen e
inductive D4(W:Wd)(A:X7)(h:Heap)(u v:Value):Bool->Prop
 |tup (xs:List YV) (d:YV) (as bs:List Addr):Reads h v (.tuple xs) as->Reads h u d bs->Yr xs=true->d.canLay0=true->A.units+1+min (Y8 xs) d.depth<cLine->D4 W A h u v (xs.any λy=>Ys y d)
 |lst (xs:List YV) (d:YV) (as bs:List Addr):Reads h v (.list xs) as->Reads h u d bs->Yr xs=true->d.canLay0=true->A.units+1+min (Y8 xs) d.depth<cLine->D4 W A h u v (xs.any λy=>Ys y d)
 |dct (n:Str) (d:Addr) (f:Str->Option Value): (sK W).is n u=true->(d==sysModules)=false->h.MapOf (sK W) d f->v=.ref d->D4 W A h u v (f n).isSome
theorem F2{a b:Nat}(h:b<=60)(hu:A.units+64<cLine):A.units+1+min a b<cLine:=
 X5 (XC (Wz (Nat.min_le_right a b) (Wz h (by decide))) _) (X5 (Zn (Xm _ 1 63)) hu)
theorem xk{h:Heap}{es:List (List Nat × V)}{vs:List Value}{n:List Nat}(R:aB ι h (xw es) vs): (valueAt ((i9 es).zip vs) (af n)).isSome=(ax es n).isSome:=by
 cases q:ax es n with
 |none=>rw[vD R q];rfl
 |some x=>exact ly R q λv e _=>by rw[e];rfl
theorem CD{x y:V}{r:R Bool}{u v:Value}{P:Prop}(hu:A.units+64<cLine)(I:ay W ι σ s.heap)(Vx:VR ι s.heap x u)(Vy:VR ι s.heap y v)(e:tW σ x y=r)(n:r≠.bad)(k:∀b,.ok b σ=r->D4 W A s.heap u v b->P):P:=by
 have seq:∀{l:List V},QR σ x l=r->(plain x=true->aG l=true->Yr (kS l)=true->(pd x).canLay0=true->A.units+1+min (Y8 (kS l)) (pd x).depth<cLine->D4 W A s.heap u v ((kS l).any λy=>Ys y (pd x)))->P:=λ{l} e f=>am e n λp e=>by
  have q:=ac (ac p).1
  exact k _ e (z7 q.1 q.2▸f q.1 q.2 (qj q.2) (lY q.1) (F2 (by rw[jj];exact of_decide_eq_true (ac p).2) hu))
 cases y with
 |tup l=>exact seq e λq1 q2=>.tup _ _ _ _ (VR.tupReads Vy q2) (Vx.reads q1)
 |ref i=>
  refine a8 e n λo hx e=>?_
  cases o with
  |lst l=>exact I.lst hx Vy λl' ws n' el _ _ hl' R'=>seq e λq1 q2=>el▸ .lst _ _ _ _ (lV hl' R' q2) (Vx.reads q1)
  |sd es=>
   refine cS e n λn en e=>I.sd hx Vy λd vs ed _ D R hne=>?_
   subst en
   obtain⟨t,rfl⟩:=Vx
   exact k _ e (xk R▸D4.dct (A:=A) (af n) d _ (pv W n t) hne D.mapOf ed)
  |_=>exact(n e.symm).elim
 |_=>exact(n e.symm).elim
theorem O5.eq{b:Bool}{u v:Value}{Q:Value->Wp->Prop}(F:O5 A s.heap u v b)(h:Q (.bool b) s):wpAny (model W.prog W.w) A (compareOp .Eq u v) Q E s:=by
 cases F with
 |mk x y as bs r1 r2 l1 l2 d=>exact compareEq_reads r1 r2 l1 l2 d h
theorem O5.ne{b:Bool}{u v:Value}{Q:Value->Wp->Prop}(F:O5 A s.heap u v b)(h:Q (.bool !b) s):wpAny (model W.prog W.w) A (compareOp .NotEq u v) Q E s:=by
 cases F with
 |mk x y as bs r1 r2 l1 l2 d=>exact compareNe_reads r1 r2 l1 l2 d h
theorem D4.yes{b:Bool}{u v:Value}{Q:Value->Wp->Prop}(F:D4 W A s.heap u v b)(h:∀tk,Q (.bool b) {s with toks:=tk}):wpAny (model W.prog W.w) A (compareOp .In u v) Q E s:=by
 cases F with
 |tup xs d as bs r1 r2 l1 l2 dp=>exact in_tuple_reads r1 r2 l1 l2 dp (h s.toks)
 |lst xs d as bs r1 r2 l1 l2 dp=>exact in_list_reads r1 r2 l1 l2 dp (h s.toks)
 |dct n d f k ne M ev=>rw[ev];exact wpAny_in_of k ne M (h _)
theorem D4.no{b:Bool}{u v:Value}{Q:Value->Wp->Prop}(F:D4 W A s.heap u v b)(h:∀tk,Q (.bool !b) {s with toks:=tk}):wpAny (model W.prog W.w) A (compareOp .NotIn u v) Q E s:=by
 cases F with
 |tup xs d as bs r1 r2 l1 l2 dp=>exact notIn_tuple_reads r1 r2 l1 l2 dp (h s.toks)
 |lst xs d as bs r1 r2 l1 l2 dp=>exact notIn_list_reads r1 r2 l1 l2 dp (h s.toks)
 |dct n d f k ne M ev=>rw[ev];exact wpAny_notIn_of k ne M (h _)
theorem ro{P:Prop}{q r:R Bool}(h:zP q=r)(n:r≠.bad)(k:q≠.bad->(∀c σ,.ok c σ=q-> .ok (!c) σ=r)->P):P:=by
 cases q with
 |bad=>exact(n h.symm).elim
 |ok c σ=>exact k (λe=>nomatch e) λ_ _ e=>by cases e;exact h
 |exc _=>exact k (λe=>nomatch e) λ_ _ e=>nomatch e
theorem jp{h:Heap}{x y:V}{u v:Value}{r:R Bool}{f:Int->Int->Bool}{P:Value->Value->Prop}(Vx:VR ι h x u)(Vy:VR ι h y v)(e:yF σ x y f=r)(n:r≠.bad)(k:∀i j t t',.ok (f i j) σ=r->P (.int i t) (.int j t')):P u v:=by
 refine aR e n λi ei e=>aR e n λj ej e=>?_
 subst ei ej
 obtain⟨t,rfl⟩:=Vx
 obtain⟨t',rfl⟩:=Vy
 exact k i j t t' e
theorem sr{h:Heap}{x y:V}{u v:Value}{c:Bool}{r:R Bool}{P:Value->Prop}(Vx:VR ι h x u)(Vy:VR ι h y v)(e:gd (iM y) (.ok c σ)=r)(n:r≠.bad)(k: (u==XK)=iM x-> .ok c σ=r->P .none):P v:=by
 refine am e n λhy e=>?_
 rw[EK hy]at Vy
 have q:v=.none:=Vy
 rw[q]
 exact k Vx.none_iff e
theorem nS{op:Cm}{x y:V}{r:R Bool}{u v:Value}{Q:Value->Wp->Prop}(hu:A.units+64<cLine)(I:ay W ι σ s.heap)(Vx:VR ι s.heap x u)(Vy:VR ι s.heap y v)(e:jf op σ x y=r)(n:r≠.bad)
  (h:∀b,.ok b σ=r->∀tk,Q (.bool b) {s with toks:=tk}):wpAny (model W.prog W.w) A (compareOp (Aa op) u v) Q E s:=by
 have h0:=λb e=>h b e s.toks
 cases op with
 |eq=>exact CV hu I Vx Vy e n λb e F=>F.eq (h0 b e)
 |ne=>exact ro e n λn e=>CV hu I Vx Vy rfl n λb e2 F=>F.ne (h0 _ (e b σ e2))
 |is_=>exact sr (P:=λv=>wpAny (model W.prog W.w) A (compareOp .Is u v) Q E s) Vx Vy e n λn e=>is_none (by rw[n];exact h0 _ e)
 |isnot=>exact sr (P:=λv=>wpAny (model W.prog W.w) A (compareOp .IsNot u v) Q E s) Vx Vy e n λn e=>isNot_none (by rw[n];exact h0 _ e)
 |lt=>exact jp (P:=λu v=>wpAny (model W.prog W.w) A (compareOp .Lt u v) Q E s) Vx Vy e n λi j t t' q=>lt_int (h0 _ q)
 |le=>exact jp (P:=λu v=>wpAny (model W.prog W.w) A (compareOp .LtE u v) Q E s) Vx Vy e n λi j t t' q=>PyProof.Rows.le_int (h0 _ q)
 |gt=>exact jp (P:=λu v=>wpAny (model W.prog W.w) A (compareOp .Gt u v) Q E s) Vx Vy e n λi j t t' q=>gt_int (h0 _ q)
 |ge=>exact jp (P:=λu v=>wpAny (model W.prog W.w) A (compareOp .GtE u v) Q E s) Vx Vy e n λi j t t' q=>PyProof.Rows.ge_int (h0 _ q)
 |in_=>exact CD hu I Vx Vy e n λb e F=>F.yes (h b e)
 |notin=>exact ro e n λn e=>CD hu I Vx Vy rfl n λb e2 F=>F.no (h _ (e b σ e2))
theorem o7{h:Heap}{l:List V}{vs:List Value}(R:aB ι h l vs): (!(vs.toArray).isEmpty)= !l.isEmpty:=by
 cases l with
 |nil=>rw[R.nil];rfl
 |cons _ _=>exact R.cons λv r e _ _=>e▸rfl
theorem gE{x:V}{r:R Bool}{u:Value}{Q:Bool->Wp->Prop}(I:ay W ι σ s.heap)(Vx:VR ι s.heap x u)(e:dW σ x=r)(n:r≠.bad)(h:∀b,.ok b σ=r->∀tk,Q b {s with toks:=tk}):
  wpAny (model W.prog W.w) A (truthy u) Q E s:=by
 have big:∀{n:Nat},n<=100001->(n:Int)<2 ^ 63:=λh=>Int.lt_of_le_of_lt (YD.mpr h) (by decide)
 cases x with
 |none=>cases Vx;exact truthy_none (h _ e s.toks)
 |bool b=>cases Vx;exact wpAny_truthy_bool (h _ e s.toks)
 |int i=>
  obtain⟨t,rfl⟩:=Vx
  refine PyProof.Rows.truthy_int ?_
  rw[show(i != 0)=decide (i≠0)by by_cases q:i=0<;>simp[q]]
  exact h _ e s.toks
 |str x=>
  refine am e n λhf e=>?_
  obtain⟨t,rfl⟩:=Vx
  refine PySem.P.truthy_str (Int.not_le.mpr (big (X8 (show(af x).length<=100000 from aN hf)))) ?_
  rw[show(((af x).length:Int) != 0)= !x.isEmpty by cases x<;>rfl]
  exact h _ e _
 |tup l=>
  refine am e n λhf e=>Vx.tup λa vs ea T _ R=>?_
  subst ea
  refine truthy_tuple T (by rw[WX,<-R.len];exact big (X8 (aN hf))) ?_
  rw[o7 R];exact h _ e _
 |ref i=>
  refine aZ e n λl hx e=>I.lst hx Vx λl' vs n' el _ hz hl' R=>?_
  subst el
  refine wpAny_truthy_list hl'.isList (by rw[WX,<-R.len];exact big hz) ?_
  rw[o7 R];exact h _ e _
end
section
variable{W:Wd}{A:X7}{E:Value->Wp->Prop}{s:Wp}{ι:List Addr}{σ:St}
noncomputable def loN(o:Option Nat)(n:Nat):Nat:=min (o.getD 0) n
noncomputable def hiN(o:Option Nat)(n:Nat):Nat:=min (o.getD n) n
theorem fJ{M:Model}{A:X7}{E:Value->Wp->Prop}{α:Type}{Q:α->Wp->Prop}{s:Wp}{c:Prop}[Decidable c]{a b:Sem α}(h: ¬ c)(k:wpAny M A b Q E s):wpAny M A (if c then a else b) Q E s:=by
 rw[if_neg h];exact k
theorem vM(k n:Nat)(a:Int): (if(k:Int)<0 then a else min (k:Int) (n:Int))=((min k n:Nat):Int):=by
 rw[if_neg (Int.not_lt.mpr (XU k))]
 rcases Nat.le_total k n with h|h
 ·rw[Nat.min_eq_left h,Int.min_eq_left (YD.mpr h)]
 ·rw[Nat.min_eq_right h,Int.min_eq_right (YD.mpr h)]
theorem tX(lo hi:Option Nat)(n:Nat):Builtin.Slice.sliceAdjust (lo.map λk=>(k:Int)) (hi.map λk=>(k:Int)) 1 (n:Int)=(((loN lo n:Nat):Int),((hiN hi n:Nat):Int)):=by
 have z: (0:Int)=((min 0 n:Nat):Int):=by rw[Nat.zero_min];rfl
 have w: (n:Int)=((min n n:Nat):Int):=by rw[ZY]
 cases lo with
 |none=>cases hi with
  |none=>exact Prod.ext z w
  |some h=>exact Prod.ext z (vM h n (max (h+n) 0))
 |some a=>cases hi with
  |none=>exact Prod.ext (vM a n (max (a+n) 0)) w
  |some h=>exact Prod.ext (vM a n (max (a+n) 0)) (vM h n (max (h+n) 0))
theorem vc(a b:Nat):Z2 (a:Int) (b:Int) 1=b-a:=by
 show(if(a:Int)<b then((b:Int)-a-1) / 1+1 else 0).toNat=b-a
 by_cases h: (a:Int)<b
 ·rw[if_pos h,Int.ediv_one,Int.sub_add_cancel,Int.toNat_sub]
 ·rw[if_neg h,Zr (YD.mp (Int.not_lt.mp h))]
  rfl
noncomputable def partOf(v:Value)(k:Option Nat):Prop:=opt k (λn=>∃t,v=.int n t) (v=.none)
theorem oi{v:Value}{k:Option Nat}{Q:Option Int->Wp->Prop}(hp:partOf v k)(h:Q (k.map λn=>(n:Int)) s):wpAny (model W.prog W.w) A (XD.Slice.slicePartIndex v) Q E s:=by
 cases k with
 |none=>cases hp;exact slicePart_none h
 |some n=>obtain⟨t,rfl⟩:=hp;exact slicePart_int h
theorem Ci{sl:Addr}{vl vu:Value}{lo hi:Option Nat}{n:Nat}{Q:Int × Int × Nat->Wp->Prop}(hs:s.heap.IsSliceOf sl vl vu .none)(pl:partOf vl lo)(pu:partOf vu hi)
  (h:Q (((loN lo n:Nat):Int),1,hiN hi n-loN lo n) s):
  wpAny (model W.prog W.w) A (XD.Slice.sliceApplied (.ref sl) (pure (n:Int))) Q E s:=by
 obtain⟨os,hos,hcs,hds⟩:=hs
 refine Wj (Wj (X2 hos hds (x:=vl) rfl (Wj (X2 hos hds (x:=vu) rfl (Wj (X2 hos hds (x:= .none) rfl (Ws ?_)))))))
 refine Wj (slicePart_none (fJ (by decide) (Wj (oi pl (Wj (oi pu (Wj (Ws ?_))))))))
 show wpAny _ _ (match Builtin.Slice.sliceAdjust (lo.map λk=>(k:Int)) (hi.map λk=>(k:Int)) 1 (n:Int)with | (lo,hi)=>pure (lo,(1:Int),Z2 lo hi 1)) _ _ s
 rw[tX]
 show wpAny _ _ (pure (_,(1:Int),Z2 _ _ 1)) _ _ s
 rw[vc]
 exact Ws h
theorem OJ{α:Type}(l:List α)(lo hi:Option Nat):cut l lo hi=(l.drop (loN lo l.length)).take (hiN hi l.length-loN lo l.length):=by
 cases lo with
 |none=>
  have z:loN none l.length=0:=Nat.zero_min _
  rw[z]
  cases hi with
  |none=>
   have w:hiN none l.length=l.length:=ZY _
   rw[w]
   exact Zv.symm
  |some h=>exact(kmk_take_min l h).symm
 |some a=>
  have d:l.drop (loN (some a) l.length)=l.drop a:=kmk_drop_min l a
  rw[d]
  cases hi with
  |none=>
   have w:hiN none l.length=l.length:=ZY _
   rw[w,List.take_of_length_le (by rw[Yu];exact Nat.sub_le_sub_left (ZK _ _) _)]
   rfl
  |some h=>
   show(l.take h).drop a=(l.drop a).take (min h l.length-min a l.length)
   rw[List.drop_take,List.take_eq_take_iff,Yu]
   rcases Nat.le_total a l.length with q|q
   ·rw[Nat.min_eq_left q,Nat.sub_min_sub_right,Nat.sub_min_sub_right,Nat.min_assoc,ZY]
   ·rw[Zr q,Nat.min_zero,Nat.min_zero]
theorem C5(l:List Value)(a c:Nat): ((Zb c).filterMap λ(k:Nat)=>l.toArray[((a:Int)+(k:Int)*1).toNat]?)=(l.drop a).take c:=by
 have r:=pick_run l.toArray a c
 rw[List.filterMap_map]at r
 refine Eq.trans (congrArg (λf=>(Zb c).filterMap f) (funext λk=>?_)) r
 rw[Int.mul_one]
 rfl
end
end Mine
namespace Mine
section
variable{W:Wd}{A:X7}{E:Value->Wp->Prop}{s:Wp}{ι:List Addr}{σ:St}
theorem pU{α:Type}(vs:List α)(l h:Option Nat): (cut vs l h).Sublist vs:=by
 cases l with
 |none=>cases h with
  |none=>exact List.Sublist.refl _
  |some b=>exact List.take_sublist _ _
 |some a=>cases h with
  |none=>exact List.drop_sublist _ _
  |some b=>exact(List.drop_sublist _ _).trans (List.take_sublist _ _)
theorem aB.cut{h:Heap}{xs:List V}{vs:List Value}(x:aB ι h xs vs)(lo hi:Option Nat):aB ι h (cut xs lo hi) (cut vs lo hi):=by
 unfold Mine.cut
 cases lo with
 |none=>cases hi with
  |none=>exact x
  |some b=>exact x.take b
 |some a=>cases hi with
  |none=>exact x.drop a
  |some b=>exact(x.take b).drop a
theorem LP{A:X7}{α:Type}{Q:α->Wp->Prop}{c:Prop}[Decidable c]{x y:Sem α}(h:c->wpAny (model W.prog W.w) A x Q E s)(k:wpAny (model W.prog W.w) A y Q E s):wpAny (model W.prog W.w) A (if c then x else y) Q E s:=by
 by_cases e:c
 ·rw[if_pos e];exact h e
 ·rw[if_neg e];exact k
theorem rm{t sl:Addr}{l:List Value}{vl vu:Value}{lo hi:Option Nat}{Q:Value->Wp->Prop}(ht:IsTup s.heap t l.toArray)(hs:s.heap.IsSliceOf sl vl vu .none)(pl:partOf vl lo)(pu:partOf vu hi)
  (hz:l.length<=sizeLine)(h1:cut l lo hi=l->Q (.ref t) s)(h:Q (.ref s.heap.objs.size) {s with heap:=s.heap.push {cls:= .type "tuple",data:= .seq (cut l lo hi).toArray}}):
  wpAny (model W.prog W.w) A (getItem (.ref t) (.ref sl)) Q E s:=by
 have hdrop:sizeOk (.seq (cut l lo hi).toArray):=Wz (pU l lo hi).length_le hz
 have hTs:s.TypeIs (.ref sl) "slice":=by
  obtain⟨os,hos,hcs,_⟩:=hs
  exact⟨os,hos,hcs⟩
 rw[OJ]at h1 h hdrop
 unfold getItem
 try with_reducible refine X3 ?_
 first|refine Wj (Ws ?_)|skip
 refine Wj (wpAny_sequenceKey ht.typeIs (by decide) ?_)
 refine Wj (Xx (name:=Z0 "__getitem__") ht.typeIs a07
  (XN a07 ht.typeIs entry_tuple_getitem ?_ (args_tuple_getitem _ _)))
 show wpAny _ _ (XD.Tuple.tupleItemsOf (.ref t) >>= _) _ _ s
 refine Wj (tupleItemsOf_ ht (Wj (wpAny_typeOf hTs ?_)))
 rw[if_pos (by decide)]
 refine Wj (Ci (n:=l.length) hs pl pu ?_)
 refine LP (λhw=>?_) (Wj ?_)
 ·refine Wj (Wj (wpAny_typeOf ht.typeIs (Ws ?_)))
  rw[if_pos (by decide)]
  refine Wj (a06 (Wj (Ws (Ws ⟨_,rfl,Ws (h1 ?_)⟩))))
  have hw: ((((loN lo l.length:Nat):Int)==0&&(1:Int)==1)&&(hiN hi l.length-loN lo l.length==l.length))=true:=hw
  have e:=ac hw
  rw[XE e.2,Yj.inj (XE (ac e.1).1)]
  exact Zv
 ·rw[<-C5 l]at h
  exact Y6 (Wj (Ws (Ws ⟨_,rfl,Ws h⟩))) (C5 l _ _▸hdrop)
end
section
variable{W:Wd}{A:X7}{E:Value->Wp->Prop}{s:Wp}{ι:List Addr}{σ:St}
inductive At{α:Type}(l:List α)(x:α):Int->Prop
 |pos (n:Nat):n<100000->l[n]?=some x->At l x (.ofNat n)
 |neg (n:Nat):n<100000->n<l.length->l[l.length-(n+1)]?=some x->At l x (.negSucc n)
theorem uU{α:Type}{l:List α}{k:Int}{x:α}(e:FM l k=some x):At l x k:=by
 cases k with
 |ofNat n=>exact am e ad λq e=>.pos n (Wl q) e
 |negSucc n=>exact am e ad λq e=>.neg n (Wl (ac (ac q).1).1) (Wl (ac (ac q).1).2) e
theorem Al(n m:Nat): (Int.negSucc n+(m:Int)).toNat=m-(n+1):=by
 rw[Int.add_comm]
 exact Int.toNat_sub m (n+1)
section
variable{α:Type}{l:List α}{k:Int}{x:α}
theorem At.lo(h:At l x k): -(2 ^ 63)<=k:=by
 cases h with
 |pos n=>exact ZV (by decide) (XU n)
 |neg n h=>
  have a: ((n+1:Nat):Int)<=((100000:Nat):Int):=YD.mpr h
  have b: ((100000:Nat):Int)<=2 ^ 63:=by decide
  have c: -(2 ^ 63:Int)<= -((n+1:Nat):Int):=Int.neg_le_neg (ZV a b)
  rw[Int.negSucc_eq]
  exact c
theorem At.hi(h:At l x k):k<2 ^ 63:=by
 cases h with
 |pos n h=>exact Int.lt_of_lt_of_le (ZW.mpr h) (by decide)
 |neg n=>exact Int.lt_trans (ZQ n) (by decide)
theorem At.seq(h:At l x k):∃j,seqIndex? k l.length=some j/\l[j]?=some x:=by
 cases h with
 |pos n h e=>exact⟨n,PySem.seqIndex_of (XU n) (ZW.mpr (Wv.mp e).1),e⟩
 |neg n _ h e=>exact⟨_,(PySem.seqIndex_neg (ZQ n) (Int.neg_le_neg (YD.mpr h))).trans (congrArg some (Al n _)),e⟩
end
inductive Subs(s:Wp)(o:Value):Prop
 |mk (T:String) (id:String):s.TypeIs o T->typeLookup (.type T) "__getitem__"=pure (some (.builtin id))->Subs s o
theorem yn{l:List V}{y:V}{k:Int}{t:Tok}{a:Addr}{vs:List Value}{Q:Value->Wp->Prop}(hl:s.heap.IsList a vs.toArray)(R:aB ι s.heap l vs)(e:At l y k)(h:∀z,VR ι s.heap y z->Q z s):wpAny (model W.prog W.w) A (getItem (.ref a) (.int k t)) Q E s:=by
 have hi:=e.hi
 have lo:=e.lo
 cases e with
 |pos n _ e=>
  obtain⟨z,hz,V⟩:=R.get e
  exact wpAny_getItem_list hl (XU n) hi (by rw[X9];exact hz) (h z V)
 |neg n _ q e=>
  obtain⟨z,hz,V⟩:=R.get e
  rw[R.len]at hz q
  exact wpAny_getItem_list_neg hl (ZQ n) (Int.neg_le_neg (YD.mpr q)) lo (by rw[Al,X9];exact hz) (h z V)
theorem jM{α:Type}{P:Prop}{o:Option α}{σ:St}{r:R α}(e:R.of o σ=r)(n:r≠.bad)(k:∀x,o=some x-> .ok x σ=r->P):P:=a8 e n k
theorem lM{x k:V}{r:R V}{u v:Value}{Q:Value->Wp->Prop}(I:ay W ι σ s.heap)(Vx:VR ι s.heap x u)(Vk:VR ι s.heap k v)(he:item σ x k=r)(hr:r≠.bad)
  (h:∀y z tk,.ok y σ=r->VR ι s.heap y z->Q z {s with toks:=tk}):Subs s u/\wpAny (model W.prog W.w) A (getItem u v) Q E s:=by
 cases x with
 |tup l=>
  refine aR (show fp k (λz=>.of (FM l z) σ) .bad=r from he) hr λz ek e=>jM e hr λy hy e=>Vx.tup λa vs ea T _ R=>?_
  subst ek ea
  obtain⟨t,rfl⟩:=Vk
  have hy:=uU hy
  obtain⟨j,h1,h2⟩:=hy.seq
  obtain⟨z,hz,V⟩:=R.get h2
  rw[R.len]at h1
  exact⟨⟨_,_,T.typeIs,a07.lookup⟩,getItem_tuple T hy.lo hy.hi h1 (by rw[X9];exact hz) (h y z s.toks e V)⟩
 |str x=>
  refine aR (show fp k (λz=>opt (FM x z) (λc=>.ok (.str [c]) σ) .bad) .bad=r from he) hr λz ek e=>a8 e hr λc hc e=>?_
  subst ek
  obtain⟨t,rfl⟩:=Vx
  obtain⟨t',rfl⟩:=Vk
  have hc:=uU hc
  obtain⟨j,h1,h2⟩:=hc.seq
  refine⟨⟨_,_,typeIs_str s _ t,slot_str_getitem.lookup⟩,PyProof.Rows.getItem_str (c:=c) ?_ ?_ (h _ _ _ e ⟨_,rfl⟩)⟩
  ·rw[decide_eq_false (Int.not_lt.mpr hc.lo),decide_eq_false (Int.not_le.mpr hc.hi)];rfl
  ·rw[show(af x).length=x.length from rfl,h1]
   exact(X9 ..).trans h2
 |ref i=>
  refine a8 he hr λo hx he=>?_
  cases o with
  |lst l=>
   refine aR (show fp k (λz=>.of (FM l z) σ) .bad=r from he) hr λz ek e=>jM e hr λy hy e=>I.lst hx Vx λa vs n ea ha hlen hl R=>?_
   subst ek ea
   obtain⟨t,rfl⟩:=Vk
   exact⟨⟨_,_,hl.isList.typeIs,slot_list_getitem.lookup⟩,yn hl.isList R (uU hy) λz V=>h y z s.toks e V⟩
  |sd es=>
   refine cS he hr λn ek e=>jM e hr λy hy e=>I.sd hx Vx λd vs ed ha D R hne=>ly R hy λz hz V=>?_
   subst ek ed
   obtain⟨t,rfl⟩:=Vk
   exact⟨⟨_,_,D.mapOf.typeIs,slot_dict_getitem.lookup⟩,wpAny_getItem_of (pv W n t) D.mapOf hz (h y z _ e V)⟩
  |_=>exact(hr he.symm).elim
 |_=>exact(hr he.symm).elim
theorem sq{value slice:Wk}{o i:Value}{ls:List Value}{Q:Value->Wp->Prop}(S:Subs s o)(e:subscripted slice false o i=operate ls (getItem o i))(hg:wpAny (model W.prog W.w) A (getItem o i) Q E s):wpAny (model W.prog W.w) A (subscriptTail value slice o i) Q E s:=by
 obtain⟨T,id,hT,hl⟩:=S
 unfold subscriptTail
 rw[getitemInPython_of_ne hT.not_modules]
 refine Wj (Wj (ZL hT hl (Ws (Wj ?_))))
 show wpAny (model W.prog W.w) A (subscripted slice false o i) _ E s
 rw[e]
 exact wpAny_operating (WK hg (λr s₃ h₃=>Wj (ZE (Ws h₃))) λ_ _ z=>z)
theorem Subs.push{o:Value}{b:Obj}(h:Subs s o):Subs {s with heap:=s.heap.push b} o:=by
 obtain⟨T,id,hT,hl⟩:=h
 refine⟨T,id,?_,hl⟩
 cases o with
 |ref a=>
  obtain⟨q,hq,hc⟩:=hT
  exact⟨q,Wr _ hq,hc⟩
 |_=>exact hT
theorem tM{env:Wy}{value:Wk}{lower upper:Option Wk}{p pos:Pos}{Q:Value->Wp->Prop}
  (h:wpAny (model W.prog W.w) A (eval value env) (λo s₁=>wpAny (model W.prog W.w) A (evalPart lower env) (λvl s₂=>wpAny (model W.prog W.w) A (evalPart upper env) (λvu s₃=>
   Subs s₃ o/\wpAny (model W.prog W.w) A (getItem o (.ref s₃.heap.objs.size)) Q E {s₃ with heap:=s₃.heap.push {cls:= .type "slice",data:= .fields #[vl,vu,.none]}}) E s₂) E s₁) E s):
  wpAny (model W.prog W.w) A (eval (.Subscript value (.Slice lower upper none p) pos) env) Q E s:=by
 refine Subscript_ (WK h (λo s₁ h₁=>wpAny_Slice (WK h₁ (λvl s₂ h₂=>WK h₂ (λvu s₃ h₃=>?_) λ_ _ z=>z) λ_ _ z=>z)) λ_ _ z=>z)
 rw[evalPart_none]
 exact Ws (sq h₃.1.push rfl h₃.2)
theorem ii{v:Value}{k:Option Nat}(h:partOf v k):IsPart v (k.map λn=>(n:Int)):=by
 cases k with
 |none=>cases h;exact .none
 |some n=>obtain⟨t,rfl⟩:=h;exact .int _ _
theorem Oz(o:Option Nat)(n:Nat):kms_lo (o.map λn=>(n:Int)) n=loN o n:=by
 cases o with
 |none=>exact(Nat.zero_min n).symm
 |some k=>exact if_neg (t:=n-(-(k:Int)).toNat) (e:=min k n) (Int.not_lt.mpr (XU k))
theorem Oh(o:Option Nat)(n:Nat):kms_hi (o.map λn=>(n:Int)) n=hiN o n:=by
 cases o with
 |none=>exact(ZY n).symm
 |some k=>exact if_neg (t:=n-(-(k:Int)).toNat) (e:=min k n) (Int.not_lt.mpr (XU k))
theorem slicePick_cut(l:List Value)(lo hi:Option Nat):slicePick l.toArray (lo.map λn=>(n:Int)) (hi.map λn=>(n:Int)) none=(cut l lo hi).toArray:=by
 rw[kms_pick_eq,kms_pick,Oz,Oh,OJ]
theorem oA{α:Type}{o:Option V}{v:Value}{h:Heap}{f:Option Nat->R α}{r:R α}{P:Prop}(e:wC o f=r)(n:r≠.bad)(hv:opt o (λx=>VR ι h x v) (v=.none))(g:∀k,partOf v k->f k=r->P):P:=by
 cases o with
 |none=>exact g none hv e
 |some x=>
  refine aR (show fp x (λz=>nat z (λn=>f (some n)) .bad) .bad=r from e) n λz ez e=>l9 e n λk ek e=>g (some k) ?_ e
  subst ez ek
  exact hv
end
section
variable{W:Wd}{A:X7}{E:Value->Wp->Prop}{s:Wp}{ι:List Addr}{σ:St}
theorem jh{h:Heap}{l:List V}:∀{vs:List Value} {ns:List Int},fH l=some ns->aB ι h l vs->∃xs:List (Int × Tok),vs=xs.map (λp=>a04 p.1 p.2)/\xs.map (·.1)=ns:=by
 induction l with
 |nil=>exact λe H=>⟨[],H.nil,Wn e⟩
 |cons v l ih=>
  refine λhe H=>H.cons λu vs eu V R=>aR he ad λi ei e1=>a8 e1 ad λms hm e=>?_
  subst ei
  obtain⟨t,ev⟩:=V
  obtain⟨xs,e1,e2⟩:=ih hm R
  exact⟨(i,t)::xs,by rw[eu,ev,e1];rfl,(congrArg (i:: ·) e2).trans (Wn e)⟩
theorem j9(xs:List (Int × Tok)): (xs.map λp=>a04 p.1 p.2).toArray=intItems xs.toArray:=by simp[intItems]
theorem SE{us:List Value}(h:us.length<=100001): (us.toArray.size:Int)<2 ^ 63:=by
 rw[WX]
 omega
theorem xR{x:V}{r:R V}{u:Value}(I:ay W ι σ s.heap)(V0:VR ι s.heap x u)(he:Nq σ x=r)(hr:r≠.bad):
  wpAny (model W.prog W.w) A (call (.builtin "len") [u]) (BP W ι s r) E s:=by
 cases x with
 |tup l=>
  refine am he hr λhf e=>V0.tup λa vs ea T _ R=>?_
  subst ea
  rw[R.len]at e hf
  exact len_tuple T (SE (X8 (aN hf))) (EP.here I e.symm ⟨s.toks+1,congrArg (λn:Nat=>a04 n (s.toks+1)) WX⟩ _)
 |str x=>
  refine am he hr λhf e=>?_
  obtain⟨t,rfl⟩:=V0
  exact PySem.P.len_str (Int.not_le.mpr (Int.lt_of_le_of_lt (YD.mpr (show(af x).length<=100000 from aN hf)) (by decide))) (EP.here I e.symm ⟨s.toks+1,rfl⟩ _)
 |ref i=>
  refine aZ he hr λl hx e=>I.lst hx V0 λa vs n ea ha hlen hl R=>?_
  subst ea
  rw[R.len]at e hlen
  exact Calls.call_len_list hl.isList (SE hlen) (EP.here I e.symm ⟨s.toks+1,congrArg (λn:Nat=>a04 n (s.toks+1)) WX⟩ _)
 |_=>exact(hr he.symm).elim
theorem vh{x y:V}{r:R V}{u v:Value}(hh:A.handled=none)(I:ay W ι σ s.heap)(V1:VR ι s.heap x u)(V2:VR ι s.heap y v)(he:G9 σ x y=r)(hr:r≠.bad):
  wpAny (model W.prog W.w) A (call (.builtin "max") [u,v]) (BP W ι s r) E s:=by
 refine aR he hr λa ea e=>aR e hr λb eb e=>?_
 subst ea eb
 obtain⟨t,rfl⟩:=V1
 obtain⟨t',rfl⟩:=V2
 refine max_two_ints hh λh' tk k=>⟨_,_,_,e.symm,I.keeps k,Ev.keeps _ _ k,Sm.mk' s _ _,?_⟩
 by_cases q:a<b
 ·rw[if_pos q,decide_eq_true q];exact⟨_,rfl⟩
 ·rw[if_neg q,decide_eq_false q];exact⟨_,rfl⟩
theorem mF{xs:List (Int × Tok)}{j:Nat}(h:j<xs.length):numAt xs.toArray j=(xs[j]).1:=by
 unfold numAt
 simp[Wt h]
theorem pa{xs:List (Int × Tok)}{k:Nat}(h:k<xs.length): (xs.take (k+1)).map (·.1)=(xs.take k).map (·.1)++[(xs[k]'h).1]:=by
 rw[List.take_add_one,Wt h,Option.toList_some,Yb]
 rfl
theorem yc(x:Int)(l:List Int):∀m,va m (l++[x])=tf (decide (va m l<x)) x (va m l):=by
 induction l with
 |nil=>exact λ_=>rfl
 |cons y l ih=>exact λm=>ih _
theorem sH(p:Int × Tok)(xs:List (Int × Tok))(k:Nat):k<=xs.length->
  argBest (λi j=>decide (numAt (p::xs).toArray i > numAt (p::xs).toArray j)) k<=k/\
  numAt (p::xs).toArray (argBest (λi j=>decide (numAt (p::xs).toArray i > numAt (p::xs).toArray j)) k)=va p.1 ((xs.take k).map (·.1)):=by
 induction k with
 |zero=>exact λ_=>⟨WO _,rfl⟩
 |succ k ih=>
  intro hk
  have hx:numAt (p::xs).toArray (k+1)=(xs[k]'hk).1:=(mF (Nat.succ_lt_succ hk)).trans rfl
  rw[pa hk,yc,argBest]
  have h:=ih (WR hk)
  rw[h.2,hx]
  by_cases q:va p.1 ((xs.take k).map (·.1))<(xs[k]'hk).1
  ·rw[decide_eq_true q];exact⟨WO _,hx⟩
  ·rw[decide_eq_false q];exact⟨X8 h.1,h.2⟩
theorem uR{x:V}{r:R V}{u:Value}(hh:A.handled=none)(I:ay W ι σ s.heap)(V0:VR ι s.heap x u)(he:NO σ x=r)(hr:r≠.bad):
  wpAny (model W.prog W.w) A (call (.builtin "max") [u]) (BP W ι s r) E s:=by
 refine aM he hr λi ei e=>aZ e hr λl hx e=>a8 e hr λns hi e=>I.lst hx (ei▸V0) λd vs n ed ha hlen hl R=>?_
 subst ed
 obtain⟨xs,ev,hxs⟩:=jh hi R
 subst ev hxs
 cases xs with
 |nil=>exact(hr e.symm).elim
 |cons p xs=>
  rw[j9]at hl
  refine max_intList hh hl.isList (by simp) λv h' tk hv k=>?_
  obtain⟨t,rfl⟩:=intItems_at hv
  have hb:=(sH p xs xs.length (WO _)).2
  rw[Zv]at hb
  refine⟨_,_,_,e.symm,I.keeps k,Ev.keeps _ _ k,Sm.mk' s _ _,⟨t,?_⟩⟩
  rw[<-hb]
  simp
theorem Ad(l:List Int):∀m:Int,kg m l=m+kg 0 l:=by
 induction l with
 |nil=>exact λm=>(Int.add_zero m).symm
 |cons x l ih=>
  intro m
  show kg (m+x) l=m+kg (0+x) l
  rw[ih (m+x),ih (0+x),Int.zero_add,Int.add_assoc]
theorem xM(l:List Int)(m x:Int):kg m (l++[x])=kg m l+x:=by
 induction l generalizing m with
 |nil=>rfl
 |cons y l ih=>exact ih (m+y)
theorem mX(xs:List (Int × Tok))(k:Nat):k<=xs.length->preSum (numAt xs.toArray) k=kg 0 ((xs.take k).map (·.1)):=by
 induction k with
 |zero=>exact λ_=>rfl
 |succ k ih=>
  intro hk
  rw[preSum,ih (WR hk),pa hk,xM,mF hk]
theorem kL{x:Int}(h:gU x=true): -(2 ^ 40:Int)<x/\x<2 ^ 40:=⟨of_decide_eq_true (ac h).1,of_decide_eq_true (ac h).2⟩
theorem uX(l:List Int): (l.all gU)=true-> -(2 ^ 40*l.length:Int)<=kg 0 l/\kg 0 l<=2 ^ 40*l.length:=by
 induction l with
 |nil=>exact λ_=>⟨Int.le_refl _,Int.le_refl _⟩
 |cons x l ih=>
  intro h
  have h:=ac (a:=gU x) h
  have ih:=ih h.2
  have hx:=kL h.1
  show _<=kg (0+x) l/\kg (0+x) l<=_
  rw[Ad,a0A]
  omega
theorem Ce{xs:List (Int × Tok)}{j:Nat}(h1: ((xs.map (·.1)).all gU)=true)(hj:j<xs.length)(hz:xs.length<=100000):InLong (numAt xs.toArray j)/\InLong (preSum (numAt xs.toArray) (j+1)):=by
 rw[Xi]at h1
 have hx:=kL (h1 (xs[j]).1 (ZX.mpr ⟨_,List.getElem_mem hj,rfl⟩))
 have h3:=uX ((xs.take (j+1)).map (·.1)) (Xi.mpr λy hy=>h1 y (List.map_subset _ (List.take_subset ..) hy))
 rw[<-mX xs (j+1) hj,Xj,a0B]at h3
 rw[mF hj]
 unfold InLong
 omega
theorem yT{x:V}{r:R V}{u:Value}(hh:A.handled=none)(I:ay W ι σ s.heap)(V0:VR ι s.heap x u)(he:Kr σ x=r)(hr:r≠.bad):
  wpAny (model W.prog W.w) A (call (.builtin "sum") [u]) (BP W ι s r) E s:=by
 refine aM he hr λi ei e=>aZ e hr λl hx e=>a8 e hr λns hi e=>am e hr λhb e=>I.lst hx (ei▸V0) λd vs n ed ha hlen hl R=>?_
 subst ed
 obtain⟨xs,ev,hxs⟩:=jh hi R
 subst ev hxs
 rw[j9]at hl
 have hb:=ac hb
 have hz:=aN hb.2
 rw[Xj]at hz
 refine sum_intList hh hl.isList (λj hj=>Ce hb.1 (WX▸hj) hz) λh' tk t' k=>⟨_,_,_,e.symm,I.keeps k,Ev.keeps _ _ k,Sm.mk' s _ _,⟨t',?_⟩⟩
 rw[mX xs _ (by simp)]
 simp
theorem yK:∀n:Nat,n<64->(toString (n:Int):Str)=af (pZ 10 n):=by decide +kernel
theorem yq{x:V}{r:R V}{u:Value}(I:ay W ι σ s.heap)(V0:VR ι s.heap x u)(he:PH σ x=r)(hr:r≠.bad):
  wpAny (model W.prog W.w) A (call (.type "str") [u]) (BP W ι s r) E s:=by
 refine aR he hr λi ei e1=>l9 e1 hr λn en e2=>am e2 hr λhn e=>?_
 subst ei en
 have hn:=Wl hn
 obtain⟨t,rfl⟩:=V0
 refine PySem.P.str_of_int ?_ (EP.here I e.symm ⟨_,congrArg (λz=>Value.str z _) (yK n hn)⟩ _)
 have: (Yj n).natAbs=n:=rfl
 rw[this]
 have h1:n.log2<=n:=Nat.log2_le_self n
 omega
theorem qK{x:V}{r:R V}{u:Value}(I:ay W ι σ s.heap)(V0:VR ι s.heap x u)(he:JC σ x=r)(hr:r≠.bad):
  wpAny (model W.prog W.w) A (call (.type "tuple") [u]) (BP W ι s r) E s:=by
 refine aM he hr λi ei e=>aZ e hr λl hx e=>I.lst hx (ei▸V0) λa vs n ea ha hlen hl R=>?_
 subst ea
 refine call_tuple_list hl.isList (λh' k=>?_) (szA (R.len▸hlen))
 obtain⟨i1,i2,i3⟩:=lB No (I.keeps k) (R.up (Ev.keeps No ι k))
 exact⟨_,_,_,e.symm,i1,(Ev.keeps No ι k).trans i2,Sm.mk' s _ _,i3⟩
theorem tI{x:V}{r:R V}{u:Value}(I:ay W ι σ s.heap)(V0:VR ι s.heap x u)(he:Q2 σ x=r)(hr:r≠.bad):
  wpAny (model W.prog W.w) A (call (.type "list") [u]) (BP W ι s r) E s:=by
 refine cy he hr λl el e=>am e hr λhf e=>VR.tup (el▸V0) λa vs ea T _ R=>?_
 subst ea
 obtain⟨o,ho,hc,n,hd⟩:=T
 have hz:=X8 (aN hf)
 refine call_list_seq a (.inr rfl) ho hc hd (λh' c' k hL=>?_) (szA (R.len▸hz))
 obtain⟨i1,i2,i3⟩:=pe No I hz R k (aw _) hL
 exact⟨_,_,_,e.symm,i1,i2,Sm.mk' s _ _,i3⟩
end
inductive oR(W:Wd)(env:Wy)(ι:List Addr)(h:Heap)(m:Str->Option Value)(v:V)(n:Str):Prop
 |mk (u:Value):m n=some u->VR ι h v u->oR W env ι h m v n
inductive Fu(env:Wy)(ι:List Addr)(h:Heap)(v:V)(n:Str):Prop
 |mk (c:Addr) (u:Value):env.cells.lookup n=some c->h.IsCell c (some u)->VR ι h v u->Fu env ι h v n
inductive Fy(env:Wy)(h:Heap)(n:Str):Prop
 |mk (c:Addr) (v:Option Value):env.cells.lookup n=some c->h.IsCell c v->Fy env h n
structure Kq(env:Wy)(ι:List Addr)(h:Heap)(c:Addr):Prop where
 id:c∉ι
 loc:c≠env.locals
 is:∃v,h.IsCell c v
structure Fm(W:Wd)(env:Wy)(ρ:Env)(ι:List Addr)(h:Heap):Prop where
 kind:env.scope.kind=.function
 ns:∃m,h.Ns env.locals m/\∀x v n,aa ρ x=some v->W.nm[x]?=some n->env.kindOf n=some .local->oR W env ι h m v n
 cl:∀x v n,aa ρ x=some v->W.nm[x]?=some n->env.kindOf n=some .cell->Fu env ι h v n
 cs:∀n,env.kindOf n=some .cell->Fy env h n
 apart:env.cells.Pairwise λx y=>x.2≠y.2
 out:env.locals∉ι
 outc:∀n c,env.cells.lookup n=some c->Kq env ι h c
 glob:env.globals=mainGlobals
 blt:env.builtins=builtinsNs
 nd:W.nm.Nodup
noncomputable abbrev Xf(env:Wy):Addr->Prop:=λa=>a=env.locals\/∃n,env.cells.lookup n=some a
section
variable{W:Wd}{M:Model}{A:X7}{E:Value->Wp->Prop}{s:Wp}{ι:List Addr}{σ:St}{env:Wy}{ρ:Env}
section
variable{X:Addr->Prop}{ι':List Addr}{h h':Heap}{a:Addr}{v:V}{n:Str}{m:Str->Option Value}
theorem oR.up(x:oR W env ι h m v n)(e:Ev X ι h ι' h'):oR W env ι' h' m v n:=by cases x with |mk u a V=>exact⟨u,a,V.up e⟩
theorem Ev.out(e:Ev X ι h ι' h'){o:Obj}(ho:h.get? a=some o)(hn:a∉ι):a∉ι':=λhm=>(e.fresh a hm).elim hn λq=>ka q ho
theorem Ev.ns(e:Ev X ι h ι' h')(hn:h.Ns a m)(ha:a∉ι)(hX: ¬ X a):h'.Ns a m:=
 let⟨o,es,ep,ho,r⟩:=hn;⟨o,es,ep,e.keep a o ho ha hX,r⟩
theorem Ev.cell(e:Ev X ι h ι' h'){v:Option Value}(hn:h.IsCell a v)(ha:a∉ι)(hX: ¬ X a):h'.IsCell a v:=hn.imp λo z=>⟨e.keep a o z.1 ha hX,z.2⟩
theorem Fm.up(F:Fm W env ρ ι h)(e:Ev X ι h ι' h')(hX: ¬ X env.locals)(hc:∀n c,env.cells.lookup n=some c->¬ X c):Fm W env ρ ι' h':=by
 have cell:∀{n:Str} {c:Addr} {v},env.cells.lookup n=some c->h.IsCell c v->h'.IsCell c v:=λh1 h2=>e.cell h2 (F.outc _ _ h1).id (hc _ _ h1)
 refine⟨F.kind,F.ns.imp λm z=>⟨e.ns z.1 F.out hX,λx v n a b c=>(z.2 x v n a b c).up e⟩,λx v n a b c=>?_,λn a=>?_,F.apart,F.ns.elim λm z=>?_,λn c hp=>?_,F.glob,F.blt,F.nd⟩
 ·cases F.cl x v n a b c with |mk d u h1 h2 h3=>exact⟨d,u,h1,cell h1 h2,h3.up e⟩
 ·cases F.cs n a with |mk d v h1 h2=>exact⟨d,v,h1,cell h1 h2⟩
 ·obtain⟨o,es,ep,ho,_⟩:=z.1
  exact e.out ho F.out
 ·have z:=F.outc n c hp
  exact⟨z.is.elim λv w=>w.elim λo w=>e.out w.1 z.id,z.loc,z.is.imp λv w=>cell hp w⟩
theorem Fm.upN(F:Fm W env ρ ι h)(e:Ev No ι h ι' h'):Fm W env ρ ι' h':=F.up e (λx=>x) λ_ _ _ x=>x
end
theorem Fm.load{x:Nat}{v:V}{n:Str}{Q:Value->Wp->Prop}(F:Fm W env ρ ι s.heap)(e:aa ρ x=some v)(hn:W.nm[x]?=some n)(hk:env.kindOf n=some .local\/env.kindOf n=some .cell)
  (h:∀u,VR ι s.heap v u->Q u s):wpAny M A (loadName env n) Q E s:=by
 rcases hk with hk|hk
 ·refine F.ns.elim λm z=>?_
  cases z.2 x v n e hn hk with |mk u h1 h2=>exact ZF F.kind hk z.1 h1 (h u h2)
 ·cases F.cl x v n e hn hk with |mk c u h1 h2 h3=>exact wpAny_loadName_cell F.kind hk h1 h2 (h u h3)
theorem Ev.ofSame{h h':Heap}{a:Addr}(ι:List Addr)(X:Addr->Prop)(hX:X a)(hs:WY a h h'){o o':Obj}(ho:h.get? a=some o)(ho':h'.get? a=some o')(hcl:∀xs n,o.data≠.seq xs n)
  (hd:∀es n,o.data=.dict es n->∃es' n',o'.data=.dict es' n'):Ev X ι h ι h':=by
 refine⟨λ_ _ e=>e,λb p hb _ hnX=>(hs.2 b λq=>hnX (q▸hX)).trans hb,λ_ ha=>.inl ha,λt vs hn T=>?_,λb p hb=>?_⟩
 ·obtain⟨p,hp,hc,n,hd⟩:=T
  exact⟨hn,p,(hs.2 t λq=>hcl vs.toList.toArray n ((congrArg Obj.data (Wn (ho.symm.trans (q▸hp)))).trans hd)).trans hp,hc,n,hd⟩
 ·rcases Nat.decEq b a with q|q
  ·exact⟨p,(hs.2 b q).trans hb,λes n d=>⟨es,n,d⟩,id⟩
  ·cases Wn (ho.symm.trans (q▸hb))
   exact⟨o',q▸ho',hd,λz=>z.dat.elim λa q=>absurd q (hcl _ _)⟩
theorem ay.ofSame{h h':Heap}{a:Addr}(I:ay W ι σ h)(ha:a∉ι)(h0:W.h0.get? a=none)(hs:WY a h h')(ht:hF ι h ι h'):ay W ι σ h':=
 I.keep (λb hb o e=>(hs.2 b λq=>ha (q▸hb)).trans e) ht λb o e1 e2=>(hs.2 b λq=>ka h0 (q▸e1)).trans e2
section
variable{X:Addr->Prop}{x:Nat}{v:V}{u:Value}{n:Str}{h h':Heap}
theorem Fm.setLoc{m:Str->Option Value}(F:Fm W env ρ ι h)(ev:Ev X ι h ι h')(hs:WY env.locals h h')(V:VR ι h v u)(hn:W.nm[x]?=some n)(hk:env.kindOf n=some .local)(inj:∀y n',W.nm[y]?=some n'->x≠y->n'≠n)
  (hv:∀x v n,aa ρ x=some v->W.nm[x]?=some n->env.kindOf n=some .local->oR W env ι h m v n)(hm:h'.Ns env.locals (λk=>if k=n then some u else m k)):Fm W env (ag ρ x v) ι h':=by
 have cell:∀{n:Str} {c:Addr} {w:Option Value},env.cells.lookup n=some c->h.IsCell c w->h'.IsCell c w:=λhp hc=>hc.sameBut hs (F.outc _ _ hp).loc
 refine⟨F.kind,⟨_,hm,λy w n' a b c=>?_⟩,λy w n' a b c=>?_,λn' a=>?_,F.apart,F.out,λn' c' hp=>?_,F.glob,F.blt,F.nd⟩
 ·refine fE a (λq e=>⟨u,if_pos ?_,(e▸V).up ev⟩) λq a=>?_
  ·exact Wn (b.symm.trans (q▸hn))
  ·cases hv y w n' a b c with |mk z h1 h2=>exact⟨z,(if_neg (inj y n' b q)).trans h1,h2.up ev⟩
 ·refine fE a (λq e=>?_) λq a=>?_
  ·rw[Wn (b.symm.trans (q▸hn)),hk]at c
   exact nomatch c
  ·cases F.cl y w n' a b c with |mk d z h1 h2 h3=>exact⟨d,z,h1,cell h1 h2,h3.up ev⟩
 ·cases F.cs n' a with |mk d w h1 h2=>exact⟨d,w,h1,cell h1 h2⟩
 ·have z:=F.outc n' c' hp
  exact⟨z.id,z.loc,z.is.imp λw h3=>cell hp h3⟩
theorem Fm.setCel{c:Addr}(F:Fm W env ρ ι h)(ev:Ev X ι h ι h')(hs:WY c h h')(V:VR ι h v u)(hn:W.nm[x]?=some n)(hk:env.kindOf n=some .cell)(inj:∀y n',W.nm[y]?=some n'->x≠y->n'≠n)
  (h1:env.cells.lookup n=some c)(hc:h'.IsCell c (some u)):Fm W env (ag ρ x v) ι h':=by
 have cell:∀{d:Addr} {w:Option Value},h.IsCell d w->∃w,h'.IsCell d w:=λ{d w} z=>by
  rcases Nat.decEq d c with e|e
  ·exact⟨w,z.sameBut hs e⟩
  ·exact⟨_,e▸hc⟩
 refine⟨F.kind,F.ns.imp λm z=>⟨z.1.sameBut hs (YQ (F.outc _ _ h1).loc),λy w n' a b c=>?_⟩,λy w n' a b cc=>?_,λn' a=>?_,F.apart,F.out,λn' c' hp=>?_,F.glob,F.blt,F.nd⟩
 ·refine fE a (λq e=>?_) λq a=>(z.2 y w n' a b c).up ev
  rw[Wn (b.symm.trans (q▸hn)),hk]at c
  exact nomatch c
 ·refine fE a (λq e=>⟨c,u,Wn (b.symm.trans (q▸hn))▸h1,hc,(e▸V).up ev⟩) λq a=>?_
  cases F.cl y w n' a b cc with |mk d z g1 g2 g3=>exact⟨d,z,g1,g2.sameBut hs λe=>inj y n' b q (name_of_addr F.apart (mem_of_lookup g1) (e▸mem_of_lookup h1)),g3.up ev⟩
 ·cases F.cs n' a with |mk d w g1 g2=>exact(cell g2).elim λw z=>⟨d,w,g1,z⟩
 ·have z:=F.outc n' c' hp
  exact⟨z.id,z.loc,z.is.elim λw h3=>cell h3⟩
end
theorem Fm.store{X:Addr->Prop}{x:Nat}{v:V}{u:Value}{n:Str}{Q:Unit->Wp->Prop}(I:ay W ι σ s.heap)(F:Fm W env ρ ι s.heap)(V:VR ι s.heap v u)(hn:W.nm[x]?=some n)
  (h0:W.h0.get? env.locals=none)(hc0:∀n c,env.cells.lookup n=some c->W.h0.get? c=none)
  (hk:env.kindOf n=some .local\/env.kindOf n=some .cell)(hXl:X env.locals)(hXc:env.kindOf n=some .cell->∀c,env.cells.lookup n=some c->X c)
  (h:∀h' tk,ay W ι σ h'->Fm W env (ag ρ x v) ι h'->Ev X ι s.heap ι h'->Q () {s with heap:=h',toks:=tk}):
  wpAny M A (storeName env n u) Q E s:=by
 have inj:∀(y:Nat) (n':Str),W.nm[y]?=some n'->x≠y->n'≠n:=λy n' hy hne q=>by
  obtain⟨a1,a2⟩:=Wv.mp hn
  obtain⟨b1,b2⟩:=Wv.mp hy
  exact hne (eY F.nd a1 b1 (a2.trans (q.symm.trans b2.symm)))
 rcases hk with hk|hk
 ·refine F.ns.elim λm z=>wpAny_storeName_local hk z.1 (λh' hn' hs'=>?_) (by rw[F.kind];rfl)
  have hm':=z.1
  obtain⟨o,es,ep,ho,hd,_⟩:=hm'
  have hn'':=hn'
  obtain⟨o',es',ep',ho',hd',_⟩:=hn''
  have ev:Ev X ι s.heap ι h':=Ev.ofSame ι _ hXl hs' ho ho' (λxs n q=>nomatch hd.symm.trans q) (λ_ _ _=>⟨es',ep',hd'⟩)
  exact h h' _ (I.ofSame F.out h0 hs' ev.tup) (F.setLoc ev hs' V hn hk inj z.2 hn') ev
 ·cases F.cs n hk with |mk c v0 h1 h2=>
  refine wpAny_storeName_cell F.kind hk h1 h2 λh' hc' hs'=>?_
  obtain⟨o,ho,hd⟩:=h2
  have hc2:=hc'
  obtain⟨o',ho',hd'⟩:=hc2
  have ev:Ev X ι s.heap ι h':=Ev.ofSame ι _ (hXc hk _ h1) hs' ho ho' (λxs n q=>nomatch hd.symm.trans q) (λes n q=>nomatch hd.symm.trans q)
  exact h h' s.toks (I.ofSame (F.outc _ _ h1).id (hc0 _ _ h1) hs' ev.tup) (F.setCel ev hs' V hn hk inj h1 hc') ev
end
section
variable{W:Wd}{A:X7}{E:Value->Wp->Prop}{s:Wp}{ι:List Addr}{σ:St}
theorem pA{es:List a0w}{kvs:List (Str × Value)}{n:Str}(P:Pairs (sK W) es kvs): (es.find? (·.key.isStr n)).map (·.val)=valueAt kvs n:=by
 rw[<-P.find n]
 congr 1
 induction P with
 |nil=>rfl
 | @cons e kv es kvs h1 h2 h3 ih=>
  have:e.key.isStr n=(sK W).is n e.key:=by
   obtain⟨t,ht⟩:=Value.isStrOf_shape h1
   rw[ht]
   show(kv.1==n)=(kv.1==n)
   rfl
  rw[List.find?_cons,List.find?_cons,this,ih]
theorem kF{es:List a0w}{kvs:List (Str × Value)}(P:Pairs (sK W) es kvs):es.any (·.refKey)=false:=by
 induction P with
 |nil=>rfl
 | @cons e kv es kvs h1 h2 h3 ih=>
  rw[List.any_cons,ih,Bool.or_false]
  obtain⟨t,ht⟩:=Value.isStrOf_shape h1
  simp[a0w.refKey,ht]
theorem gC{od:Obj}{kvs:List (Str × Value)}{n:Str}(D:od.IsDictOf (sK W) kvs):lookIn n od=some (valueAt kvs n):=by
 obtain⟨es,ep,hc,hd,hk,hp,hn⟩:=D
 unfold lookIn
 rw[hd]
 have h1:=pA (n:=n) hp
 have h2:=kF hp
 dsimp only
 cases he:es.toList.find? (·.key.isStr n)with
 |some e=>rw[he]at h1;rw[<-h1];rfl
 |none=>rw[he]at h1;rw[<-h1,h2];rfl
inductive FJ(W:Wd)(ι:List Addr)(h:Heap)(i c d:Nat)(es:List (List Nat × V))(v:Value):Prop
 |mk (a b:Addr) (o od:Obj) (vs:List Value) (ev:v=.ref a) (ha:ι[i]?=some a) (hb:ι[d]?=some b) (IA:InstAt h a o (W.ca c) (some od)) (hd:o.dict=some b) (ho:h.get? b=some od)
  (D:od.IsDictOf (sK W) ((i9 es).zip vs)) (nd: (i9 es).Nodup) (R:aB ι h (xw es) vs):FJ W ι h i c d es v
theorem ay.inst{h:Heap}(I:ay W ι σ h){i c d:Nat}{es:List (List Nat × V)}(e:a6 σ i=some (.inst c d))(e2:a6 σ d=some (.sd es)){v:Value}(V:VR ι h (.ref i) v):FJ W ι h i c d es v:=
 V.elim λa z=>by
  cases I.obj i _ a e z.2 with |mk o b ho hc hd hp hb _=>
  cases I.obj d _ b e2 hb with |mk vs D R=>
  obtain⟨od,hod,r⟩:=Z8.mp D
  exact⟨a,b,o,od,vs,z.1,z.2,hb,⟨ho,hc,by simp[notCls,hp],by rw[hd];exact hod⟩,hd,hod,r,iJ D R,R⟩
structure qZ(W:Wd)(c:Nat)(as:List (List Nat))(k:da):Prop where
 cd:∃cd,clsIn W.K (W.ca c)=some cd/\cd.hasDict=true
 ga:findIn W.K (.ref (W.ca c)) "__getattribute__"=some (some (.builtin "object.__getattribute__"))
 hk:findIn W.K (.ref (W.ca c)) "__getattr__"=some none
 sa:findIn W.K (.ref (W.ca c)) "__setattr__"=some (some (.builtin "object.__setattr__"))
 po:plainOver W.K (W.ca c)=true
 att:∀n∈as,findIn W.K (.ref (W.ca c)) (af n)=some none
 mth:∀p∈k.meths,findIn W.K (.ref (W.ca c)) (af p.1)=some (some (.ref (W.fa p.2)))/\typeIn W.K (.ref (W.fa p.2))=some (.type "function")/\keepIn W.K (.ref (W.fa p.2))=true
 mks:makesIn W.K (W.ca c)=true
 ini:findIn W.K (.ref (W.ca c)) "__init__"=some (some (.ref (W.fa k.init)))/\typeIn W.K (.ref (W.fa k.init))=some (.type "function")
theorem VR.notRef{h:Heap}{x:V}{v:Value}{P:Value->Prop}(V:VR ι h x v)(k: (∀a,P (.ref a))/\P .none/\(∀b,P (.bool b))/\(∀i t,P (.int i t))/\∀s t,P (.str s t)):P v:=by
 cases x with
 |none=>cases V;exact k.2.1
 |bool b=>cases V;exact k.2.2.1 b
 |int i=>obtain⟨t,rfl⟩:=V;exact k.2.2.2.1 _ t
 |str x=>obtain⟨t,rfl⟩:=V;exact k.2.2.2.2 _ t
 |tup l=>exact V.tup λa vs e _ _ _=>e▸k.1 a
 |ref i=>obtain⟨a,rfl,_⟩:=V;exact k.1 a
theorem AX{i c d:Nat}{es:List (List Nat × V)}{n:List Nat}{x:V}{v:Value}{as:List (List Nat)}{k:da}{expr:Bool}{Q:Value->Wp->Prop}(X:W.K.In s.heap)(C:qZ W c as k)(hn:n∈as)(I:ay W ι σ s.heap)
  (e:a6 σ i=some (.inst c d))(e2:a6 σ d=some (.sd es))(e3:ax es n=some x)(V0:VR ι s.heap (.ref i) v)(h:∀u tk,VR ι s.heap x u->Q u {s with toks:=tk}):
  wpAny (model W.prog W.w) A (getAttr v (af n) expr) Q E s:=by
 cases I.inst e e2 V0 with |mk a b o od vs ev ha hb IA hd ho D nd R=>
 refine ly R e3 λu hu V=>C.cd.elim λcd hcd=>?_
 subst ev
 refine get_value X IA C.ga (v:=u) ?_ ?_ (h u _ V)
 ·unfold findObj
  rw[hcd.1]
  simp only[Yk,C.att n hn]
  unfold PySem.W.ownOf
  rw[hcd.2,if_pos rfl]
  simp only[gC (n:=af n) D,hu,Yk]
 ·exact V.notRef (P:=λu=>handedIn u=true) ⟨λ_=>rfl,rfl,λ_=>rfl,λ_ _=>rfl,λ_ _=>rfl⟩
theorem BF{i c d f:Nat}{es:List (List Nat × V)}{m:List Nat}{v:Value}{as:List (List Nat)}{k:da}{pl:Sem Bool}{Q:Value × List Value->Wp->Prop}(X:W.K.In s.heap)(C:qZ W c as k)(hm: (m,f)∈k.meths)(I:ay W ι σ s.heap)
  (e:a6 σ i=some (.inst c d))(e2:a6 σ d=some (.sd es))(e3:ax es m=none)(V0:VR ι s.heap (.ref i) v)(h:Q (.ref (W.fa f),[v]) s):
  wpAny (model W.prog W.w) A (getMethod v (af m) pl) Q E s:=by
 cases I.inst e e2 V0 with |mk a b o od vs ev ha hb IA hd ho D nd R=>
 subst ev
 have z:=C.mth _ hm
 refine method_fn X IA C.ga C.hk z.1 z.2.1 ?_ h
 show(lookIn (af m) od).map (·.isSome)=some false
 rw[gC D,vD R e3]
 rfl
theorem AG{o:Obj}{kvs:List (Str × Value)}{n:Str}{v:Value}{tk:Tok}(D:o.IsDictOf (sK W) kvs):
  (Obj.putName n (YS W.w.params n) (.str n tk) v o).IsDictOf (sK W) (stored kvs n v)/\∃es' n',(Obj.putName n (YS W.w.params n) (.str n tk) v o).data=.dict es' n'/\es'.size<=kvs.length+1:=by
 obtain⟨es,ep,hc,hd,hk,hp,hn⟩:=D
 obtain⟨cls,dd,data,sl⟩:=o
 dsimp only at hd
 subst hd
 have hkey: (sK W).is n (.str n tk)=true:=by show(n==n)=true;simp
 have hh: (sK W).hash n=YS W.w.params n:=rfl
 have same: (es.findIdx? λe=>e.key.isStr n)=es.findIdx? λe=>(sK W).is n e.key:=by
  congr 1
  funext e
  show e.key.isStr n=Value.isStrOf n e.key
  cases e.key<;>rfl
 rw[Obj.putName_eq]
 unfold Obj.putNameByArray
 dsimp only
 rw[same]
 have hidx: (es.findIdx? λe=>(sK W).is n e.key)=kvs.findIdx? λkv=>decide (kv.1=n):=by
  rw[<-hp.findIdx n];obtain⟨l⟩:=es;simp
 have hsz:es.size=kvs.length:=by have:=hp.length;simpa using this
 cases hi:es.findIdx? λe=>(sK W).is n e.key with
 |some i=>
  refine⟨⟨_,_,hc,rfl,hk.modify _ _,?_,?_⟩,⟨_,_,rfl,by simp;omega⟩⟩
  ·rw[stored,if_pos (any_of_findIdx_some (hidx▸hi))]
   have hl: (es.toList.findIdx? λe=>(sK W).is n e.key)=some i:=by rw[<-hi];obtain⟨l⟩:=es;simp
   have:=hp.modify hn hl v
   obtain⟨l⟩:=es
   simpa using this
  ·rw[stored,if_pos (any_of_findIdx_some (hidx▸hi)),keys_map_store];exact hn
 |none=>
  have hnot:n∉kvs.map (·.1):=not_mem_of_findIdx_none (hidx▸hi)
  have hany: ¬ (kvs.any λkv=>decide (kv.1=n))=true:=by
   rw[List.any_eq_true];rintro ⟨kv,hkv,he⟩
   exact hnot (ZX.mpr ⟨kv,hkv,of_decide_eq_true he⟩)
  refine⟨⟨_,_,hc,rfl,hk.push hkey _,?_,?_⟩,⟨_,_,rfl,by simp;omega⟩⟩
  ·rw[stored,if_neg hany]
   have:=hp.append hkey (YS W.w.params n) v
   obtain⟨l⟩:=es
   simpa using this
  ·rw[stored,if_neg hany,Yb,Zl]
   refine⟨hn,by simp,?_⟩
   intro a ha b hb
   simp only[YH,List.map_nil,WF]at hb
   subst hb
   exact λe=>hnot (e▸ha)
theorem jJ{b:Addr}{od:Obj}{kvs:List (Str × Value)}{n:Str}{v:Value}{Q:Unit->Wp->Prop}(hod:s.heap.get? b=some od)(D:od.IsDictOf (sK W) kvs)(hl:kvs.length<=100000)
  (h:∀h' o' tk,h'.get? b=some o'->o'.IsDictOf (sK W) (stored kvs n v)->WY b s.heap h'->o'.data.pastItsLine=none->Q () {s with heap:=h',toks:=tk}):wpAny (model W.prog W.w) A (nsSet b n v) Q E s:=by
 obtain⟨P1,es',n',P2,P3⟩:=AG (n:=n) (v:=v) (tk:=s.toks) D
 obtain⟨es₀,n₀,hc₀,hd₀,hk₀,hp₀,hn₀⟩:=D
 have upd:=Xw (Obj.putName n (YS W.w.params n) (.str n s.toks) v) hod (Obj.isFreed_of_dict P2)
 unfold nsSet
 refine Wj (Wj (wpAny_askSetting (Ws (Wj (wpAny_mkText (Wj (a08 hod ?_)))))))
 rw[hd₀]
 dsimp only
 rw[aRefKeyMayBeTheName_at,show(!es₀.any (·.key.isStr n)&&es₀.any (·.refKey))=false by rw[<-Array.any_toList,<-Array.any_toList,kF hp₀,Bool.and_false]]
 exact wpAny_updatePart hod (h _ _ _ upd P1 (XQ ..) (by rw[P2];exact pastItsLine_dict (Wz P3 (XV (yW (Wz hl (by decide)))))))
theorem ay.setSd{h h':Heap}{d:Nat}{b:Addr}{o':Obj}{es:List (List Nat × V)}{vs:List Value}{n:List Nat}{x:V}{u:Value}(I:ay W ι σ h)(e2:a6 σ d=some (.sd es))(hb:ι[d]?=some b)(nd: (i9 es).Nodup)(R:aB ι h (xw es) vs)(Vx:VR ι h x u)
  (hg:h'.get? b=some o')(P1:o'.IsDictOf (sK W) (stored ((i9 es).zip vs) (af n) u))(hs:WY b h h'):ay W ι (az σ d (.sd (bw es n x))) h'/\Ev No ι h ι h':=by
 have ev:Ev No ι h ι h':=Ev.set No I e2 hb hs hg (λ_ _ _ _ _=>by obtain⟨es',n',_,hd,_⟩:=P1;exact⟨es',n',hd⟩)
 cases zZ (n:=n) Vx nd R with |mk ws s1 s2 s3=>exact⟨I.set e2 hb hs (o':= .sd (bw es n x)) (DR.mk ws (s1▸Z8.mpr ⟨_,hg,P1⟩) (s2.up ev)) λ_ z=>(nomatch z),ev⟩
theorem pq{es:List (List Nat × V)}{vs:List Value}(hf:aU es.length=true): ((i9 es).zip vs).length<=100000:=by
 rw[List.length_zip,i9,Xj]
 exact Wz (ZK ..) (aN hf)
theorem Cz{i c d:Nat}{es:List (List Nat × V)}{n:List Nat}{x:V}{v u:Value}{as:List (List Nat)}{k:da}{Q:Unit->Wp->Prop}(X:W.K.In s.heap)(C:qZ W c as k)(hn:n∈as)(I:ay W ι σ s.heap)
  (e:a6 σ i=some (.inst c d))(e2:a6 σ d=some (.sd es))(hf:aU es.length=true)(V0:VR ι s.heap (.ref i) v)(Vx:VR ι s.heap x u)
  (h:∀h' tk,ay W ι (az σ d (.sd (bw es n x))) h'->Ev No ι s.heap ι h'->Q () {s with heap:=h',toks:=tk}):
  wpAny (model W.prog W.w) A (setAttr v (af n) u) Q E s:=by
 cases I.inst e e2 V0 with |mk a b o od vs ev ha hb IA hd hod D nd R=>
 subst ev
 refine C.cd.elim λcd hcd=>set_plain X IA C.sa (osa_open (s:={s with toks:=s.toks+1}) X IA C.po (r:=none) (by unfold takerIn;rw[C.att n hn];rfl) λbb=>?_)
 obtain⟨hx,hcl,hnn,-⟩:=IA
 obtain⟨oc,odi,oda,osl⟩:=o
 dsimp only at hcl hd
 subst hcl hd
 refine Wj (Ws (Wj (Wj (a08 hx (Wj (Looks.here (s:={s with toks:=s.toks+1}) (looks_clsIn X hcd.1) ?_))))))
 rw[hcd.2]
 refine Ws (a:=some b) (Wj (Ws (Wj (jJ (s:={s with toks:=s.toks+1}) hod D (pq hf) λh' o' tk hg P1 hs pl=>?_))))
 have z:=I.setSd e2 hb nd R Vx hg P1 hs
 exact Wj (a0C hg pl (Ws (h _ tk z.1 z.2)))
end
end Mine
end
section
open PySem PySem.W
open Sem (wp)
namespace Mine
section
variable{prog:Yz}{w:World}{A:X7}{E:Value->Wp->Prop}{h:Heap}{g:Array GenState}{d:Drawn}{t:Nat}{os:Xy}
variable{nm q:Str}{C N:Addr}{bs bm bmB:List Value}{hdct:Bool}{sn:List Str}{sub:List Value}{ab:Bool}{col:Option Bool}{dd:Option Addr}{k0 k1 k2 k3 k5:Option Value}{B newId initId:String}
noncomputable abbrev cZ(C t:Addr):Obj:={cls:= .ref C,data:= .fields #[.ref t,.none,.none,.none,.bool false,.none]}
theorem D9{R:Result->Wp->Prop}(F:ExcBaseFacts B newId initId bmB)(hB:bm.contains (.type B)=true)(hA:bm.contains (.type "AttributeError")=false)(hN:bm.contains (.type "NameError")=false){rest:List Value}
  (hC:h.get? C=some (excClassObj nm q C N bs bm hdct sn sub ab col dd k0 k1 k2 k3 k5 newId))
  (hq:R (.ok (.ret (.ref (h.objs.size+1)))) ⟨(h.push {cls:= .type "tuple",data:= .seq rest.toArray}).push (cZ C h.objs.size),g,d,t,os⟩)(hrest:rest.length<=sizeLine):
  codeAny (model prog w) A (.builtin newId ⟨.ref C::rest,[]⟩) R ⟨h,g,d,t,os⟩:=by
 have hends:=F.ends
 have hcB: (Xn C::bm).contains (.type B)=true:=by rw[XW,hB,ZZ]
 have hcA: (Xn C::bm).contains (.type "AttributeError")=false:=by rw[XW,hA];rfl
 have hcN: (Xn C::bm).contains (.type "NameError")=false:=by rw[XW,hN];rfl
 refine codeAny_builtinAt F.entry ?_
 unfold XD.«BaseException.__new__»
 refine wpAt_bind ?_
 show wpAt _ _ _ (stack >>= _) _ _ _
 refine wpAt_bind (wpAt_stack λp below=>wpAt_of_wpAny ?_)
 wp_walk
 refine wpAt_of_wpAny ?_
 rw[F.owner]
 repeat (first|with_reducible refine wpAny_madeHere_exc F.canon hC ?_|with_reducible refine Y7 hC ?_| (with_reducible refine Z3 hC ?_;first|rw[hcB]|rw[hcA]|rw[hcN])|wp_step)
 show R _ _
 rw[Y1]
 exact hq
theorem yB(F:ExcBaseFacts B newId initId bmB)(hB:bm.contains (.type B)=true){M:Model}{rest:List Value}{Q:Unit->Wp->Prop}(hC:h.get? C=some (excClassObj nm q C N bs bm hdct sn sub ab col dd k0 k1 k2 k3 k5 newId))
  (hq:Q () ⟨h,g,d,t,os⟩):wpAny M A (checkBuiltinCall newId ⟨.ref C::rest,[]⟩) Q E ⟨h,g,d,t,os⟩:=by
 have hcont: (Xn C::bm).contains (.type B)=true:=by rw[XW,hB,ZZ]
 have hstar:=F.noStar
 simp only[checkBuiltinCall,F.newKind,F.newSplit,F.newRow]
 repeat (first|refine Y7 hC ?_| (refine Z3 hC ?_;rw[hcont])|refine wpAny_staticBase_exc hC ?_|refine wpAny_madeBy_exc hC ?_|simp only[bne_self_eq_false,Ze,if_false]|wp_step)
 exact hq
theorem nO(F:ExcBaseFacts B newId initId bmB)(hB:bm.contains (.type B)=true)(hA:bm.contains (.type "AttributeError")=false)(hN:bm.contains (.type "NameError")=false){rest:List Value}{fI:Addr}{oI:Obj}{Q:PySem.Fin->Wp->Prop}
  (hC:h.get? C=some (excClassObj nm q C N bs bm hdct sn sub ab col dd k0 k1 k2 k3 k5 newId))(hi:Looks (model prog w) h (typeLookup (.ref C) "__init__") (some (.ref fI)))
  (hfI:h.get? fI=some oI)(hfc:oI.cls=.type "function")(hrest:rest.length<=sizeLine)
  (hq:wpAny (model prog w) A (call (.ref fI) (.ref (h.objs.size+1)::rest)) (λr s'=>r=.none/\Q (.done (.ret (.ref (h.objs.size+1)))) s') E
   ⟨(h.push {cls:= .type "tuple",data:= .seq rest.toArray}).push (cZ C h.objs.size),g,d,t,os⟩):
  wpAny (model prog w) A (XD.«type.__call__» ⟨.ref C::rest,[]⟩) Q E ⟨h,g,d,t,os⟩:=by
 repeat (first|with_reducible refine Y7 hC ?_|with_reducible refine wpAny_madeBy_exc hC ?_|wp_step)
 refine codeAny_call_builtin_code (a09 _ F.quiet) (yB F hB hC ?_)
 refine D9 F hB hA hN hC ?_ hrest
 show wpAny _ _ _ _ _ _
 have hC₁:=Wr (cZ C h.objs.size) (Wr {cls:= .type "tuple",data:= .seq rest.toArray} hC)
 have hfI₁:=Wr (cZ C h.objs.size) (Wr {cls:= .type "tuple",data:= .seq rest.toArray} hfI)
 have hget: ((h.push {cls:= .type "tuple",data:= .seq rest.toArray}).push (cZ C h.objs.size)).get? (h.objs.size+1)=some (cZ C h.objs.size):=by heap_get
 have hcC: (Xn C::bm).contains (.ref C)=true:=by simp
 have hi₁:=hi.keeps (h':=(h.push {cls:= .type "tuple",data:= .seq rest.toArray}).push (cZ C h.objs.size)) λb o e=>Wr _ (Wr _ e)
 unfold isInstance
 repeat (first|with_reducible refine Y7 hget ?_| (with_reducible refine Z3 hC₁ ?_;rw[hcC])|wp_step)
 show wpAny _ _ (typeLookup (.ref C) _) _ _ _
 refine hi₁.at ?_
 refine X3 (Wj ?_)
 unfold bindSpecial
 refine Wj (wpAny_typeOf (T:="function") ⟨_,hfI₁,hfc⟩ ?_)
 rw[if_pos (by decide)]
 refine Ws (Wj (WK hq (λr s' hr=>?_) λ_ _ x=>x))
 obtain⟨rfl,hQ⟩:=hr
 wp_walk
 exact hQ
theorem A0(F:ExcBaseFacts B newId initId bmB)(hB:bm.contains (.type B)=true)(hA:bm.contains (.type "AttributeError")=false)(hN:bm.contains (.type "NameError")=false){rest:List Value}{fI:Addr}{oI:Obj}{Q:Value->Wp->Prop}
  (hC:h.get? C=some (excClassObj nm q C N bs bm hdct sn sub ab col dd k0 k1 k2 k3 k5 newId))(hi:Looks (model prog w) h (typeLookup (.ref C) "__init__") (some (.ref fI)))
  (hfI:h.get? fI=some oI)(hfc:oI.cls=.type "function")(hrest:rest.length<=sizeLine)
  (hq:wpAny (model prog w) (A.under (.builtin "type.__call__" ⟨.ref C::rest,[]⟩)) (call (.ref fI) (.ref (h.objs.size+1)::rest)) (λr s'=>r=.none/\Q (.ref (h.objs.size+1)) s') E
   ⟨(h.push {cls:= .type "tuple",data:= .seq rest.toArray}).push (cZ C h.objs.size),g,d,t,os⟩):
  wpAny (model prog w) A (call (.ref C) rest) Q E ⟨h,g,d,t,os⟩:=by
 have f1:=tc_lookup
 have f2:=PySem.tc_bind (.ref C)
 have hT: (⟨h,g,d,t,os⟩:Wp).TypeIs (.ref C) "type":=⟨_,hC,rfl⟩
 refine a0a (codeAny_of_tree ?_)
 show wpAny _ _ (callAny (.ref C) _) _ _ _
 repeat (any_goals (first|assumption|with_reducible refine Y7 hC ?_|wp_step))
 refine⟨rfl,?_⟩
 refine codeAny_call_builtin_at (a09 _ (by decide +kernel)) entry_typeCall (wpAny_check_type_call_sub hC (nO F hB hA hN hC hi hfI hfc hrest ?_))
 exact hq
end
end Mine
end
section
open PySem PySem.W
open Builtin Builtin.ObjectAttr
namespace Mine
inductive Aj(W:Wd):Prop
 |mk {nm q N bs sn sub ab col dd k0 k1 k2 k3 k5} (bm:List Value):W.h0.get? (W.ca 2)=some (excClassObj nm q (W.ca 2) N bs bm true sn sub ab col dd k0 k1 k2 k3 k5 "Exception.__new__")->
  bm.contains (.type "Exception")=true->bm.contains (.type "AttributeError")=false->bm.contains (.type "NameError")=false->bm.contains (.type "object")=true->bm.contains (.type "BaseException")=true->
  (∀self,refuseLoop self "__setattr__" bm=pure ())->Aj W
structure rR(W:Wd)(as:List (List Nat))(init:Nat):Prop where
 cls:Aj W
 kcls:∃cd,clsIn W.K (W.ca 2)=some cd/\cd.hasDict=true
 sa:findIn W.K (.ref (W.ca 2)) "__setattr__"=some (some (.builtin "object.__setattr__"))
 ga:findIn W.K (.ref (W.ca 2)) "__getattribute__"=some (some (.builtin "BaseException.__getattribute__"))
 hk:findIn W.K (.ref (W.ca 2)) "__getattr__"=some none
 att:∀n∈as,findIn W.K (.ref (W.ca 2)) (af n)=some none
 ini:findIn W.K (.ref (W.ca 2)) "__init__"=some (some (.ref (W.fa init)))/\typeIn W.K (.ref (W.fa init))=some (.type "function")
 kin:W.K.In W.h0
section
variable{W:Wd}{A:X7}{E:Value->Wp->Prop}{s:Wp}{ι:List Addr}{σ:St}
theorem wF{as:List (List Nat)}{init:Nat}{x:Addr}{ox:Obj}{n:List Nat}{tk:Tok}{v:Value}{R:Result->Wp->Prop}(X:rR W as init)(k:∀b o,W.h0.get? b=some o->s.heap.get? b=some o)(hn:n∈as)
  (hx:s.heap.get? x=some ox)(hc:ox.cls=.ref (W.ca 2))
  (h:∀b,wpAny (model W.prog W.w) A.in1 (storeInOwnDict (.ref x) (.ref (W.ca 2)) (.str (af n) tk) (af n) v b)
   (λfin s'=>match fin with | .done f=>R (.ok f) s'| .again c'=>c'.quiet=true/\codeAny (model W.prog W.w) A c' R s') (λe s'=>R (.error e) s') s):
  codeAny (model W.prog W.w) A (.call (.builtin "object.__setattr__") ⟨[.ref x,.str (af n) tk,v],[]⟩) R s:=by
 obtain⟨bm,hC0,b1,b2,b3,b4,b5,pass⟩:=X.cls
 have hC:=k _ _ hC0
 have Xs:W.K.In s.heap:=X.kin.keeps k
 have SF:=PySem.F.store_object
 obtain⟨hh,g,d,tt,os⟩:=s
 have tp:Looks (model W.prog W.w) hh (typeOf (.ref x)) (.ref (W.ca 2)):=hc▸(Looks.ld hx).andThen .now
 have hm:Looks (model W.prog W.w) hh (mroOf (.ref (W.ca 2))) (.ref (W.ca 2)::bm):=((Looks.ld (part:=none) hC).andThen .now).andThen .now
 have sub:Looks (model W.prog W.w) hh (isInstance (.ref x) (.type "object")) true:=by
  refine tp.andThen ?_
  unfold isSubtype
  refine hm.andThen ?_
  dsimp only
  rw[if_neg (by simp),XW,b4,ZZ]
  exact .now
 refine codeAny_call_builtin SF.slot.plain SF.entry (@check_slot (model W.prog W.w) _ _ _ "object.__setattr__" "object" "__setattr__" (.ref x) [.str (af n) tk,v] [] _ SF.kind SF.split sub (SF.args (.ref x) (.str (af n) tk) v) ?_)
 rw[osa_eq,refuse_eq]
 refine Wj (Wj (tp.at (Wj (hm.at ?_))))
 rw[refuseLoop_ref,pass]
 refine Ws (Wj (tp.at (Wj ((a00 Xs (X.att n hn)).at (Wj ?_)))))
 exact Ws (h _)
inductive Ql(W:Wd)(ι:List Addr)(h:Heap)(i:Nat)(d:Option Nat)(v:Value):Prop
 |mk (a:Addr) (o:Obj) (t:Addr) (ev:v=.ref a) (ha:ι[i]?=some a) (g:h.get? a=some o) (hc:o.cls=.ref (W.ca 2)) (hd:o.data=.fields #[.ref t,.none,.none,.none,.bool false,.none]) (ex:Ti ι o d):Ql W ι h i d v
theorem ay.exc{h:Heap}(I:ay W ι σ h){i:Nat}{d:Option Nat}(e:a6 σ i=some (.exc d)){v:Value}(V:VR ι h (.ref i) v):Ql W ι h i d v:=
 V.elim λa z=>by cases I.obj i _ a e z.2 with |mk o t g hc hd ex=>exact⟨a,o,t,z.1,z.2,g,hc,hd,ex⟩
theorem DG{as:List (List Nat)}{init:Nat}{i d:Nat}{es:List (List Nat × V)}{n:List Nat}{x:V}{v u:Value}{Q:Unit->Wp->Prop}(X:rR W as init)(hn:n∈as)(I:ay W ι σ s.heap)
  (e:a6 σ i=some (.exc (some d)))(e2:a6 σ d=some (.sd es))(hf:aU es.length=true)(V0:VR ι s.heap (.ref i) v)(Vx:VR ι s.heap x u)
  (h:∀h' tk,ay W ι (az σ d (.sd (bw es n x))) h'->Ev No ι s.heap ι h'->Q () {s with heap:=h',toks:=tk}):
  wpAny (model W.prog W.w) A (setAttr v (af n) u) Q E s:=by
 cases I.exc e V0 with |mk a o t ev ha hx hc hdat ex=>
 subst ev
 refine WS ex λb z=>?_
 cases I.obj d _ b e2 z.2 with |mk vs D0 R=>
 have nd:=iJ D0 R
 obtain⟨od,hod,D⟩:=Z8.mp D0
 have Xs:W.K.In s.heap:=X.kin.keeps I.base
 have hd:=z.1
 refine X.kcls.elim λcd hcd=>set_plain (od:=some od) Xs ⟨hx,hc,by simp[notCls,hdat],by rw[hd];exact hod⟩ X.sa (wF (s:={s with toks:=s.toks+1}) X I.base hn hx hc λbb=>?_)
 obtain⟨oc,odi,oda,osl⟩:=o
 dsimp only at hc hd
 subst hc hd
 refine Wj (Ws (Wj (Wj (a08 hx (Wj (Looks.here (s:={s with toks:=s.toks+1}) (looks_clsIn Xs hcd.1) ?_))))))
 rw[hcd.2]
 refine Ws (a:=some b) (Wj (Ws (Wj (jJ (s:={s with toks:=s.toks+1}) hod D (pq hf) λh' o' tk hg P1 hs pl=>?_))))
 have y:=I.setSd e2 z.2 nd R Vx hg P1 hs
 exact Wj (a0C hg pl (Ws (h _ tk y.1 y.2)))
theorem ay.setExc{h h':Heap}{i:Nat}{a t:Addr}{o:Obj}(I:ay W ι σ h)(e:a6 σ i=some (.exc none))(ha:ι[i]?=some a)(hx:h'.get? a=some o)(hc:o.cls=.ref (W.ca 2))(hd:o.data=.fields #[.ref t,.none,.none,.none,.bool false,.none])
  (ho:o.dict=some h.objs.size)(h0:∃p,h.get? a=some p/\∀es n,p.data≠.dict es n)(hs:WY a (h.push {cls:= .type "dict",data:= .dict #[]}) h'):
  ay W (ι++[h.objs.size]) (az (σ++[.sd []]) i (.exc (some σ.length))) h'/\Ev No ι h (ι++[h.objs.size]) h'/\(ι++[h.objs.size])[σ.length]?=some h.objs.size/\a6 (az (σ++[.sd []]) i (.exc (some σ.length))) σ.length=some (.sd []):=by
 have ev:=Ev.new No ι (aq h {cls:= .type "dict",data:= .dict #[]}) (aw h)
 have I1:ay W (ι++[h.objs.size]) (σ++[.sd []]) (h.push {cls:= .type "dict",data:= .dict #[]}):=I.new (aq _ _) (aw _) (DR.mk [] (Heap.DictOf.new _) trivial)
 rw[aj]at e
 have hi:=(Wv.mp e).1
 have e1:a6 (σ++[.sd []]) i=some (.exc none):=(aj ..).trans ((WE hi).trans e)
 have ha1: (ι++[h.objs.size])[i]?=some a:=(WE (Wv.mp ha).1).trans ha
 have hb1: (ι++[h.objs.size])[σ.length]?=some h.objs.size:=I.len▸aP _ _
 refine⟨I1.set e1 ha1 hs (XR.mk o t hx hc hd ⟨_,ho,hb1⟩) λ_ z=>(nomatch z),ev.trans (Ev.set No I1 e1 ha1 hs hx λp es n hp hdd=>?_),hb1,?_⟩
 ·refine h0.elim λq z=>absurd hdd ?_
  rw[<-Wn ((Wr _ z.1).symm.trans hp)]
  exact z.2 es n
 ·rw[aj,cC,ZC (XA hi)]
  exact aP _ _
theorem yb{i:Nat}{o p q:O}(hi:i<σ.length):az (az (σ++[o]) i p) σ.length q=az (σ++[q]) i p:=by
 rw[cC,cC,cC,List.set_comm _ _ (XA hi)]
 congr 1
 rw[List.set_append_right _ _ (WO _),Nat.sub_self]
 rfl
theorem zt{as:List (List Nat)}{init:Nat}{i:Nat}{n:List Nat}{x:V}{v u:Value}{Q:Unit->Wp->Prop}(X:rR W as init)(hn:n∈as)(I:ay W ι σ s.heap)
  (e:a6 σ i=some (.exc none))(V0:VR ι s.heap (.ref i) v)(Vx:VR ι s.heap x u)
  (h:∀h' tk ι',ay W ι' (az (σ++[.sd [(n,x)]]) i (.exc (some σ.length))) h'->Ev No ι s.heap ι' h'->Q () {s with heap:=h',toks:=tk}):
  wpAny (model W.prog W.w) A (setAttr v (af n) u) Q E s:=by
 cases I.exc e V0 with |mk a o t ev ha hx hc hdat hd=>
 subst ev
 have Xs:W.K.In s.heap:=X.kin.keeps I.base
 have hd:o.dict=none:=hd
 refine X.kcls.elim λcd hcd=>set_plain (od:=none) Xs ⟨hx,hc,by simp[notCls,hdat],by rw[hd];trivial⟩ X.sa (wF (s:={s with toks:=s.toks+1}) X I.base hn hx hc λbb=>?_)
 obtain⟨oc,odi,oda,osl⟩:=o
 dsimp only at hc hd hdat
 subst hc hd hdat
 refine Wj (Ws (Wj (Wj (a08 hx (Wj (Looks.here (s:={s with toks:=s.toks+1}) (looks_clsIn Xs hcd.1) ?_))))))
 rw[hcd.2]
 have hx₁: (s.heap.push {cls:= .type "dict",data:= .dict #[]}).get? a=some _:=Wr _ hx
 show wpAny _ _ (alloc {cls:= .type "dict",data:= .dict #[]} >>= _) _ _ _
 refine Wj (wpAny_alloc (Wj (wpAny_update hx₁ (Ws (a:=some s.heap.objs.size) (Wj (Ws (Wj ?_)))))))
 have hod: ((s.heap.push {cls:= .type "dict",data:= .dict #[]}).update a λo=>{o with dict:=some s.heap.objs.size}).get? s.heap.objs.size=some {cls:= .type "dict",data:= .dict #[]}:=
  (WL _ _ (XA (XO hx))).trans (WA _ rfl)
 have y:=I.setExc e ha (Xw (λo=>{o with dict:=some s.heap.objs.size}) hx₁ rfl) rfl rfl rfl ⟨_,hx,λ_ _ z=>nomatch z⟩ (XQ ..)
 refine jJ (kvs:=[]) hod ⟨#[],0,⟨rfl,rfl,rfl⟩,rfl,(λe he=>absurd he (by simp)),.nil,Yw⟩ (Xu _) λh' o' tk hg P1 hs pl=>?_
 have z:=y.1.setSd (n:=n) (es:=[]) (vs:=[]) y.2.2.2 y.2.2.1 Yw trivial (Vx.up y.2.1) hg P1 hs
 rw[aj]at e
 have z1:=z.1
 rw[show bw [] n x=[(n,x)]from rfl,yb (Wv.mp e).1]at z1
 exact Wj (a0C hg pl (Ws (h _ tk _ z1 (y.2.1.trans z.2))))
end
end Mine
end
section
open PySem PySem.W
namespace Mine
noncomputable abbrev gf:List Nat:=[107,105,110,100]
inductive Tr(W:Wd)(h:Heap)(e:Addr)(vs:Array Value)(fl:Value->Prop):Prop
 |mk (T:Addr) (oT:Obj) (ts:Array Value) (x:Value):vs[1]?=some (.ref T)->W.h0.get? T=none->T≠e->h.get? T=some oT->oT.data=.fields ts->ts[3]?=some x->fl x->Tr W h e vs fl
inductive Be(W:Wd)(l:List Wy)(e:Addr)(k:List Nat)(h:Heap)(P:Array Value->Prop):Prop
 |mk (oe:Obj) (vs:Array Value) (d:Addr) (kvs:List (Str × Value)) (tk:Tok):h.get? e=some oe->oe.cls=.ref (W.ca 2)->oe.dict=some d->oe.data=.fields vs->vs.size=6->h.DictOf (sK W) d kvs->valueAt kvs (af gf)=some (.str (af k) tk)->
  (∀env∈l,env.frame≠some d)->P vs->Be W l e k h P
structure w3(W:Wd)(l:List Wy)(e:Addr)(k:List Nat)(h:Heap)(P:Array Value->Prop):Prop where
 base:W.h0.StaysIn h
 new:W.h0.get? e=none
 ff:h.FunFrames W.h0 l
 obj:Be W l e k h P
noncomputable abbrev ip(W:Wd)(L:Addr)(l:List Wy)(e:Addr)(k:List Nat)(h:Heap):Prop:=w3 W l e k h λvs=>vs[1]?=some .none\/Tr W h e vs λ_=>True
noncomputable abbrev cx(W:Wd)(L:Addr)(l:List Wy)(e:Addr)(k:List Nat)(h:Heap):Prop:=w3 W l e k h λvs=>Tr W h e vs λx=>x=rawInt L
noncomputable abbrev fA(W:Wd)(l:List Wy)(e:Addr)(k:List Nat)(h:Heap):Prop:=w3 W l e k h λvs=>Tr W h e vs λx=>x=.none
theorem w3.mono{W:Wd}{l:List Wy}{e:Addr}{k:List Nat}{h:Heap}{P Q:Array Value->Prop}(x:w3 W l e k h P)(q:∀vs,P vs->Q vs):w3 W l e k h Q:=by
 obtain⟨b,n,f,oe,vs,d,kvs,tk,h1,h2,h3,h4,h5,h6,h7,h8,h9⟩:=x
 exact⟨b,n,f,oe,vs,d,kvs,tk,h1,h2,h3,h4,h5,h6,h7,h8,q vs h9⟩
theorem cx.any{W:Wd}{L:Addr}{l:List Wy}{e:Addr}{k:List Nat}{h:Heap}(x:cx W L l e k h):ip W L l e k h:=x.mono λvs ⟨T,oT,ts,y,a,b,c,d,f,g,_⟩=>.inr ⟨T,oT,ts,y,a,b,c,d,f,g,trivial⟩
theorem fA.any{W:Wd}(L:Addr){l:List Wy}{e:Addr}{k:List Nat}{h:Heap}(x:fA W l e k h):ip W L l e k h:=x.mono λvs ⟨T,oT,ts,y,a,b,c,d,f,g,_⟩=>.inr ⟨T,oT,ts,y,a,b,c,d,f,g,trivial⟩
theorem fA.pop{W:Wd}{env:Wy}{l:List Wy}{e:Addr}{k:List Nat}{h:Heap}(x:fA W (env::l) e k h):fA W l e k h:=by
 obtain⟨b,n,f,oe,vs,d,kvs,tk,h1,h2,h3,h4,h5,h6,h7,h8,h9⟩:=x
 exact⟨b,n,f.2.2,oe,vs,d,kvs,tk,h1,h2,h3,h4,h5,h6,h7,(λenv' hm=>h8 env' (WZ _ hm)),h9⟩
structure Ds(e:Addr)(h h':Heap):Prop where
 data:∀b o,h.get? b=some o->(∀vs,o.data≠.fields vs)->∃o',h'.get? b=some o'/\o'.cls=o.cls/\o'.data=o.data
 dct:∀oe',h'.get? e=some oe'->∃oe,h.get? e=some oe/\oe.dict=oe'.dict
theorem Ds.refl(e:Addr)(h:Heap):Ds e h h:=⟨λ_ o e _=>⟨o,e,rfl,rfl⟩,λo e=>⟨o,e,rfl⟩⟩
theorem Ds.trans{e:Addr}{h h₁ h₂:Heap}(x:Ds e h h₁)(y:Ds e h₁ h₂):Ds e h h₂:=⟨λb o eb n=>by
 obtain⟨o₁,e₁,c₁,d₁⟩:=x.data b o eb n
 obtain⟨o₂,e₂,c₂,d₂⟩:=y.data b o₁ e₁ (by rw[d₁];exact n)
 exact⟨o₂,e₂,c₂.trans c₁,d₂.trans d₁⟩,λo₂ e₂=>by
 obtain⟨o₁,e₁,d₁⟩:=y.dct o₂ e₂
 obtain⟨o,e,d⟩:=x.dct o₁ e₁
 exact⟨o,e,d.trans d₁⟩⟩
theorem nX{env env':Wy}(h:env.frame=env'.frame):frameOf env=frameOf env':=by unfold frameOf;rw[h]
section
variable{W:Wd}{A:X7}{E:Value->Wp->Prop}{s:Wp}{L e:Addr}{k:List Nat}{env env0:Wy}{outer:List Wy}
theorem lX{h:Heap}{b:Addr}{o:Obj}(ho:h.get? b=some o)(hn:∀vs,o.data≠.fields vs){c:Addr}{p:Obj}{vs:Array Value}(hp:h.get? c=some p)(hd:p.data=.fields vs):b≠c:=λq=>by
 subst q;rw[ho]at hp;cases hp;exact hn vs hd
theorem w3.turn{l:List Wy}{h:Heap}{P Q:Array Value->Prop}(x:w3 W l e k h P){T:Addr}{oT:Obj}{ts:Array Value}(hT:h.get? T=some oT)(hdT:oT.data=.fields ts)(hne:T≠e)(hnT:W.h0.get? T=none){i:Nat}{y:Value}
  (q:∀vs,P vs->Q vs):w3 W l e k (h.update T (Zy (·.setIfInBounds i y))) Q:=by
 obtain⟨b,n,f,oe,vs,d,kvs,tk,h1,h2,h3,h4,h5,h6,h7,h8,h9⟩:=x
 have other:∀c,c≠T->(h.update T (Zy (·.setIfInBounds i y))).get? c=h.get? c:=λc hc=>WL _ _ (YQ hc)
 refine⟨λc o hc=>(other c λz=>by rw[z,hnT]at hc;cases hc).trans (b c o hc),n,f.of_keeps λc o hc hn=>⟨o,(other c (lX hc hn hT hdT)).trans hc,rfl⟩,
  oe,vs,d,kvs,tk,(other e (YQ hne)).trans h1,h2,h3,h4,h5,?_,h7,h8,q vs h9⟩
 obtain⟨o,es,ep,ho,hx,hd,r⟩:=h6
 exact⟨o,es,ep,(other d (lX ho (λvs z=>by rw[hd]at z;cases z) hT hdT)).trans ho,hx,hd,r⟩
theorem oF{head:Value}{hadNext:Bool}{Q:Unit->Wp->Prop}(hfr:A.frames=some (env0::outer))(hf0:env0.frame=some L)(hf:env.frame=some L){P:Array Value->Prop}(x:w3 W (env0::outer) e k s.heap P)
  (h:∀h',cx W L (env0::outer) e k h'->Ds e s.heap h'->Q () {s with heap:=h'}):
  wpAny (model W.prog W.w) A (do let a<-frameOf env;let pl<-entryPlaceOf L hadNext;let b<-EntryCells.newEntry head a .none (rawInt L) .none pl;setField (.ref e) 1 b) Q E s:=by
 obtain⟨hkb,hen,hl,oe,vs,d,kvs,tk,he,hcls,hdict,hd,hsz,hD,hk,hdf,_⟩:=x
 have hene:e∉(env0::outer).filterMap (·.frame):=λhm=>by
  obtain⟨_,o,ho,hnf⟩:=hl.mem hm
  rw[he]at ho;injection ho with ho;subst ho;exact hnf vs hd
 rw[nX (hf.trans hf0.symm)]
 refine Wj (wpAny_frameOf_fun hfr hl hf0 λh₁ hs₁=>?_)
 refine Wj (wpAny_entryPlaceOf λpl hpl=>?_)
 unfold EntryCells.newEntry newFields
 refine Wj (Y6 ?_ (hpl.sizeOk5 _ _ _ _ _))
 have he₁:h₁.get? e=some oe:=(hs₁.2.1 e hene).trans he
 have kb₁:W.h0.StaysIn h₁:=λb o hbo=>(hs₁.2.1 b λhm=>by rw[(hl.mem hm).1]at hbo;cases hbo).trans (hkb b o hbo)
 have he₂:=Wr (h:=h₁) {cls:= .type "traceback",dict:=none,data:= .fields ([head,.ref L,.none,rawInt L,.none]++(if pl.isEmpty then Xk 6 XK else pl)).toArray} he₁
 have hTe:h₁.objs.size≠e:=YB (XO he₁)
 have hd₃:=XX hd (·.setIfInBounds 1 (Xn h₁.objs.size))
 have he₃:=Xw (Zy (·.setIfInBounds 1 (Xn h₁.objs.size))) he₂ (YM hd₃)
 have hT₃:=(WL (h₁.push {cls:= .type "traceback",dict:=none,data:= .fields ([head,.ref L,.none,rawInt L,.none]++(if pl.isEmpty then Xk 6 XK else pl)).toArray})
  (Zy (·.setIfInBounds 1 (Xn h₁.objs.size))) (YQ hTe)).trans (WA h₁ rfl)
 refine YX he₂ hd (by omega) (h _ ?_ ⟨λb o hb hnf=>?_,λoe' hoe'=>?_⟩)
 rotate_left
 ·obtain⟨sl,hs⟩:=hs₁.2.2 b o hb
  have hbe:b≠e:=λq=>by rw[q,he]at hb;injection hb with hb;subst hb;exact hnf vs hd
  refine⟨_,(WL _ _ (YQ hbe)).trans (Wr _ hs),rfl,rfl⟩
 ·rw[he₃]at hoe'
  cases hoe'
  refine⟨oe,he,?_⟩
  obtain⟨c,dd,dt,sl⟩:=oe
  cases dt<;>rfl
 have keep:∀b o,b≠e->h₁.get? b=some o->
   ((h₁.push {cls:= .type "traceback",dict:=none,data:= .fields ([head,.ref L,.none,rawInt L,.none]++(if pl.isEmpty then Xk 6 XK else pl)).toArray}).update e (Zy (·.setIfInBounds 1 (Xn h₁.objs.size)))).get? b=some o:=
  λb o hbe hb=>by
   rw[WL _ _ (YQ hbe)]
   exact Wr _ hb
 have noRecord:∀b o,s.heap.get? b=some o->(∀vs,o.data≠.fields vs)->b≠e:=λb o hb hnf q=>by
  rw[q,he]at hb;injection hb with hb;subst hb;exact hnf vs hd
 have hdict': (oe.mapFields (·.setIfInBounds 1 (Xn h₁.objs.size))).dict=some d:=by
  obtain⟨c,dd,dt,sl⟩:=oe
  dsimp only at hd;subst hd;exact hdict
 refine⟨λb o hbo=>keep b o (λq=>by rw[q,hen]at hbo;cases hbo) (kb₁ b o hbo),hen,hl.of_keeps λb o hb hnf=>?_,_,_,d,kvs,tk,he₃,(Obj.cls_mapFields _ _).trans hcls,hdict',hd₃,by simp[hsz],?_,hk,hdf,?_⟩
 ·obtain⟨sl,hs⟩:=hs₁.2.2 b o hb
  exact⟨_,keep b _ (noRecord b o hb hnf) hs,rfl⟩
 ·obtain⟨o,es,ep,ho,hx,hdd,r⟩:=hD
  have hdn:d∉(env0::outer).filterMap (·.frame):=λhm=>by
   obtain⟨env',h1,h2⟩:=List.mem_filterMap.mp hm
   exact hdf env' h1 h2
  exact⟨o,es,ep,keep d o (noRecord d o ho λvs z=>by rw[hdd]at z;cases z) ((hs₁.2.1 d hdn).trans ho),hx,hdd,r⟩
 ·exact⟨h₁.objs.size,_,_,_,by simp[hsz],kb₁.fresh,hTe,hT₃,rfl,by first| (simp;done)| (rcases hpl with rfl| ⟨_,_,_,_,_,_,_,rfl⟩<;>simp),rfl⟩
theorem lI{Q:Unit->Wp->Prop}(hfr:A.frames=some (env0::outer))(hf0:env0.frame=some L)(hf:env.frame=some L)(x:ip W L (env0::outer) e k s.heap)
  (h:∀h',cx W L (env0::outer) e k h'->Ds e s.heap h'->Q () {s with heap:=h'}):wpAny (model W.prog W.w) A (noteFrame (.ref e) env) Q E s:=by
 have x':=x
 obtain⟨hkb,hen,hl,oe,vs,d,kvs,tk,he,hcls,hdict,hd,hsz,hD,hk,hdf,hv⟩:=x'
 unfold noteFrame
 simp only[hf]
 rcases hv with h1| ⟨T,oT,ts,y,h1,hnT,hTe,hT,hdT,h3,hy⟩
 ·refine Wj (X2 he hd h1 ?_)
  rw[if_neg (by decide)]
  exact oF hfr hf0 hf x h
 ·refine Wj (X2 he hd h1 ?_)
  rw[if_pos (show(Xn T != XK)=true from by simp)]
  refine Wj (X2 hT hdT h3 ?_)
  by_cases hyy: (y==rawInt L)=true
  ·rw[if_pos hyy]
   have:=beq_iff_eq.mp hyy
   subst this
   exact Ws (h s.heap ⟨hkb,hen,hl,oe,vs,d,kvs,tk,he,hcls,hdict,hd,hsz,hD,hk,hdf,⟨T,oT,ts,_,h1,hnT,hTe,hT,hdT,h3,rfl⟩⟩ (Ds.refl _ _))
  ·rw[if_neg hyy]
   refine Wj (YX hT hdT (Yl.mp h3).1 ?_)
   have y:=x.turn (Q:=λ_=>True) hT hdT hTe hnT (i:=3) (y:=XK) λ_ _=>trivial
   refine oF (s:={s with heap:=_}) hfr hf0 hf y λh' x' d'=>h h' x' (Ds.trans ⟨λb o hb hn=>⟨o,?_,rfl,rfl⟩,λoe' ho=>⟨oe',?_,rfl⟩⟩ d')
   ·exact(WL _ _ (YQ (lX hb hn hT hdT))).trans hb
   ·exact(WL _ _ hTe).symm.trans ho
theorem fG{l:List Wy}{fr:Option Addr}{Q:Unit->Wp->Prop}(x:cx W L l e k s.heap)
  (h:∀h',w3 W l e k h' (λvs=>Tr W h' e vs λx=>x=fr.elim .none λf=>rawInt f)->Ds e s.heap h'->Q () {s with heap:=h'}):wpAny (model W.prog W.w) A (setFlight (.ref e) fr) Q E s:=by
 have x':=x
 obtain⟨hkb,hen,hl,oe,vs,d,kvs,tk,he,hcls,hdict,hd,hsz,hD,hk,hdf,T,oT,ts,y,h1,hnT,hTe,hT,hdT,h3,hy⟩:=x'
 have hsz3:=(Yl.mp h3).1
 unfold setFlight
 refine Wj (X2 he hd h1 ?_)
 rw[if_pos (show(Xn T != XK)=true from by simp)]
 refine YX hT hdT hsz3 (h _ ?_ ⟨λb o hb hn=>⟨o,(WL _ _ (YQ (lX hb hn hT hdT))).trans hb,rfl,rfl⟩,λoe' ho=>⟨oe',(WL _ _ hTe).symm.trans ho,rfl⟩⟩)
 have x2:w3 W l e k s.heap λvs'=>vs'=vs:=⟨hkb,hen,hl,oe,vs,d,kvs,tk,he,hcls,hdict,hd,hsz,hD,hk,hdf,rfl⟩
 refine x2.turn hT hdT hTe hnT λvs' q=>?_
 subst q
 exact⟨T,_,_,_,h1,hnT,hTe,Xw _ hT (YM (XX hdT _)),XX hdT _,by simp[hsz3],rfl⟩
theorem xN{L':Addr}{Q:Unit->Wp->Prop}(hfr:A.frames=some (env0::outer))(hf0:env0.frame=some L)(hf:env.frame=some L)(x:ip W L (env0::outer) e k s.heap)
  (h:∀h',ip W L' outer e k h'->Ds e s.heap h'->Q () {s with heap:=h'}):wpAny (model W.prog W.w) A (leaving env (.ref e)) Q E s:=by
 unfold leaving
 refine Wj (lI hfr hf0 hf x λh₁ x₁ d₁=>?_)
 exact fG (s:={s with heap:=h₁}) (fr:=none) x₁ λh₂ x₂ d₂=>h h₂ (fA.any L' (fA.pop x₂)) (d₁.trans d₂)
theorem Ac(hf:env.frame=some L){l:List Wy}(x:cx W L l e k s.heap)(h:∀h',cx W L l e k h'->Ds e s.heap h'->E (.ref e) {s with heap:=h'}):
  cameBackBy (model W.prog W.w) A env E (.ref e) s:=by
 obtain⟨hkb,hen,hl,oe,vs,d,kvs,tk,he,hcls,hdict,hd,hsz,hD,hk,hdf,T,oT,ts,y,h1,hnT,hTe,hT,hdT,h3,hy⟩:=id x
 unfold cameBackBy
 refine Wj (X2 he hd h1 ?_)
 rw[if_neg (by simp)]
 rw[hf]
 exact fG x λh' x' d'=>h h' x' d'
theorem z6{α:Type}{what:String}{Q:α->Wp->Prop}(L':Addr){l:List Wy}(x:cx W L l e k s.heap)(h:∀h',ip W L' l e k h'->Ds e s.heap h'->E (.ref e) {s with heap:=h'}):
  wpAny (model W.prog W.w) A (passOn what (.ref e) env) Q E s:=by
 obtain⟨hkb,hen,hl,oe,vs,d,kvs,tk,he,hcls,hdict,hd,hsz,hD,hk,hdf,T,oT,ts,y,h1,hnT,hTe,hT,hdT,h3,hy⟩:=id x
 unfold passOn
 refine Wj (X2 he hd h1 ?_)
 rw[if_neg (by simp)]
 refine Wj (fG x λh' x' d'=>wpAny_throw (h h' (x'.mono λvs ⟨T,oT,ts,y,a,b,c,d,f,g,_⟩=>.inr ⟨T,oT,ts,y,a,b,c,d,f,g,trivial⟩) d'))
end
theorem vA{S:List (Str × Value)}:∀{ns:List Str} {vs:List Value},ns.length=vs.length->(∀x∈ns.zip vs,S.lookup x.1=some x.2)->(ns.filterMap λn=>(S.lookup n).map (n, ·))=ns.zip vs
 | [],_,_,_=>rfl
 |_::_,[],h,_=>nomatch h
 |n::ns,v::vs,hl,h=>by
  have e: (S.lookup n).map (n, ·)=some (n,v):=congrArg _ (h _ Xr)
  rw[List.filterMap_cons,e]
  exact congrArg _ (vA (YZ hl) λx m=>h x (WZ _ m))
theorem oJ:∀{l:List (Str × Value)},(l.map (·.1)).Nodup->∀x∈l,l.lookup x.1=some x.2
 | [],_,_,m=>nomatch m
 |y::l,h,x,m=>by
  have h':=Y9.mp h
  rw[XY]
  rcases WJ.mp m with e|m
  ·rw[e,beq_self_eq_true]
  ·have q: (x.1==y.1)=false:=beq_false_of_ne λe=>h'.1 (Eq.subst (motive:=λk=>k∈l.map (·.1)) e (ZR m))
   rw[q]
   exact oJ h'.2 x m
theorem uF:∀{l:List (Str × Value)} {n:Str},n∈l.map (·.1)->(l.lookup n).isNone=false
 | [],_,h=>nomatch h
 | (k,v)::l,n,h=>by
  rw[XY]
  cases e:n==k with
  |true=>rfl
  |false=>
   rcases WJ.mp h with q|q
   ·cases q
    cases e.symm.trans (beq_self_eq_true _)
   ·exact uF q
theorem wf:∀{l:List (Str × Value)} {n:Str},n∉l.map (·.1)->(l.lookup n).isNone=true
 | [],_,_=>rfl
 | (k,v)::l,n,h=>by
  have q: (n==k)=false:=beq_false_of_ne λe=>h (e▸Xr)
  rw[XY,q]
  exact wf λm=>h (WZ _ m)
noncomputable def Kz(x:Str × Value)(r:List (Str × Value)):Sem (ForInStep (List (Str × Value))):=
 if(a0k x.fst r).isNone=true then(pure (Yc (r++[(x.fst,x.snd)])):Sem _)else pure (Yc r)
theorem CG{S M:List (Str × Value)}:∀{L:List (Str × Value)},(∀n∈L.map (·.1),n∈S.map (·.1))->forIn (L++M) S Kz=forIn M S Kz
 | [],_=>rfl
 |x::L,h=>by
  have e:Kz x S=pure (.yield S):=if_neg λq=>by cases(uF (h _ Xr)).symm.trans q
  rw[List.cons_append,Yp,e,Zj]
  exact CG λn m=>h n (WZ _ m)
theorem vm:∀{L S:List (Str × Value)},(S.map (·.1)++L.map (·.1)).Nodup->forIn L S Kz=pure (S++L)
 | [],S,_=>by rw[Xh];rfl
 |x::L,S,h=>by
  have n:x.1∉S.map (·.1):=λm=>(Zl.mp h).2.2 _ m _ Xr rfl
  have e:Kz x S=pure (.yield (S++[x])):=if_pos (wf n)
  have q:forIn L (S++[x]) Kz=pure (S++[x]++L):=vm (by rw[Yb,Xb];exact h)
  rw[Xb]at q
  rw[Yp,e,Zj]
  exact q
theorem Bh{M:Model}{A:X7}{E:Value->Wp->Prop}{α:Type}{Q:α->Wp->Prop}{s:Wp}{a b:Sem α}(h:a=b)(k:wpAny M A b Q E s):wpAny M A a Q E s:=h▸k
theorem mG{fd:Yg}{N1 N2 N3:List Str}{V1 V2 D e:List Value}{o:Option (Array Value)}{s:Wp}
  {as:List Arg}{kd:List (Option Expr)}{dd:List Expr}(hp:fd.params=⟨[],as,none,[],kd,none,dd⟩)(ha:as.map (·.arg)=N1++(N2++N3))
  (hd:∀(M:Model) (A:X7) (E:Value->Wp->Prop) (Q:Option (Array Value)->Wp->Prop),Q o s->wpAny M A (seqItems? fd.defaults) Q E s)(ho: (o.getD #[]).toList=D++e)
  (hn: (N1++(N2++N3)).Nodup)(h1:N1.length=V1.length)(h2:N2.length=V2.length)(h3:N2.length=D.length)(h4:N3.length=e.length):
  BindsTo s fd ⟨V1++V2,[]⟩ ((N1++(N2++N3)).zip (V1++V2++e)):=by
 intro M A E Q hq
 have z: (N1++(N2++N3)).zip (V1++V2)=N1.zip V1++N2.zip V2:=by
  rw[Z9 h1,<-Xh V2,Z9 h2,List.zip_nil_right,Xh,Xh]
 have ks: (N1.zip V1++N2.zip V2).map (·.1)=N1++N2:=by rw[Yb,dz h1,dz h2]
 have h5: (N2++N3).length=(D++e).length:=by rw[Wu,Wu,h3,h4]
 have h6: (N1++(N2++N3)).length-(D++e).length=N1.length:=by rw[Wu,h5,Nat.add_sub_cancel]
 have h7: (D++e).length-(N1++(N2++N3)).length=0:=Zr (by rw[<-h5,Wu (as:=N1)];exact Nat.le_add_left _ _)
 have h8: ¬ (decide ((V1++V2).length > (N1++(N2++N3)).length)&&true)=true:=by
  rw[Bool.and_true,decide_eq_true_iff,Wu,<-h1,<-h2,Wu,Wu,Nat.not_lt,<-Xm]
  exact WC _ _
 obtain⟨n,q,p,b,sc,g,cl,df,kdf,dc,pm,an,co,ct,bu⟩:=fd
 have hp:p=_:=hp
 subst hp
 unfold PySem.bindArgs
 dsimp only[List.map_nil,List.nil_append,Option.isNone_none,Option.isSome_none]
 rw[ha]
 refine Wj (Ws (Wj (hd _ _ _ _ ?_)))
 rw[ho]
 refine fJ h8 (fJ ?_ (Wj (Bh (b:=pure ((N1++(N2++N3)).zip (V1++V2++e))) ?_ (Ws (Wj (Ws (fJ (λq=>?_) (Ws ?_))))))))
 ·show ¬ (!(List.filter (λn=>(a0k n ((N1++(N2++N3)).zip (V1++V2))).isNone) (List.take ((N1++(N2++N3)).length-(List.drop ((D++e).length-(N1++(N2++N3)).length) (D++e)).length) (N1++(N2++N3)))).isEmpty)=true
  rw[h7,List.drop_zero,h6,z,List.take_left' rfl,List.filter_eq_nil_iff.mpr (λn hm q=>by cases(uF (ks▸ZG _ hm)).symm.trans q)]
  exact λq=>nomatch q
 ·show forIn (((N1++(N2++N3)).drop ((N1++(N2++N3)).length-(List.drop ((D++e).length-(N1++(N2++N3)).length) (D++e)).length)).zip (List.drop ((D++e).length-(N1++(N2++N3)).length) (D++e))) ((N1++(N2++N3)).zip (V1++V2)) Kz=_
  rw[h7,List.drop_zero,h6,z,List.drop_left' rfl,Z9 h3,Xb V1,Z9 h1,Z9 h2,<-Xb]
  exact(CG (λn m=>by rw[ks];rw[dz h3]at m;exact Zs _ m)).trans (vm (by rw[ks,dz h4,Xb];exact hn))
 ·cases q
 ·show Q ((N1++(N2++N3)++[]).filterMap λn=>(a0k n ((N1++(N2++N3)).zip (V1++V2++e))).map (n, ·)) s
  have h9: (N1++(N2++N3)).length=(V1++V2++e).length:=by rw[Wu,Wu,Wu,Wu,h1,h2,h4,Xm]
  rw[Xh,vA h9 (oJ (by rw[dz h9];exact hn))]
  exact hq
theorem jR{α:Type}{a b:Nat}(l:List α)(h:l.length=a+b):∃x y,l=x++y/\x.length=a/\y.length=b:=
 ⟨l.take a,l.drop a,(Zq a l).symm,List.length_take_of_le (h▸WC a b),by rw[Yu,h,WH]⟩
theorem si{fd:Yg}{ns:List Str}{vs D e:List Value}{o:Option (Array Value)}{s:Wp}
  {as:List Arg}{kd:List (Option Expr)}{dd:List Expr}(hp:fd.params=⟨[],as,none,[],kd,none,dd⟩)(ha:as.map (·.arg)=ns)
  (hd:∀(M:Model) (A:X7) (E:Value->Wp->Prop) (Q:Option (Array Value)->Wp->Prop),Q o s->wpAny M A (seqItems? fd.defaults) Q E s)(ho: (o.getD #[]).toList=D++e)
  (hn:ns.Nodup)(h1:ns.length=(vs++e).length)(h2: (D++e).length<=ns.length):BindsTo s fd ⟨vs,[]⟩ (ns.zip (vs++e)):=by
 rw[h1,Wu,Wu]at h2
 obtain⟨k,hk⟩:=XZ (Nat.le_of_add_le_add_right h2)
 rw[Wu,hk,Xm]at h1
 obtain⟨V1,V2,rfl,a1,a2⟩:=jR vs hk
 obtain⟨N1,N,rfl,b1,b2⟩:=jR ns h1
 obtain⟨N2,N3,rfl,c1,c2⟩:=jR N b2
 exact mG hp ha hd ho hn (b1.trans a1.symm) (c1.trans a2.symm) c1 c2
inductive OQ(W:Wd)(h:Heap)(env:Wy):Prop
 |mk (L:Addr) (o:Obj) (es:Array a0w) (n:Nat):env.frame=some L->W.h0.get? L=none->h.get? L=some o->o.data=.dict es n->OQ W h env
noncomputable def tB(W:Wd)(h:Heap):List Wy->Prop
 | []=>True
 |env::r=>env.scope.kind≠.module/\OQ W h env/\tB W h r
theorem tB.ff{W:Wd}{h:Heap}:∀{l:List Wy},tB W h l->h.FunFrames W.h0 l
 | [],_=>trivial
 |_::_,H=>by
  obtain⟨a,r,k⟩:=H
  obtain⟨L,o,es,n,b,c,d,e⟩:=r
  exact⟨a,⟨L,o,b,c,d,λvs q=>by rw[e]at q;cases q⟩,k.ff⟩
theorem OQ.up{W:Wd}{X:Addr->Prop}{ι ι':List Addr}{h h':Heap}(ev:Ev X ι h ι' h'){env:Wy}(H:OQ W h env):OQ W h' env:=by
 obtain⟨L,o,es,n,b,c,d,e⟩:=H
 obtain⟨o',h1,h2,_⟩:=ev.there L o d
 obtain⟨es',n',h3⟩:=h2 es n e
 exact⟨L,o',es',n',b,c,h1,h3⟩
theorem tB.up{W:Wd}{X:Addr->Prop}{ι ι':List Addr}{h h':Heap}(ev:Ev X ι h ι' h'):∀{l:List Wy},tB W h l->tB W h' l
 | [],_=>trivial
 |_::_,H=>⟨H.1,H.2.1.up ev,H.2.2.up ev⟩
theorem tB.mem{W:Wd}{h:Heap}:∀{l:List Wy},tB W h l->∀env∈l,∀a,env.frame=some a->∃o,h.get? a=some o
 | [],_,_,hm,_,_=>nomatch hm
 |e::r,H,env,hm,a,ha=>by
  rcases WJ.mp hm with q|q
  ·obtain⟨L,o,_,_,b,_,d,_⟩:=H.2.1
   rw[q,b]at ha
   cases ha
   exact⟨o,d⟩
  ·exact tB.mem H.2.2 env q a ha
inductive Ol(W:Wd)(A:X7)(L:Addr)(h:Heap):Prop
 |mk (e0:Wy) (outer:List Wy):A.frames=some (e0::outer)->e0.frame=some L->tB W h (e0::outer)->Ol W A L h
theorem Ol.up{W:Wd}{A:X7}{L:Addr}{X:Addr->Prop}{ι ι':List Addr}{h h':Heap}(S:Ol W A L h)(ev:Ev X ι h ι' h'):Ol W A L h':=
 let⟨e0,o,a,b,c⟩:=S;⟨e0,o,a,b,c.up ev⟩
inductive z8(W:Wd)(f:Nat)(d:ae)(bd:List Stmt)(sc:Scope):Prop
 |mk (o:Obj) (fd:Yg) (ns:List Str) (as:List Arg) (kd:List (Option Expr)) (dd:List Expr):W.h0.get? (W.fa f)=some o->o.cls=.type "function"->o.data=.func fd->fd.scope=sc->fd.globals=mainGlobals->fd.builtins=builtinsNs->fd.closure=[]->fd.body=.stmts bd->
  W.h0.CodeRec fd.code fd.qualname->fd.params=⟨[],as,none,[],kd,none,dd⟩->as.map (·.arg)=ns->
  ((fd.defaults=.none/\d.dflts=[])\/∃T items,fd.defaults=.ref T/\W.h0.IsTuple T (X0 items)/\aB [] W.h0 d.dflts items)->
  ns.Nodup->d.params.map (W.nm[·]?)=ns.map some->d.dflts.length<=d.params.length->(∀n∈ns,sc.names.lookup n=some .local\/sc.names.lookup n=some .cell)->z8 W f d bd sc
structure zm(W:Wd)(f:Nat)(d:ae)(bd:List Stmt)(sc:Scope):Prop where
 obj:z8 W f d bd sc
 kind:sc.kind=.function
 gen:sc.isGenerator=false
 co:sc.isCoroutine=false
 nlim:W.h0.NoLimit
 nd:W.nm.Nodup
theorem fy:∀(names:List (Str × Z6)) (k:Nat) (acc:List (Str × Addr)) (n:Str),((n,Z6.cell)∈names\/(acc.lookup n).isSome=true)->((cellsFrom k names acc).lookup n).isSome=true
 | [],_,_,_,h=>h.elim (λq=>nomatch q) id
 | (m,kd)::r,k,acc,n,h=>by
  unfold cellsFrom
  split
  ·refine fy r _ _ n ?_
   rcases h with h|h
   ·rcases WJ.mp h with e|h
    ·cases e;exact .inr (by rw[XY];simp)
    ·exact .inl h
   ·refine .inr ?_
    rw[XY]
    split<;>simp_all
  ·rename_i hk
   refine fy r _ _ n ?_
   rcases h with h|h
   ·rcases WJ.mp h with e|h
    ·cases e;simp at hk
    ·exact .inl h
   ·exact .inr h
theorem dN{α:Type}:∀{l:List (Str × α)} {n:Str} {c:α},l.lookup n=some c->(n,c)∈l:=λh=>PySem.mem_of_lookup h
theorem oZ{kd:Str->Option Z6}:∀{r:List (Str × Value)} {m:Str->Option Value} {n:Str},n∉r.map (·.1)->bindL kd r m n=m n
 | [],_,_,_=>rfl
 | (k,v)::r,m,n,h=>by
  simp only[YH,WJ,not_or]at h
  unfold bindL
  rw[oZ h.2]
  split
  ·exact if_neg h.1
  ·rfl
theorem oj{kd:Str->Option Z6}:∀{r:List (Str × Value)} {m:Str->Option Value} {n:Str},n∉r.map (·.1)->bindC kd r m n=m n
 | [],_,_,_=>rfl
 | (k,v)::r,m,n,h=>by
  simp only[YH,WJ,not_or]at h
  unfold bindC
  rw[oj h.2]
  split
  ·rfl
  ·exact if_neg h.1
theorem qL{kd:Str->Option Z6}:∀{r:List (Str × Value)} {m:Str->Option Value} {n:Str} {v:Value},(r.map (·.1)).Nodup->(n,v)∈r->kd n=some .local->bindL kd r m n=some v
 | [],_,_,_,_,h,_=>nomatch h
 | (k,u)::r,m,n,v,hn,h,hk=>by
  have hn':k∉r.map (·.1)/\(r.map (·.1)).Nodup:=Y9.mp hn
  unfold bindL
  rcases WJ.mp h with e|h
  ·cases e
   rw[oZ hn'.1,if_pos hk];simp
  ·exact qL hn'.2 h hk
theorem rC{kd:Str->Option Z6}:∀{r:List (Str × Value)} {m:Str->Option Value} {n:Str} {v:Value},(r.map (·.1)).Nodup->(n,v)∈r->kd n=some .cell->bindC kd r m n=some v
 | [],_,_,_,_,h,_=>nomatch h
 | (k,u)::r,m,n,v,hn,h,hk=>by
  have hn':k∉r.map (·.1)/\(r.map (·.1)).Nodup:=Y9.mp hn
  unfold bindC
  rcases WJ.mp h with e|h
  ·cases e
   rw[oj hn'.1,if_neg (by rw[hk];decide)];simp
  ·exact rC hn'.2 h hk
theorem aB.split{ι:List Addr}{h:Heap}{P:Prop}{xs ys:List V}:∀{us:List Value},aB ι h (xs++ys) us->(∀a b,us=a++b->aB ι h xs a->aB ι h ys b->P)->P:=by
 induction xs with
 |nil=>exact λH k=>k [] _ rfl trivial H
 |cons x xs ih=>exact λH k=>aB.cons (xs:=xs++ys) H λu us e V R=>ih R λa b q p r=>k (u::a) b (e.trans (congrArg _ q)) (XM V p) r
theorem AU{ι:List Addr}{h:Heap}{nm:List Str}{x:Nat}{v:V}{n:Str}(d:nm[x]?=some n){ps:List Nat}:∀{ns:List Str} {xs:List V} {us:List Value},ps.map (nm[·]?)=ns.map some->aB ι h xs us->aa (ps.zip xs) x=some v->∃u,(n,u)∈ns.zip us/\VR ι h v u:=by
 induction ps with
 |nil=>exact λ_ _ c=>absurd c.symm ad
 |cons p ps ih=>
  intro ns xs us a b c
  cases xs with
  |nil=>exact absurd c.symm ad
  |cons y xs=>
  cases ns with
  |nil=>exact nomatch a
  |cons m ns=>
  have a:=Zi.inj a
  refine b.cons λu us e V R=>?_
  subst e
  refine au (b:=Wm p x) (t:=some y) (e:=aa (ps.zip xs) x) c (λe c=>⟨u,?_,Wn c▸V⟩) λ_ c=>(ih a.2 R c).imp λw z=>⟨WZ _ z.1,z.2⟩
  have q:some m=some n:=a.1.symm.trans ((congrArg (λk=>nm[k]?) (Wq e)).trans d)
  exact Wn q▸Xr
section
variable{W:Wd}{A:X7}{E:Value->Wp->Prop}{s:Wp}{ι:List Addr}{σ:St}
inductive Tu(W:Wd)(f:Nat)(bd:List Stmt)(sc:Scope)(ρ:Env)(ι:List Addr)(s:Wp)(vals:List Value):Prop
 |mk (o:Obj) (fd:Yg) (bs:List (Str × Value)):W.h0.get? (W.fa f)=some o->o.data=.func fd->fd.scope=sc->fd.globals=mainGlobals->fd.builtins=builtinsNs->fd.closure=[]->fd.body=.stmts bd->
  W.h0.CodeRec fd.code fd.qualname->BindsTo s fd ⟨vals,[]⟩ bs->(bs.map (·.1)).Nodup->(∀x∈bs,sc.names.lookup x.1=some .local\/sc.names.lookup x.1=some .cell)->
  (∀x v n,aa ρ x=some v->W.nm[x]?=some n->∃u,(n,u)∈bs/\VR ι s.heap v u)->Tu W f bd sc ρ ι s vals
inductive Tv(fd:Yg)(d:ae)(ι:List Addr)(s:Wp):Prop
 |mk (ds:List Value) (oo:Option (Array Value)): (∀(M:Model) (A:X7) (E:Value->Wp->Prop) (Q:Option (Array Value)->Wp->Prop),Q oo s->wpAny M A (seqItems? fd.defaults) Q E s)->(oo.getD #[]).toList=ds->aB ι s.heap d.dflts ds->Tv fd d ι s
theorem Kf{fd:Yg}{d:ae}(I:ay W ι σ s.heap)(hdf: (fd.defaults=.none/\d.dflts=[])\/∃T items,fd.defaults=.ref T/\W.h0.IsTuple T (X0 items)/\aB [] W.h0 d.dflts items):Tv fd d ι s:=by
 rcases hdf with h|h
 ·refine⟨[],none,λM A E Q q=>?_,rfl,by rw[h.2];trivial⟩
  rw[h.1]
  exact Wj (Ws (Ws q))
 ·obtain⟨T,items,e1,t,R⟩:=h
  obtain⟨ot,hot,hct,nt,hdt⟩:=t
  refine⟨items,some items.toArray,λM A E Q q=>?_,rfl,R.mono (λi a e=>by cases e) (λb vs _ t=>?_)⟩
  ·rw[e1]
   exact Y3 (I.base _ _ hot) hdt q
  ·refine⟨I.noTup t,?_⟩
   obtain⟨p,hp,r⟩:=t
   exact⟨p,I.base _ _ hp,r⟩
theorem M6{f:Nat}{d:ae}{bd:List Stmt}{sc:Scope}{vs:List V}{vals:List Value}{ρ:Env}(O:z8 W f d bd sc)(I:ay W ι σ s.heap)(Va:aB ι s.heap vs vals)(hb:Mine.bindArgs d.params d.dflts vs=some ρ):Tu W f bd sc ρ ι s vals:=by
 obtain⟨o,fd,ns,as,kd,dd,ho,_,hdat,hsc,hgl,hbl,hclo,hbody,hcd,hp1,hp2,hdf,hnd,hnm,hdl,hloc⟩:=O
 obtain⟨ds,oo,hds,hoo,hV⟩:=Kf I hdf
 have hnlen:ns.length=d.params.length:=by rw[<-Xj (f:=some),<-hnm,Xj]
 have hdl':ds.length<=ns.length:=by rw[<-hV.len,hnlen];exact hdl
 refine qq hb λDa e hD hl hρ=>aB.split (hD▸hV) λds1 ds2 q _ Ve=>?_
 rw[q]at hoo hdl'
 have hvs:=Va.append Ve
 have hn2:ns.length=(vals++ds2).length:=hnlen.trans (hl.trans hvs.len)
 have hk:=dz hn2
 refine⟨o,fd,_,ho,hdat,hsc,hgl,hbl,hclo,hbody,hcd,si hp1 hp2 hds hoo hnd hn2 hdl',by rw[hk];exact hnd,λx hx=>hloc x.1 (hk▸ZX.mpr ⟨x,hx,rfl⟩),λx v n a b=>AU b hnm hvs (hρ▸a)⟩
theorem Ja{ρ:Env}{env:Wy}{s₁:Wp}{bs:List (Str × Value)}(I:ay W ι σ s.heap)(nd:W.nm.Nodup)(hk:env.scope.kind=.function)(hg:env.globals=mainGlobals)(hb:env.builtins=builtinsNs)(hL:s.heap.get? env.locals=none)
  (X:InCallC s env.locals (bindL env.kindOf bs λ_=>none) env.cells (bindC env.kindOf bs λ_=>none) s₁)(bn: (bs.map (·.1)).Nodup)(cs:∀n,env.kindOf n=some .cell->∃c,env.cells.lookup n=some c)
  (above:∀n c,env.cells.lookup n=some c->s.heap.get? c=none)(ev:Ev No ι s.heap ι s₁.heap)
  (idx:∀x v n,aa ρ x=some v->W.nm[x]?=some n->∃u,(n,u)∈bs/\VR ι s.heap v u):Fm W env ρ ι s₁.heap:=by
 have outι:∀{a:Addr},s.heap.get? a=none->a∉ι:=λh0 hm=>by
  obtain⟨p,hp⟩:=I.have hm
  cases h0.symm.trans hp
 refine⟨hk,⟨_,X.toInCall.ns,λx v n a b c=>?_⟩,λx v n a b c=>?_,λn a=>?_,X.apart,outι hL,λn c hp=>?_,hg,hb,nd⟩
 ·obtain⟨u,hu,Vu⟩:=idx x v n a b
  exact⟨u,qL bn hu c,Vu.up ev⟩
 ·obtain⟨u,hu,Vu⟩:=idx x v n a b
  obtain⟨cc,hcc⟩:=cs n c
  exact⟨cc,u,hcc,rC bn hu c▸X.cell n cc hcc,Vu.up ev⟩
 ·obtain⟨cc,hcc⟩:=cs n a
  exact⟨cc,_,hcc,X.cell n cc hcc⟩
 ·exact⟨outι (above n c hp),YB (X.above n c (dN hp)),_,X.cell n c hp⟩
theorem w1{f:Nat}{d:ae}{bd:List Stmt}{sc:Scope}{vs:List V}{vals:List Value}{ρ:Env}{Q:Value->Wp->Prop}(FO:zm W f d bd sc)(I:ay W ι σ s.heap){fs:List Wy}(hfr:A.frames=some fs)(hff:tB W s.heap fs)(hroom:A.depth<recursionLimit)
  (Va:aB ι s.heap vs vals)(hb:Mine.bindArgs d.params d.dflts vs=some ρ)
  (body:∀(env:Wy) (s₁:Wp),Fm W env ρ ι s₁.heap->ay W ι σ s₁.heap->Ol W (A.deeper env) env.locals s₁.heap->Ev No ι s.heap ι s₁.heap->Sm s s₁->env.scope=sc->env.frame=some env.locals->
   s.heap.get? env.locals=none->(∀n c,env.cells.lookup n=some c->s.heap.get? c=none)->
   wpAny (model W.prog W.w) (A.deeper env) (execs bd env) (λfl s'=>Q (match fl with | .ret v=>v|_=>.none) s')
    (λe s'=>wpAny (model W.prog W.w) (A.deeper env) (leaving env e) (λ_ s''=>E e s'') (λe' s''=>E e' s'') s') s₁):
  codeAny (model W.prog W.w) A (.call (.ref (W.fa f)) ⟨vals,[]⟩) (λr s'=>match r with | .ok (.ret v)=>Q v s'| .ok _=>False| .error e=>E e s') s:=by
 obtain⟨o,fd,bs,ho,hdat,hsc,hgl,hbl,hclo,hbody,hcd,B,bn,hloc,idx⟩:=M6 FO.obj I Va hb
 have hk:=FO.kind
 have hg:=FO.gen
 have hc:=FO.co
 rw[<-hsc]at hk hg hc hloc body
 refine codeAny_call_function hroom (I.base _ _ ho) hdat hc hg hbody (hcd.keeps I.base) (B _ _ _ _ ?_)
 rw[hclo]
 refine wpAny_newFunctionEnv_cells hk (λx hx=>?_) λenv he s₁ X=>?_
 ·rcases hloc x hx with h|h
  ·exact .inl h
  ·exact .inr ⟨h,fy _ _ _ _ (.inl (dN h))⟩
 have e1:env.scope=fd.scope:=congrArg Wy.scope he
 have e2:env.globals=mainGlobals:=(congrArg Wy.globals he).trans hgl
 have e3:env.builtins=builtinsNs:=(congrArg Wy.builtins he).trans hbl
 have e4:env.frame=some env.locals:=by rw[he];rfl
 have e5:s.heap.get? env.locals=none:=by rw[he];exact aw _
 have e6:env.cells=cellsFrom (s.heap.objs.size+1) fd.scope.names []:=congrArg Wy.cells he
 clear he
 have cs:∀n,env.kindOf n=some .cell->∃c,env.cells.lookup n=some c:=λn h=>by
  rw[e6]
  exact a0n.mp (fy _ _ _ _ (.inl (dN (e1▸h))))
 clear e6
 have hkeep:=X.toInCall.keep
 have above:∀n c,env.cells.lookup n=some c->s.heap.get? c=none:=λn c hm=>YU (Y0 (X5 X.toInCall.fresh (X.above n c (dN hm))))
 have ev:Ev No ι s.heap ι s₁.heap:=Ev.keeps No ι hkeep
 refine⟨(FO.nlim.keeps I.base).keeps hkeep,codeAny_func ?_⟩
 refine body env s₁ (Ja I FO.nd (e1▸hk) e2 e3 e5 X bn cs above ev idx) (I.keeps hkeep) ⟨_,_,ZI hfr,e4,?_⟩ ev ?_ e1 e4 e5 above
 ·refine⟨by rw[e1,hk];decide,?_,hff.up ev⟩
  obtain⟨oo,es,ep,h1,h2,_⟩:=X.toInCall.ns
  exact⟨_,oo,es,ep,e4,I.free e5,h1,h2⟩
 ·obtain⟨h',tk,q,_⟩:=X.done
  exact⟨h',tk,q⟩
end
namespace RF
theorem oM:Manifest.owners.lookup (String.ofList ['d','e','s','r','e','v','e','r'].reverse)=some Manifest.sig_reversed:=by kernel_rfl
theorem slot_next:Slot "reversed" "__next__" "reversed.__next__":=
 .of (owner:="reversed") (n:="__next__") (by rw[ZM,YN];kernel_rfl) (by decide +kernel) (by decide +kernel) (by decide +kernel)
  (by first|exact .inl (by decide +kernel)|exact .inr (by decide +kernel)) (by rw[a0b];kernel_rfl)
theorem entry_next:entryFor table "reversed.__next__"=some XD.«reversed.__next__»:=entryFor_of_tree (by kernel_rfl)
theorem args_next(a:Value):argsOk "reversed.__next__" ⟨[a],[]⟩:=by
 unfold argsOk;rw[signature?_of (id:="reversed.__next__") (n:=['_','_','t','x','e','n','_','_']) (o:=['d','e','s','r','e','v','e','r']) (by kernel_rfl) oM];kernel_rfl
theorem slot_iter:Slot "reversed" "__iter__" "reversed.__iter__":=
 .of (owner:="reversed") (n:="__iter__") (by rw[ZM,YN];kernel_rfl) (by decide +kernel) (by decide +kernel) (by decide +kernel)
  (by first|exact .inl (by decide +kernel)|exact .inr (by decide +kernel)) (by rw[a0b];kernel_rfl)
theorem args_iter(a:Value):argsOk "reversed.__iter__" ⟨[a],[]⟩:=by
 unfold argsOk;rw[signature?_of (id:="reversed.__iter__") (n:=['_','_','r','e','t','i','_','_']) (o:=['d','e','s','r','e','v','e','r']) (by kernel_rfl) oM];kernel_rfl
theorem entry_iter:entryFor table "reversed.__iter__"=some XD.«dict_keyiterator.__iter__»:=
 entryFor_alias (id':="dict_keyiterator.__iter__") (by kernel_rfl) (by first|rfl|decide +kernel| (unfold String.splitOn;simp +decide [String.splitOnAux])) (by decide +kernel) (by kernel_rfl)
theorem yG:Slot "reversed" "__init__" "object.__init__":=
 .of (owner:="object") (n:="__init__") (by rw[ZM,YN];kernel_rfl) (by decide +kernel) (by decide +kernel) (by decide +kernel)
  (by first|exact .inl (by decide +kernel)|exact .inr (by decide +kernel)) (by rw[a0b];kernel_rfl)
theorem called:TypeCalled "reversed" "reversed.__new__" "object.__init__":=
 ⟨by decide +kernel,F.create_reversed,⟨_,_,F.mro_reversed⟩,F.made_reversed,F.plain_reversed_new,F.sub_reversed_self,yG⟩
theorem norev_tuple:typeLookup (.type "tuple") "__reversed__"=pure none:=by rw[ZM,YN];kernel_rfl
theorem args_init(a b:Value):argsOk "object.__init__" ⟨[a,b],[]⟩:=by
 unfold argsOk;rw[signature?_of (id:="object.__init__") (n:=['_','_','t','i','n','i','_','_']) (o:=['t','c','e','j','b','o']) (by kernel_rfl) F.owner_object];kernel_rfl
end RF
noncomputable abbrev dL(h:Heap)(a t:Addr)(i:Int):Prop:=h.get? a=some {cls:= .type "reversed",dict:=none,data:= .fields #[.ref t,rawInt i],slots:=#[]}
section
variable{prog:Yz}{w:World}{A:X7}{E:Value->Wp->Prop}{s:Wp}
theorem nU(t:Addr)(items:Array Value)(hsz:items.size<=100001):
  Meets (XD.«reversed.__new__» ⟨[.type "reversed",.ref t],[]⟩) (λ_ R s=>s.heap.IsTuple t items/\
   R (.ok (.ret (.ref s.heap.objs.size))) {s with heap:=s.heap.push {cls:= .type "reversed",data:= .fields #[.ref t,rawInt ((items.size:Int)-1)]},toks:=s.toks+1+1}):=
 .of_wp λprog w A R s h=>by
  obtain⟨ht,h⟩:=h
  unfold XD.«reversed.__new__»
  refine Wj (Y2 (newClass_reversed _) ?_)
  try dsimp only
  refine Wj (Y2 (a:=()) (by first|rfl|kernel_rfl) ?_)
  refine Wj (Y2 (a:=()) (by first|rfl|kernel_rfl) ?_)
  try dsimp only
  refine Wj (ZL ht.typeIs RF.norev_tuple ?_)
  try dsimp only
  refine Wj ?_
  show wpAny _ _ (isInstance (.ref t) (.type "dict") >>= _) _ _ s
  refine Wj (a0D (T:="tuple") (b:=false) ht.typeIs (by rw[a0b];kernel_rfl) ?_)
  show wpAny _ _ (specialOf (.ref t) "__getitem__" >>= _) _ _ s
  refine Wj (ZL ht.typeIs Yt.lookup ?_)
  try dsimp only
  rw[if_pos (by decide)]
  refine Ws ?_
  rw[if_neg (by decide)]
  refine Wj (PyProof.Rows.len_tuple ht (by omega) ?_)
  refine Wj (Y2 (a:=some (items.size:Int)) rfl ?_)
  try dsimp only
  refine Wj ?_
  show wpAny _ _ (newObj (.type "reversed") (.fields #[.ref t,rawInt ((items.size:Int)-1)])) _ _ _
  exact Y6 (Ws ⟨_,rfl,h⟩)
theorem hH{t:Addr}{items:Array Value}{Q:Value->Wp->Prop}(ht:s.heap.IsTuple t items)(hsz:items.size<=100001)
  (h:∀h' tk,dL h' s.heap.objs.size t ((items.size:Int)-1)->(∀b o,s.heap.get? b=some o->h'.get? b=some o)->Q (.ref s.heap.objs.size) {s with heap:=h',toks:=tk}):
  wpAny (model prog w) A (call (.type "reversed") [.ref t]) Q E s:=by
 refine callType_new RF.called (by decide) (F.typeCall_reversed_1 _) (F.newCall_reversed_1 _) (λobj=>RF.args_init obj _) F.entry_reversed_new (nU t items hsz) ⟨ht,?_⟩
 exact⟨⟨_,WA _ rfl,rfl⟩,h _ _ (WA _ rfl) λb o e=>Wr _ e⟩
theorem nF{it t:Addr}{i:Int}{Q:Value->Wp->Prop}(hz:dL s.heap it t i)(h:Q (.ref it) s):wpAny (model prog w) A (pyIter (.ref it)) Q E s:=by
 have hT:s.TypeIs (.ref it) "reversed":=⟨_,hz,rfl⟩
 refine wpAny_pyIter_slot hT RF.slot_iter (XN RF.slot_iter hT RF.entry_iter ?_ (RF.args_iter _))
 show wpAny _ _ (ret (.ref it)) _ _ s
 exact Ws ⟨_,rfl,"reversed",_,hT,RF.slot_next.lookup,h⟩
theorem iw{it t:Addr}{i:Nat}{items:Array Value}{x:Value}{Q:Option Value->Wp->Prop}(hz:dL s.heap it t i)(ht:s.heap.IsTuple t items)(hx:items[i]?=some x)(hi:i<100001)
  (hQ:∀h' tk,dL h' it t ((i:Int)-1)->WY it s.heap h'->Q (some x) {s with heap:=h',toks:=tk}):wpAny (model prog w) A (pyNext (.ref it)) Q E s:=by
 have hT:s.TypeIs (.ref it) "reversed":=⟨_,hz,rfl⟩
 unfold pyNext
 refine Wj (Z7 (Xx (name:=Z0 "__next__") hT RF.slot_next
  (XN RF.slot_next hT RF.entry_next ?_ (RF.args_next _))))
 show wpAny _ _ (field (.ref it) 0 >>= _) _ _ _
 refine Wj (X2 hz rfl (x:= .ref t) rfl ?_)
 show wpAny _ _ (field (.ref it) 1 >>= _) _ _ _
 refine Wj (X2 hz rfl (x:=rawInt i) rfl ?_)
 show wpAny _ _ (if(i:Int)<0 then _ else _) _ _ s
 rw[if_neg (by omega)]
 show wpAny _ _ (specialOf (.ref t) "__getitem__" >>= _) _ _ s
 refine Wj (ZL ht.typeIs Yt.lookup ?_)
 show wpAny _ _ (mkInt i >>= _) _ _ s
 refine Wj (wpAny_mkInt ?_)
 refine Wj (Z7 ?_)
 refine PyProof.Rows.getItem_tuple (s:={s with toks:=s.toks+1}) ht (by omega) (by omega) (j:=i) (PySem.seqIndex_of (by omega) ?_) hx ?_
 ·have:=(Yl.mp hx).1;omega
 try dsimp only
 show wpAny _ _ (field (.ref it) 1 >>= _) _ _ _
 refine Wj (X2 (s:={s with toks:=s.toks+1}) hz rfl (x:=rawInt i) rfl ?_)
 show wpAny _ _ (setField (.ref it) 1 (rawInt ((i:Int)-1)) >>= _) _ _ _
 refine Wj (Xz (s:={s with toks:=s.toks+1}) hz (by simp) λh₁ hz₁ hs₁=>?_)
 exact Ws ⟨x,rfl,Ws (hQ h₁ (s.toks+1) hz₁ hs₁)⟩
theorem iO{it t:Addr}{Q:Option Value->Wp->Prop}(hh:A.handled=none)(hz:dL s.heap it t (-1))
  (hQ:∀h',a0l it s.heap h'->Q none {s with heap:=h'}):wpAny (model prog w) A (pyNext (.ref it)) Q E s:=by
 have hT:s.TypeIs (.ref it) "reversed":=⟨_,hz,rfl⟩
 unfold pyNext
 refine Wj (Z7 (Xx (name:=Z0 "__next__") hT RF.slot_next
  (XN RF.slot_next hT RF.entry_next ?_ (RF.args_next _))))
 show wpAny _ _ (field (.ref it) 0 >>= _) _ _ _
 refine Wj (X2 hz rfl (x:= .ref t) rfl ?_)
 show wpAny _ _ (field (.ref it) 1 >>= _) _ _ _
 refine Wj (X2 hz rfl (x:=rawInt (-1)) rfl ?_)
 show wpAny _ _ (if(-1:Int)<0 then _ else _) _ _ s
 rw[if_pos (by decide)]
 refine Wj (a06 ?_)
 refine Wj ?_
 show wpAny _ _ (setField (.ref it) 1 (rawInt (-1)) >>= λ_=>setField (.ref it) 0 .none) _ _ s
 refine Wj (Xz hz (by simp) λh₁ hz₁ hs₁=>?_)
 refine Xz hz₁ (by simp) λh₂ hz₂ hs₂=>?_
 have k₂:a0l it s.heap h₂:=(hs₁.trans hs₂).extBut
 refine Wj ?_
 unfold XD.SmallTypes.stopIteration
 show wpAny _ _ (newExc (.type "StopIteration") [] >>= _) _ _ _
 refine Wj ?_
 simp only[newExc,newTuple]
 refine Wj (Y6 ?_ (by size_fits))
 refine Wj (m:=firstArgMember _ _) (Y2 (a:=XK) (by first|rfl| (simp only[firstArgMember];rfl)) ?_)
 refine Y6 ?_ (by size_fits)
 simp only[raiseNew]
 refine Wj (wpAny_handled ?_)
 first|rw[show A.in1.handled=none from hh]|rw[hh]
 refine Wj (Ws (wpAny_throw ?_))
 refine Wj (a0D (T:="StopIteration") (b:=true) ⟨_,WA _ rfl,rfl⟩ isSubtype_stop ?_)
 exact Ws (hQ _ ((k₂.push _).push _))
end
section
variable{prog:Yz}{w:World}{A:X7}{E:Value->Wp->Prop}{s:Wp}
theorem d6{it t:Addr}{i:Nat}{items}{x:Value}{Q:Value->Wp->Prop}(hit:s.heap.IsTupleIter it t i)(ht:s.heap.IsTuple t items)(hx:items[i]?=some x)
  (hQ:∀h',h'.IsTupleIter it t (i+1)->WY it s.heap h'->Q x {s with heap:=h'}):wpAny (model prog w) A (Xg (.ref it)) Q E s:=by
 obtain⟨o,ho,hc,hd⟩:=id hit
 obtain⟨ol,hol,_,nl,hdl⟩:=ht
 unfold Xg
 refine Wj (Xx (name:=Z0 "__next__") hit.typeIs Ym
  (XN Ym hit.typeIs a01 ?_ (ZN _)))
 show wpAny _ _ (field (.ref it) 0 >>= _) _ _ s
 refine Wj (X2 ho hd (x:= .ref t) rfl ?_)
 show wpAny _ _ (if(Xn t==XK)=true then _ else _) _ _ s
 rw[if_neg (show ¬ ((Xn t==XK)=true)from Ww)]
 show wpAny _ _ (field (.ref it) 1 >>= _) _ _ s
 refine Wj (X2 ho hd (x:= .int i 0) rfl ?_)
 show wpAny _ _ (seqItems? (.ref t) >>= _) _ _ s
 refine Wj (Y3 hol hdl ?_)
 simp only[Int.toNat_natCast,hx]
 refine Wj (YX ho hd (by simp) (Ws ⟨x,rfl,Ws (hQ _ ?_ (XQ ..))⟩))
 exact⟨_,Xw _ ho (YM (XX hd _)),(Obj.cls_mapFields ..).trans hc,by rw[XX hd];simp[rawInt]⟩
theorem gD{it t:Addr}{i:Nat}{items}{Q:Value->Wp->Prop}(hh:A.handled=none)(hit:s.heap.IsTupleIter it t i)(ht:s.heap.IsTuple t items)(hx:items[i]?=none)
  (hE:∀h' e,a0l it s.heap h'->(∃o,h'.get? e=some o/\o.cls=.type "StopIteration")->E (.ref e) {s with heap:=h'}):
  wpAny (model prog w) A (Xg (.ref it)) Q E s:=by
 obtain⟨o,ho,hc,hd⟩:=id hit
 obtain⟨ol,hol,_,nl,hdl⟩:=ht
 unfold Xg
 refine Wj (Xx (name:=Z0 "__next__") hit.typeIs Ym
  (XN Ym hit.typeIs a01 ?_ (ZN _)))
 show wpAny _ _ (field (.ref it) 0 >>= _) _ _ s
 refine Wj (X2 ho hd (x:= .ref t) rfl ?_)
 show wpAny _ _ (if(Xn t==XK)=true then _ else _) _ _ s
 rw[if_neg (show ¬ ((Xn t==XK)=true)from Ww)]
 show wpAny _ _ (field (.ref it) 1 >>= _) _ _ s
 refine Wj (X2 ho hd (x:= .int i 0) rfl ?_)
 show wpAny _ _ (seqItems? (.ref t) >>= _) _ _ s
 refine Wj (Y3 hol hdl ?_)
 simp only[Int.toNat_natCast,hx]
 refine Wj (a06 (Wj (YX ho hd (by simp) ?_)))
 show wpAny _ _ (newExc (.type "StopIteration") [] >>= _) _ _ _
 refine Wj ?_
 simp only[newExc,newTuple]
 refine Wj (Y6 ?_ (by size_fits))
 refine Wj (m:=firstArgMember _ _) (Y2 (a:=XK) (by first|rfl| (simp only[firstArgMember];rfl)) ?_)
 refine Y6 ?_ (by size_fits)
 simp only[raiseNew]
 refine Wj (wpAny_handled ?_)
 rw[show A.in1.handled=none from hh]
 refine Wj (Ws (wpAny_throw ?_))
 exact hE _ _ (((XQ ..).extBut.push _).push _) ⟨_,WA _ rfl,rfl⟩
structure Zp(h:Heap)(f0:Value)(z TI TO i1 i2 t1 t2:Addr)(k1 k2:Nat)(xs ys:List Value):Prop where
 hz:IsZip h z TI TO f0
 hti:Yx h TI (.ref i1) (.ref i2)
 hto:∃a b,Yx h TO a b
 h1:h.IsTupleIter i1 t1 k1
 h2:h.IsTupleIter i2 t2 k2
 hx:h.IsTuple t1 xs.toArray
 hy:h.IsTuple t2 ys.toArray
 hd:TI≠TO/\i1≠i2/\t1≠TO/\t2≠TO
theorem cu{h:Heap}{a b:Addr}{o p:Obj}(x:h.get? a=some o)(y:h.get? b=some p)(n:o.cls≠p.cls):a≠b:=λe=>by
 subst e;rw[x]at y;cases y;exact n rfl
structure VG(z TI TO i1 i2 t1 t2:Addr):Prop where
 TIz:TI≠z
 TOz:TO≠z
 i1z:i1≠z
 i2z:i2≠z
 TITO:TI≠TO
 TIi1:TI≠i1
 TIi2:TI≠i2
 TOi1:TO≠i1
 TOi2:TO≠i2
 i12:i1≠i2
 t1z:t1≠z
 t1TO:t1≠TO
 t1i1:t1≠i1
 t1i2:t1≠i2
 t2z:t2≠z
 t2TO:t2≠TO
 t2i1:t2≠i1
 t2i2:t2≠i2
theorem Zp.dist{h:Heap}{f0:Value}{z TI TO i1 i2 t1 t2:Addr}{k1 k2:Nat}{xs ys:List Value}(q:Zp h f0 z TI TO i1 i2 t1 t2 k1 k2 xs ys):VG z TI TO i1 i2 t1 t2:=by
 obtain⟨hz,hti,⟨a,b,hto⟩,⟨o1,h1,c1,_⟩,⟨o2,h2,c2,_⟩,⟨p1,g1,e1,_⟩,⟨p2,g2,e2,_⟩,d1,d2,d3,d4⟩:=q
 have ne1: ("tuple":String)≠"zip":=by decide
 have ne2: ("tuple_iterator":String)≠"zip":=by decide
 have ne3: ("tuple":String)≠"tuple_iterator":=by decide
 refine⟨cu hti hz ?_,cu hto hz ?_,cu h1 hz ?_,cu h2 hz ?_,d1,cu hti h1 ?_,cu hti h2 ?_,cu hto h1 ?_,cu hto h2 ?_,d2,cu g1 hz ?_,d3,cu g1 h1 ?_,cu g1 h2 ?_,
  cu g2 hz ?_,d4,cu g2 h1 ?_,cu g2 h2 ?_⟩<;>simp[c1,c2,e1,e2]
theorem lR{z TI TO i1 i2 t1 t2:Addr}{k1 k2:Nat}{xs ys:List Value}{x y:Value}{Q:Value->Wp->Prop}(q:Zp s.heap .none z TI TO i1 i2 t1 t2 k1 k2 xs ys)
  (hx:xs[k1]?=some x)(hy:ys[k2]?=some y)
  (hQ:∀h',Zp h' (rawInt s.heap.objs.size) z TI TO i1 i2 t1 t2 (k1+1) (k2+1) xs ys->Yx h' s.heap.objs.size x y->
   (∀c o,c≠z->c≠TO->c≠i1->c≠i2->s.heap.get? c=some o->h'.get? c=some o)->Q (.ref s.heap.objs.size) {s with heap:=h'}):
  wpAny (model prog w) A (XD.«zip.__next__» ⟨[.ref z],[]⟩) (λfin s'=>∃v,fin=.done (.ret v)/\Q v s') E s:=by
 have D:=q.dist
 obtain⟨hz,hTI,⟨a,b,hTO⟩,h1,h2,hl1,hl2,dd⟩:=q
 have hx':xs.toArray[k1]?=some x:=by simpa using hx
 have hy':ys.toArray[k2]?=some y:=by simpa using hy
 show wpAny _ _ (field (.ref z) 2 >>= _) _ _ _
 refine Wj (X2 hz rfl (x:= .bool false) rfl ?_)
 show wpAny _ _ (field (.ref z) 3 >>= _) _ _ _
 refine Wj (X2 hz rfl (x:= .ref TI) rfl ?_)
 refine Wj (Y3 hTI rfl ?_)
 show wpAny _ _ (XF (.ref z) >>= _) _ _ _
 refine Wj ?_
 unfold XF
 refine Wj (X2 hz rfl (x:= .none) rfl (Ws ?_))
 simp only[if_true]
 refine Wj (a06 ?_)
 refine Wj (X2 hz rfl (x:= .ref TO) rfl ?_)
 refine Wj (Xz hz (by simp) λg₁ hz₁ hs₁=>?_)
 replace hz₁:IsZip g₁ z TI TO .ellipsis:=hz₁
 refine Wj ?_
 simp only[List.zipIdx_cons,List.zipIdx_nil,Yp,List.forIn_nil]
 refine Wj (Wj (a0o ?_))
 show wpAny _ _ (Xg (.ref i1) >>= _) _ _ _
 refine Wj (d6 (s:={s with heap:=g₁}) (h1.extBut hs₁.extBut D.i1z) (hl1.extBut hs₁.extBut D.t1z) hx' λg₂ h1₂ hs₂=>Ws ?_)
 have hTO₂:Yx g₂ TO a b:=hs₂.extBut _ _ D.TOi1 (hs₁.extBut _ _ D.TOz hTO)
 refine Wj (Y3 hTO₂ rfl ?_)
 refine Wj (ZJ (s:={s with heap:=g₂}) hTO₂ λg₃ hTO₃ hs₃=>?_)
 replace hTO₃:Yx g₃ TO x b:=hTO₃
 refine Wj (wpAny_letGo (Ws ?_))
 refine Wj (Wj (a0o ?_))
 show wpAny _ _ (Xg (.ref i2) >>= _) _ _ _
 refine Wj (d6 (s:={s with heap:=g₃}) (((h2.extBut hs₁.extBut D.i2z).extBut hs₂.extBut D.i12.symm).extBut hs₃.extBut D.TOi2.symm)
  (((hl2.extBut hs₁.extBut D.t2z).extBut hs₂.extBut D.t2i1).extBut hs₃.extBut D.t2TO) hy' λg₄ h2₄ hs₄=>Ws ?_)
 have hTO₄:Yx g₄ TO x b:=hs₄.extBut _ _ D.TOi2 hTO₃
 refine Wj (Y3 hTO₄ rfl ?_)
 refine Wj (ZJ (s:={s with heap:=g₄}) hTO₄ λg₅ hTO₅ hs₅=>?_)
 replace hTO₅:Yx g₅ TO x y:=hTO₅
 refine Wj (wpAny_letGo (Ws (Ws ?_)))
 refine Wj (Y3 hTO₅ rfl ?_)
 refine Wj (wpAny_newTuple ?_)
 have hsz:g₅.objs.size=s.heap.objs.size:=by rw[hs₅.1,hs₄.1,hs₃.1,hs₂.1,hs₁.1]
 have hz₅:IsZip g₅ z TI TO .ellipsis:=hs₅.extBut _ _ D.TOz.symm (hs₄.extBut _ _ D.i2z.symm (hs₃.extBut _ _ D.TOz.symm (hs₂.extBut _ _ D.i1z.symm hz₁)))
 have hk₅:∀c o,c≠z->c≠TO->c≠i1->c≠i2->s.heap.get? c=some o->g₅.get? c=some o:=λc o c1 c2 c3 c4 e=>
  hs₅.extBut _ _ c2 (hs₄.extBut _ _ c4 (hs₃.extBut _ _ c2 (hs₂.extBut _ _ c3 (hs₁.extBut _ _ c1 e))))
 have h1₅:g₅.IsTupleIter i1 t1 (k1+1):=((h1₂.extBut hs₃.extBut D.TOi1.symm).extBut hs₄.extBut D.i12).extBut hs₅.extBut D.TOi1.symm
 have h2₅:g₅.IsTupleIter i2 t2 (k2+1):=h2₄.extBut hs₅.extBut D.TOi2.symm
 have hzlt:z<g₅.objs.size:=XO hz₅
 show wpAny _ _ (Z4 (.ref z) (.ref g₅.objs.size) >>= _) _ _ _
 refine Wj ?_
 unfold Z4
 have hz₆:IsZip (g₅.push {cls:= .type "tuple",data:= .seq #[x,y]}) z TI TO .ellipsis:=Wr _ hz₅
 refine Wj (Xz hz₆ (by simp) λg₇ hz₇ hs₇=>?_)
 replace hz₇:IsZip g₇ z TI TO (rawInt g₅.objs.size):=hz₇
 refine Xz hz₇ (by simp) λg₈ hz₈ hs₈=>?_
 replace hz₈:IsZip g₈ z TI TO (rawInt g₅.objs.size):=hz₈
 have up:∀c o,c≠z->g₅.get? c=some o->g₈.get? c=some o:=λc o c1 e=>hs₈.extBut _ _ c1 (hs₇.extBut _ _ c1 (Wr _ e))
 have hT₈:Yx g₈ g₅.objs.size x y:=hs₈.extBut _ _ (YB hzlt) (hs₇.extBut _ _ (YB hzlt) (WA _ rfl))
 rw[hsz]at hz₈ hT₈
 refine Ws ⟨_,rfl,?_⟩
 show Q (.ref g₅.objs.size) _
 rw[hsz]
 refine hQ g₈ ⟨hz₈,up _ _ D.TIz (hk₅ _ _ D.TIz D.TITO D.TIi1 D.TIi2 hTI),⟨_,_,up _ _ D.TOz hTO₅⟩,?_,?_,?_,?_,dd⟩ hT₈ λc o c1 c2 c3 c4 e=>up c o c1 (hk₅ c o c1 c2 c3 c4 e)
 ·obtain⟨o,ho,r⟩:=h1₅;exact⟨o,up _ o D.i1z ho,r⟩
 ·obtain⟨o,ho,r⟩:=h2₅;exact⟨o,up _ o D.i2z ho,r⟩
 ·obtain⟨o,ho,r⟩:=hl1;exact⟨o,up _ o D.t1z (hk₅ _ o D.t1z D.t1TO D.t1i1 D.t1i2 ho),r⟩
 ·obtain⟨o,ho,r⟩:=hl2;exact⟨o,up _ o D.t2z (hk₅ _ o D.t2z D.t2TO D.t2i1 D.t2i2 ho),r⟩
theorem nW{z TI TO i1 i2 t1 t2:Addr}{k1 k2:Nat}{xs ys:List Value}{Q:PySem.Fin->Wp->Prop}(hh:A.handled=none)(q:Zp s.heap .none z TI TO i1 i2 t1 t2 k1 k2 xs ys)
  (hend:xs[k1]?=none\/ys[k2]?=none)
  (hE:∀h' e,(∀c o,c≠z->c≠TO->c≠i1->c≠i2->s.heap.get? c=some o->h'.get? c=some o)->(∃a b,Yx h' TO a b)->(∃o,h'.get? e=some o/\o.cls=.type "StopIteration")->E (.ref e) {s with heap:=h'}):
  wpAny (model prog w) A (XD.«zip.__next__» ⟨[.ref z],[]⟩) Q E s:=by
 have D:=q.dist
 obtain⟨hz,hTI,⟨a,b,hTO⟩,h1,h2,hl1,hl2,dd⟩:=q
 show wpAny _ _ (field (.ref z) 2 >>= _) _ _ _
 refine Wj (X2 hz rfl (x:= .bool false) rfl ?_)
 show wpAny _ _ (field (.ref z) 3 >>= _) _ _ _
 refine Wj (X2 hz rfl (x:= .ref TI) rfl ?_)
 refine Wj (Y3 hTI rfl ?_)
 show wpAny _ _ (XF (.ref z) >>= _) _ _ _
 refine Wj ?_
 unfold XF
 refine Wj (X2 hz rfl (x:= .none) rfl (Ws ?_))
 simp only[if_true]
 refine Wj (a06 ?_)
 refine Wj (X2 hz rfl (x:= .ref TO) rfl ?_)
 refine Wj (Xz hz (by simp) λg₁ hz₁ hs₁=>?_)
 replace hz₁:IsZip g₁ z TI TO .ellipsis:=hz₁
 refine Wj ?_
 simp only[List.zipIdx_cons,List.zipIdx_nil,Yp,List.forIn_nil]
 refine Wj (Wj (a0o ?_))
 show wpAny _ _ (Xg (.ref i1) >>= _) _ _ _
 cases hx:xs[k1]? with
 |none=>
  refine Wj (gD (s:={s with heap:=g₁}) hh (h1.extBut hs₁.extBut D.i1z) (hl1.extBut hs₁.extBut D.t1z) (by simpa using hx) λg₂ e hs₂ he=>?_)
  obtain⟨oe,hoe,hce⟩:=he
  have hz₂:IsZip g₂ z TI TO .ellipsis:=hs₂ _ _ D.i1z.symm hz₁
  have hez:e≠z:=λx=>by subst x;rw[hz₂]at hoe;cases hoe;simp at hce
  refine Xz hz₂ (by simp) λg₃ _ hs₃=>hE g₃ e (λc o c1 _ c3 _ x=>hs₃.extBut _ _ c1 (hs₂ _ _ c3 (hs₁.extBut _ _ c1 x))) ?_ ⟨oe,hs₃.extBut _ _ hez hoe,hce⟩
  exact⟨a,b,hs₃.extBut _ _ D.TOz (hs₂ _ _ D.TOi1 (hs₁.extBut _ _ D.TOz hTO))⟩
 |some x=>
  have hy:ys[k2]?=none:=by rcases hend with h|h;rw[hx]at h;cases h;exact h
  refine Wj (d6 (s:={s with heap:=g₁}) (h1.extBut hs₁.extBut D.i1z) (hl1.extBut hs₁.extBut D.t1z) (by simpa using hx) λg₂ h1₂ hs₂=>Ws ?_)
  have hTO₂:Yx g₂ TO a b:=hs₂.extBut _ _ D.TOi1 (hs₁.extBut _ _ D.TOz hTO)
  refine Wj (Y3 hTO₂ rfl ?_)
  refine Wj (ZJ (s:={s with heap:=g₂}) hTO₂ λg₃ hTO₃ hs₃=>?_)
  replace hTO₃:Yx g₃ TO x b:=hTO₃
  refine Wj (wpAny_letGo (Ws ?_))
  refine Wj (Wj (a0o ?_))
  show wpAny _ _ (Xg (.ref i2) >>= _) _ _ _
  refine Wj (gD (s:={s with heap:=g₃}) hh (((h2.extBut hs₁.extBut D.i2z).extBut hs₂.extBut D.i12.symm).extBut hs₃.extBut D.TOi2.symm)
   (((hl2.extBut hs₁.extBut D.t2z).extBut hs₂.extBut D.t2i1).extBut hs₃.extBut D.t2TO) (by simpa using hy) λg₄ e hs₄ he=>?_)
  obtain⟨oe,hoe,hce⟩:=he
  have hz₄:IsZip g₄ z TI TO .ellipsis:=hs₄ _ _ D.i2z.symm (hs₃.extBut _ _ D.TOz.symm (hs₂.extBut _ _ D.i1z.symm hz₁))
  have hez:e≠z:=λx=>by subst x;rw[hz₄]at hoe;cases hoe;simp at hce
  refine Xz hz₄ (by simp) λg₅ _ hs₅=>hE g₅ e (λc o c1 c2 c3 c4 x=>hs₅.extBut _ _ c1 (hs₄ _ _ c4 (hs₃.extBut _ _ c2 (hs₂.extBut _ _ c3 (hs₁.extBut _ _ c1 x))))) ?_ ⟨oe,hs₅.extBut _ _ hez hoe,hce⟩
  exact⟨x,b,hs₅.extBut _ _ D.TOz (hs₄ _ _ D.TOi2 hTO₃)⟩
theorem jX{z TI TO i1 i2 t1 t2:Addr}{k1 k2:Nat}{xs ys:List Value}{x y:Value}{Q:Option Value->Wp->Prop}(q:Zp s.heap .none z TI TO i1 i2 t1 t2 k1 k2 xs ys)
  (hx:xs[k1]?=some x)(hy:ys[k2]?=some y)
  (hQ:∀h',Zp h' (rawInt s.heap.objs.size) z TI TO i1 i2 t1 t2 (k1+1) (k2+1) xs ys->Yx h' s.heap.objs.size x y->
   (∀c o,c≠z->c≠TO->c≠i1->c≠i2->s.heap.get? c=some o->h'.get? c=some o)->Q (some (.ref s.heap.objs.size)) {s with heap:=h'}):
  wpAny (model prog w) A (pyNext (.ref z)) Q E s:=by
 have hT:s.TypeIs (.ref z) "zip":=⟨_,q.hz,rfl⟩
 unfold pyNext
 exact Wj (Z7 (Xx (name:=Z0 "__next__") hT ZO
  (XN ZO hT F.entry_zip_next (lR q hx hy λh' a1 a2 a3=>Ws (hQ h' a1 a2 a3)) (F.args_zip_next_1 _))))
theorem kY{z TI TO i1 i2 t1 t2:Addr}{k1 k2:Nat}{xs ys:List Value}{Q:Option Value->Wp->Prop}(hh:A.handled=none)(q:Zp s.heap .none z TI TO i1 i2 t1 t2 k1 k2 xs ys)
  (hend:xs[k1]?=none\/ys[k2]?=none)
  (hQ:∀h',(∀c o,c≠z->c≠TO->c≠i1->c≠i2->s.heap.get? c=some o->h'.get? c=some o)->(∃a b,Yx h' TO a b)->Q none {s with heap:=h'}):wpAny (model prog w) A (pyNext (.ref z)) Q E s:=by
 have hT:s.TypeIs (.ref z) "zip":=⟨_,q.hz,rfl⟩
 unfold pyNext
 refine Wj (Z7 (Xx (name:=Z0 "__next__") hT ZO
  (XN ZO hT F.entry_zip_next (nW hh q hend λh' e hk hp he=>?_) (F.args_zip_next_1 _))))
 obtain⟨o,ho,hc⟩:=he
 refine Wj (a0D (T:="StopIteration") (b:=true) ⟨o,ho,hc⟩ isSubtype_stop ?_)
 exact Ws (hQ _ hk hp)
theorem nj(t1 t2:Addr)(xs ys:Array Value):
  Meets (XD.«zip.__new__» ⟨[.type "zip",.ref t1,.ref t2],[]⟩) (λ_ R s=>s.heap.IsTuple t1 xs/\s.heap.IsTuple t2 ys/\
   ∀h',IsZip h' (s.heap.objs.size+4) (s.heap.objs.size+2) (s.heap.objs.size+3) .none->Yx h' (s.heap.objs.size+2) (.ref s.heap.objs.size) (.ref (s.heap.objs.size+1))->
   Yx h' (s.heap.objs.size+3) .none .none->h'.IsTupleIter s.heap.objs.size t1 0->h'.IsTupleIter (s.heap.objs.size+1) t2 0->
   (∀c o,s.heap.get? c=some o->h'.get? c=some o)->R (.ok (.ret (.ref (s.heap.objs.size+4)))) {s with heap:=h'}):=
 .of_wp λprog w A R s h=>by
  obtain⟨hp,g,d,tk,os⟩:=s;obtain⟨hl1,hl2,h⟩:=h
  have hsub:=sub_zip
  have hL1:Heap.IsTuple (Wp.heap ⟨hp,g,d,tk,os⟩) t1 xs:=hl1
  have hL2:Heap.IsTuple (Wp.heap ⟨hp.push {cls:= .type "tuple_iterator",data:= .fields #[.ref t1,.int 0 0]},g,d,tk,os⟩) t2 ys:=Heap.IsTuple.push hl2 _
  wp_walk using a0c hL1,a0c hL2
  refine⟨_,rfl,?_⟩
  let H1:Heap:=hp.push {cls:= .type "tuple_iterator",data:= .fields #[.ref t1,.int 0 0]}
  let H2:Heap:=H1.push {cls:= .type "tuple_iterator",data:= .fields #[.ref t2,.int 0 0]}
  let H3:Heap:=H2.push {cls:= .type "tuple",data:= .seq #[.ref hp.objs.size,.ref H1.objs.size]}
  let H4:Heap:=H3.push {cls:= .type "tuple",data:= .seq #[.none,.none]}
  let H5:Heap:=H4.push {cls:= .type "zip",data:= .fields #[.none,.bool false,.bool false,.ref H2.objs.size,.ref H3.objs.size]}
  show R (.ok (.ret (.ref H4.objs.size))) ⟨H5,g,d,tk,os⟩
  have z1:H1.objs.size=hp.objs.size+1:=Y1 ..
  have z2:H2.objs.size=hp.objs.size+2:=by rw[Y1,z1]
  have z3:H3.objs.size=hp.objs.size+3:=by rw[Y1,z2]
  have z4:H4.objs.size=hp.objs.size+4:=by rw[Y1,z3]
  have g5:H5.get? H4.objs.size=some {cls:= .type "zip",data:= .fields #[.none,.bool false,.bool false,.ref H2.objs.size,.ref H3.objs.size]}:=WA _ rfl
  have g4:H5.get? H3.objs.size=some {cls:= .type "tuple",data:= .seq #[.none,.none]}:=Wr _ (WA _ rfl)
  have g3:H5.get? H2.objs.size=some {cls:= .type "tuple",data:= .seq #[.ref hp.objs.size,.ref H1.objs.size]}:=Wr _ (Wr _ (WA _ rfl))
  have g2:H5.get? H1.objs.size=some {cls:= .type "tuple_iterator",data:= .fields #[.ref t2,.int 0 0]}:=Wr _ (Wr _ (Wr _ (WA _ rfl)))
  have g1:H5.get? hp.objs.size=some {cls:= .type "tuple_iterator",data:= .fields #[.ref t1,.int 0 0]}:=
   Wr _ (Wr _ (Wr _ (Wr _ (WA _ rfl))))
  rw[z2,z3,z4]at g5
  rw[z1,z2]at g3
  rw[z3]at g4
  rw[z1]at g2
  rw[z4]
  exact h H5 g5 g3 g4 ⟨_,g1,rfl,rfl⟩ ⟨_,g2,rfl,rfl⟩ λc o x=>
   Wr _ (Wr _ (Wr _ (Wr _ (Wr _ x))))
theorem xB{t1 t2:Addr}{xs ys:List Value}{Q:Value->Wp->Prop}(hl1:s.heap.IsTuple t1 xs.toArray)(hl2:s.heap.IsTuple t2 ys.toArray)
  (h:∀h',Zp h' .none (s.heap.objs.size+4) (s.heap.objs.size+2) (s.heap.objs.size+3) s.heap.objs.size (s.heap.objs.size+1) t1 t2 0 0 xs ys->
   (∀c o,s.heap.get? c=some o->h'.get? c=some o)->Q (.ref (s.heap.objs.size+4)) {s with heap:=h'}):
  wpAny (model prog w) A (call (.type "zip") [.ref t1,.ref t2]) Q E s:=by
 refine callType_new F.called_zip (by decide) (F.typeCall_zip_2 _ _) (F.newCall_zip_2 _ _) (λobj=>F.args_object_init_3 obj _ _) F.entry_zip_new
  (nj t1 t2 xs.toArray ys.toArray) ⟨hl1,hl2,λh' g5 g3 g4 g1 g2 k=>?_⟩
 refine⟨⟨_,g5,rfl⟩,h h' ⟨g5,g3,⟨_,_,g4⟩,g1,g2,?_,?_,?_⟩ k⟩
 ·obtain⟨o,ho,r⟩:=hl1;exact⟨o,k _ _ ho,r⟩
 ·obtain⟨o,ho,r⟩:=hl2;exact⟨o,k _ _ ho,r⟩
 ·have e1:t1<s.heap.objs.size:=by obtain⟨o,ho,_⟩:=hl1;exact XO ho
  have e2:t2<s.heap.objs.size:=by obtain⟨o,ho,_⟩:=hl2;exact XO ho
  exact⟨XA (by omega),XA (by omega),XA (WV e1 (WC _ _)),XA (WV e2 (WC _ _))⟩
end
structure nq(own ι:List Addr)(h h':Heap):Prop where
 keep:∀c o,c∉own->c∉ι->h.get? c=some o->h'.get? c=some o
 there:∀c o,c∉own->h.get? c=some o->∃o',h'.get? c=some o'/\(∀es n,o.data=.dict es n->∃es' n',o'.data=.dict es' n')/\(Pr o->Pr o')
theorem nq.of{own ι:List Addr}{h h':Heap}(k:∀c o,c∉own->h.get? c=some o->h'.get? c=some o):nq own ι h h':=
 ⟨λc o n _ e=>k c o n e,λc o n e=>⟨o,k c o n e,λes n d=>⟨es,n,d⟩,id⟩⟩
theorem nq.trans{own ι:List Addr}{h h₁ h₂:Heap}(x:nq own ι h h₁)(y:nq own ι h₁ h₂):nq own ι h h₂:=
 ⟨λc o n m e=>y.keep c o n m (x.keep c o n m e),λc o n e=>by
  obtain⟨o',e',d',r'⟩:=x.there c o n e
  obtain⟨o'',e'',d'',r''⟩:=y.there c o' n e'
  exact⟨o'',e'',λes n d=>(by obtain⟨es',n',q⟩:=d' es n d;exact d'' es' n' q),λq=>r'' (r' q)⟩⟩
theorem Ev.stp{X:Addr->Prop}{ι₀ ι own:List Addr}{h₀ h h':Heap}(x:Ev X ι₀ h₀ ι h)(y:nq own ι h h')(hf:∀a∈own,a∉ι/\h₀.get? a=none):Ev X ι₀ h₀ ι h':=by
 have no:∀c o,h₀.get? c=some o->c∉own:=λc o e hm=>by rw[(hf c hm).2]at e;cases e
 refine⟨x.pre,λa o e hn hX=>?_,x.fresh,λa vs hn e=>?_,λa o e=>?_⟩
 ·refine y.keep a o (no a o e) (λhm=>(x.fresh a hm).elim hn λq=>by rw[q]at e;cases e) (x.keep a o e hn hX)
 ·obtain⟨o,ho,r⟩:=e
  obtain⟨h1,o',ho',r'⟩:=x.tup a vs hn ⟨o,ho,r⟩
  exact⟨h1,o',y.keep a o' (no a o ho) h1 ho',r'⟩
 ·obtain⟨o',e',d',r'⟩:=x.there a o e
  obtain⟨o'',e'',d'',r''⟩:=y.there a o' (no a o e) e'
  exact⟨o'',e'',λes n d=>(by obtain⟨es',n',q⟩:=d' es n d;exact d'' es' n' q),λq=>r'' (r' q)⟩
noncomputable def Rc(o:Obj):Prop:=∃vs,o.data=.fields vs
theorem Rc.seq{o:Obj}{xs:Array Value}{n:Nat}(h:Rc o)(e:o.data=.seq xs n):False:=by obtain⟨vs,q⟩:=h;rw[e]at q;cases q
theorem Rc.dict{o:Obj}{xs n}(h:Rc o)(e:o.data=.dict xs n):False:=by obtain⟨vs,q⟩:=h;rw[e]at q;cases q
theorem Rc.cell{o:Obj}{v}(h:Rc o)(e:o.data=.cell v):False:=by obtain⟨vs,q⟩:=h;rw[e]at q;cases q
noncomputable def du(W:Wd)(own ι:List Addr)(h:Heap):Prop:=∀a∈own,a∉ι/\W.h0.get? a=none/\∃o,h.get? a=some o/\Rc o
inductive VI(zp:Bool)(own ι:List Addr)(h:Heap)(it:Value)(l:List V):Prop
 |tup (I t:Addr) (vs:List Value) (k:Nat):it=.ref I->own=[I]->h.IsTupleIter I t k->(h.IsTuple t (X0 vs)/\t∉ι)->aB ι h l (vs.drop k)->VI zp own ι h it l
 |rng (I:Addr) (x:Int) (n:Nat):it=.ref I->own=[I]->IsRangeIter h I x (Nat.cast n) 1->l=((Zb n).map λ(j:Nat)=>V.int (x+(j:Int)))->VI zp own ι h it l
 |rev (I t:Addr) (vs:List Value) (k:Nat):it=.ref I->own=[I]->k<=100001->dL h I t ((k:Nat)-1:Int)->(h.IsTuple t (X0 vs)/\t∉ι)->k<=vs.length->aB ι h l (vs.take k).reverse->VI zp own ι h it l
 |zip (z TI TO i1 i2 t1 t2:Addr) (k1 k2:Nat) (xs ys:List Value) (l1 l2:List V):zp=true->it=.ref z->own=[z,i1,i2]->Zp h .none z TI TO i1 i2 t1 t2 k1 k2 xs ys->TO∈ι->TI∉ι->t1∉ι->t2∉ι->aB ι h l1 (xs.drop k1)->aB ι h l2 (ys.drop k2)->l=nR l1 l2->VI zp own ι h it l
inductive IL(own ι:List Addr)(h:Heap)(it:Value)(i k:Nat):Prop
 |mk (I a:Addr):it=.ref I->own=[I]->ι[i]?=some a->h.IsListIter I a k->IL own ι h it i k
inductive SO(own ι:List Addr)(h:Heap)(it:Value)(i k:Nat):Prop
 |mk (I a:Addr):it=.ref I->own=[I]->k<=100001->ι[i]?=some a->h.IsRevIter I a ((k:Int)-1)->SO own ι h it i k
noncomputable def IR(zp:Bool)(own ι:List Addr)(h:Heap)(it:Value):bA->Prop
 | .vals l=>VI zp own ι h it l
 | .list i k=>IL own ι h it i k
 | .rlist i k=>SO own ι h it i k
section
variable{W:Wd}{A:X7}{E:Value->Wp->Prop}{s:Wp}{ι:List Addr}{σ:St}{own:List Addr}
theorem du.up{ι':List Addr}{h h':Heap}(O:du W own ι h){X:Addr->Prop}(e:Ev X ι h ι' h')(hX:∀a∈own,¬ X a):du W own ι' h':=λa ha=>by
 obtain⟨h1,h2,o,ho,hd⟩:=O a ha
 exact⟨e.out ho h1,h2,o,e.keep a o ho h1 (hX a ha),hd⟩
theorem IR.up{zp:Bool}{ι':List Addr}{h h':Heap}{it:Value}{src:bA}(R:IR zp own ι h it src)(O:du W own ι h){X:Addr->Prop}(e:Ev X ι h ι' h')(hX:∀a∈own,¬ X a)
  (hTI:∀x y a,Yx h a x y->a∉ι->¬ X a):IR zp own ι' h' it src:=by
 have kp:∀a∈own,∀o,h.get? a=some o->h'.get? a=some o:=λa ha o ho=>e.keep a o ho (O a ha).1 (hX a ha)
 have tp:∀t vs,(h.IsTuple t vs/\t∉ι)->(h'.IsTuple t vs/\t∉ι'):=λt vs q=>⟨(e.tup t vs q.2 q.1).2,(e.tup t vs q.2 q.1).1⟩
 cases src with
 |vals l=>
  rcases R with⟨I,t,vs,k,rfl,rfl,⟨o,ho,r⟩,T,V0⟩| ⟨I,x,n,rfl,rfl,ho,hl⟩| ⟨I,t,vs,k,rfl,rfl,hk0,ho,T,hk,V0⟩| ⟨z,TI,TO,i1,i2,t1,t2,k1,k2,xs,ys,l1,l2,hz,rfl,rfl,Z,hTO,hTIi,n1,n2,V1,V2,hl⟩
  ·exact .tup I t vs k rfl rfl ⟨o,kp I (.head _) o ho,r⟩ (tp _ _ T) (V0.up e)
  ·exact .rng I x n rfl rfl (kp I (.head _) _ ho) hl
  ·exact .rev I t vs k rfl rfl hk0 (kp I (.head _) _ ho) (tp _ _ T) hk (V0.up e)
  ·obtain⟨hz0,hti,⟨a,b,hto⟩,⟨o1,h1,r1⟩,⟨o2,h2,r2⟩,hx,hy,hd⟩:=Z
   obtain⟨p',hp',_,hpr⟩:=e.there TO _ hto
   obtain⟨a',b',rfl⟩:=hpr ⟨a,b,rfl⟩
   refine .zip z TI TO i1 i2 t1 t2 k1 k2 xs ys l1 l2 hz rfl rfl ⟨kp z (.head _) _ hz0,e.keep TI _ hti hTIi (hTI _ _ _ hti hTIi),⟨a',b',hp'⟩,⟨o1,kp i1 (.tail _ (.head _)) _ h1,r1⟩,⟨o2,kp i2 (.tail _ (.tail _ (.head _))) _ h2,r2⟩,
    (tp _ _ ⟨hx,n1⟩).1,(tp _ _ ⟨hy,n2⟩).1,hd⟩ ?_ (e.out hti hTIi) (tp _ _ ⟨hx,n1⟩).2 (tp _ _ ⟨hy,n2⟩).2 (V1.up e) (V2.up e) hl
   obtain⟨j,hj⟩:=List.mem_iff_getElem?.mp hTO
   exact WN (e.pre j TO hj)
 |list i k=>
  obtain⟨I,a,rfl,rfl,ha,o,ho,r⟩:=R
  exact⟨I,a,rfl,rfl,e.pre _ _ ha,o,kp I (.head _) o ho,r⟩
 |rlist i k=>
  obtain⟨I,a,rfl,rfl,hk,ha,o,ho,r⟩:=R
  exact⟨I,a,rfl,rfl,hk,e.pre _ _ ha,o,kp I (.head _) o ho,r⟩
theorem ay.step{h h':Heap}(I:ay W ι σ h)(O:du W own ι h)(k:∀c o,c∉own->h.get? c=some o->h'.get? c=some o):ay W ι σ h':=by
 refine I.keep (λa ha o e=>k a o (λhm=>(O a hm).1 ha) e) (λa vs hn ⟨o,ho,hc,n,hd⟩=>⟨hn,o,k a o (λhm=>?_) ho,hc,n,hd⟩) λb o e0 e=>k b o (λhm=>by rw[(O b hm).2.1]at e0;cases e0) e
 obtain⟨_,_,o',ho',hd'⟩:=O a hm
 rw[ho]at ho';cases ho'
 exact hd'.seq hd
theorem ay.tmp{h:Heap}(I:ay W ι σ h){a:Addr}(ha:a∈ι){x y:Value}(hp:Yx h a x y):∃j,ι[j]?=some a/\a6 σ j=some .tmp:=by
 obtain⟨j,hj,rfl⟩:=ZB.mp ha
 have hs:a6 σ j=some (σ[j]'(I.len▸hj)):=by rw[aj];exact Wt _
 refine⟨j,Wt hj,?_⟩
 rw[hs]
 have ho:=I.obj j _ _ hs (Wt hj)
 by_cases q:σ[j]'(I.len▸hj)=.tmp
 ·rw[q]
 ·exact absurd ⟨x,y,rfl⟩ (ho.notPr q hp)
theorem ay.pair{h h':Heap}(I:ay W ι σ h)(O:du W own ι h){TO:Addr}(hTO:TO∈ι){x y x' y':Value}(hp:Yx h TO x y)(hp':Yx h' TO x' y')
  (k:∀c o,c∉own->c≠TO->h.get? c=some o->h'.get? c=some o):ay W ι σ h':=by
 obtain⟨j,hj,hs⟩:=I.tmp hTO hp
 have ht:hF ι h ι h':=λa vs hn ⟨o,ho,hc,n,hd⟩=>by
  refine⟨hn,o,k a o (λhm=>?_) (λq=>hn (q▸hTO)) ho,hc,n,hd⟩
  obtain⟨_,_,o',ho',hd'⟩:=O a hm
  rw[ho]at ho';cases ho'
  exact hd'.seq hd
 refine⟨I.len,I.nd,I.big,I.up,λb o e=>k b o (λhm=>by rw[(O b hm).2.1]at e;cases e) (λq=>by rw[q,I.up j _ _ hs hj (λl z=>by cases z)]at e;cases e) (I.base b o e),λi o a e1 e2=>?_⟩
 by_cases q:i=j
 ·subst q
  rw[hs]at e1;cases e1
  rw[hj]at e2;cases e2
  exact Exists.intro _ ⟨hp',_,_,rfl⟩
 ·have hne:a≠TO:=λe=>q (by
   subst e
   obtain⟨h1,h2⟩:=Wv.mp e2
   obtain⟨h3,h4⟩:=Wv.mp hj
   exact eY I.nd h1 h3 (h2.trans h4.symm))
  exact(I.obj i o a e1 e2).mono (λ_ _ e=>e) (λp hp=>k a p (λhm=>(O a hm).1 (WN e2)) hne hp) ht
theorem zV{target:Wk}{I:Addr}{u:Value}{o:Obj}{n:String}{Q:Unit->Wp->Prop}(ho:s.heap.get? I=some o)(hc:o.cls=.type n)
  (hn: ["enumerate","zip","dict_itemiterator","dict_reverseitemiterator","odict_iterator","itertools.zip_longest","itertools.pairwise"].contains n=false)(h:Q () s):
  wpAny (model W.prog W.w) A (letOwnedTupleGo target (.ref I) u) Q E s:=by
 unfold letOwnedTupleGo
 cases target<;>first
  |exact Ws h
  | (cases u<;>first
    |exact Ws h
    | (
     refine Wj (wpAny_load ho ?_)
     rw[hc]
     cases hd:o.data with
     |fields vs=>
      dsimp only
      rw[hn]
      exact Ws h
     |_=>exact Ws h))
theorem A7{α:Type}{l:List α}{k:Nat}(h:k+1<=l.length): (l.take (k+1)).reverse=l[k]::(l.take k).reverse:=by
 rw[List.take_add_one,Wt (by omega)]
 simp
structure Fv(W:Wd)(ι:List Addr)(σ:St)(own:List Addr)(s:Wp)(Q:Option Value->Wp->Prop):Prop where
 go:∀h' tk,ay W ι σ h'->nq own ι s.heap h'->Q none {s with heap:=h',toks:=tk}
structure Dw(W:Wd)(ι:List Addr)(σ:St)(zp:Bool)(own:List Addr)(it:Value)(s:Wp)(Q:Option Value->Wp->Prop)(v:V)(src':bA):Prop where
 go:∀u h' tk,ay W ι σ h'->nq own ι s.heap h'->VR ι h' v u->du W own ι h'->IR zp own ι h' it src'->Q (some u) {s with heap:=h',toks:=tk}
noncomputable def Nxt(W:Wd)(A:X7)(target:Wk)(it:Value)(Q:Option Value->Wp->Prop)(E:Value->Wp->Prop)(s:Wp):Prop:=
 wpAny (model W.prog W.w) A (pyNext it) (λo s₁=>match o with
   |none=>Q none s₁
   |some u=>wpAny (model W.prog W.w) A (letOwnedTupleGo target it u) (λ_ s₂=>Q (some u) s₂) E s₁) E s
structure tA(W:Wd)(ι:List Addr)(σ:St)(own:List Addr)(s:Wp)(I₀:Addr):Prop where
 eq:own=[I₀]
 inv:ay W ι σ s.heap
 ow:du W own ι s.heap
section
variable{zp:Bool}{target:Wk}{it:Value}{Q:Option Value->Wp->Prop}{I₀:Addr}{h':Heap}
theorem tA.ext(O:tA W ι σ own s I₀)(k:a0l I₀ s.heap h'):ay W ι σ h'/\nq own ι s.heap h':=by
 have kk:∀c o,c∉own->s.heap.get? c=some o->h'.get? c=some o:=λc o n e=>k c o (λq=>n (by rw[O.eq,q];exact .head _)) e
 exact⟨O.inv.step O.ow kk,nq.of kk⟩
theorem tA.turn(O:tA W ι σ own s I₀){o:Obj}(h1:h'.get? I₀=some o)(h2:Rc o):du W own ι h':=λa ha=>by
 obtain⟨g1,g2,_⟩:=O.ow a ha
 rw[O.eq]at ha
 cases WF.mp ha
 exact⟨g1,g2,o,h1,h2⟩
theorem tA.mono(O:tA W ι σ own s I₀)(k:WY I₀ s.heap h'):hF ι s.heap ι h':=λa vs hn z=>by
 obtain⟨o,h1,hc,n,hd⟩:=z
 refine⟨hn,o,k.extBut a o (λq=>?_) h1,hc,n,hd⟩
 obtain⟨_,_,o',ho',hd'⟩:=O.ow a (by rw[O.eq,q];exact .head _)
 rw[h1]at ho';cases ho'
 exact hd'.seq hd
theorem tA.fin(O:tA W ι σ own s I₀)(h0:Fv W ι σ own s Q){tk:Tok}(k:a0l I₀ s.heap h'):Q none {s with heap:=h',toks:=tk}:=h0.go h' tk (O.ext k).1 (O.ext k).2
theorem tA.val(O:tA W ι σ own s I₀){v:V}{u:Value}{src':bA}{tk:Tok}{o:Obj}{n:String}(h1:Dw W ι σ zp own (.ref I₀) s Q v src')(k:WY I₀ s.heap h')(ho:h'.get? I₀=some o)(hc:o.cls=.type n)
  (hn: ["enumerate","zip","dict_itemiterator","dict_reverseitemiterator","odict_iterator","itertools.zip_longest","itertools.pairwise"].contains n=false)(hd:Rc o)(V0:VR ι h' v u)(R:IR zp own ι h' (.ref I₀) src'):
  wpAny (model W.prog W.w) A (letOwnedTupleGo target (.ref I₀) u) (λ_ s₂=>Q (some u) s₂) E {s with heap:=h',toks:=tk}:=
 have x:=O.ext k.extBut
 zV ho hc hn (h1.go u h' tk x.1 x.2 V0 (O.turn ho hd) R)
theorem jY{α:Type}{l:List α}{k:Nat}(h:l.drop k=[]):l[k]?=none:=XT (List.drop_eq_nil_iff.mp h)
theorem jw{α:Type}{l m:List α}{k:Nat}{a:α}(h:l.drop k=a::m):l[k]?=some a/\l.drop (k+1)=m:=by
 have e:=Zf (xs:=l) (i:=k) (j:=0)
 rw[h]at e
 refine⟨e.symm,?_⟩
 rw[<-List.tail_drop,h]
 rfl
theorem CL{l:List V}{t:Addr}{vs:List Value}{k:Nat}(hh:A.handled=none)(O:tA W ι σ own s I₀)(hI:s.heap.IsTupleIter I₀ t k)(T:s.heap.IsTuple t (X0 vs)/\t∉ι)(V0:aB ι s.heap l (vs.drop k))
  (h0:l=[]->Fv W ι σ own s Q)(h1:∀v m,l=v::m->Dw W ι σ zp own (.ref I₀) s Q v (.vals m)):Nxt W A target (.ref I₀) Q E s:=by
 cases hd:vs.drop k with
 |nil=>
  rw[hd]at V0
  cases l with
  |cons _ _=>exact V0.elim
  |nil=>exact wpAny_pyNext_tuple_end hh hI T.1 (by rw[X9];exact jY hd) λh' k'=>O.fin (h0 rfl) (tk:=s.toks) k'
 |cons u us=>
  rw[hd]at V0
  cases l with
  |nil=>exact V0.elim
  |cons v m=>
   obtain⟨hu,hs⟩:=jw hd
   refine wpAny_pyNext_tuple_item hI T.1 (by rw[X9];exact hu) λh' hI' k'=>?_
   obtain⟨o',ho',hc',hd'⟩:=id hI'
   have hm:=O.mono k'
   exact O.val (tk:=s.toks) (h1 v m rfl) k' ho' hc' (by decide) ⟨_,hd'⟩ (V0.hd.mono (λ_ _ e=>e) hm) (.tup I₀ t vs (k+1) rfl O.eq hI' ⟨(hm t _ T.2 T.1).2,T.2⟩ (hs.symm▸V0.tl.mono (λ_ _ e=>e) hm))
theorem AY{l:List V}{x:Int}{n:Nat}(hh:A.handled=none)(O:tA W ι σ own s I₀)(hI:IsRangeIter s.heap I₀ x (Nat.cast n) 1)(hl:l=((Zb n).map λ(j:Nat)=>V.int (x+(j:Int))))
  (h0:l=[]->Fv W ι σ own s Q)(h1:∀v m,l=v::m->Dw W ι σ zp own (.ref I₀) s Q v (.vals m)):Nxt W A target (.ref I₀) Q E s:=by
 cases n with
 |zero=>exact wpAny_pyNext_range_end hh hI (Int.le_refl _) λh' k'=>O.fin (h0 hl) (tk:=s.toks) k'
 |succ n=>
  rw[List.range_succ_eq_map,YH,List.map_map]at hl
  refine wpAny_pyNext_range_item hI (by omega) λh' hI' k'=>?_
  refine O.val (tk:=s.toks+1) (h1 _ _ hl) k' hI' rfl (by decide) ⟨_,rfl⟩ ⟨s.toks,by simp⟩ (.rng I₀ (x+1) n rfl O.eq ?_ ?_)
  ·rw[show((n+1:Nat):Int)-1=n by omega]at hI'
   exact hI'
  ·refine ZS λj _=>congrArg V.int ?_
   show x+((j+1:Nat):Int)=x+1+j
   omega
theorem By{l:List V}{t:Addr}{vs:List Value}{k:Nat}(hh:A.handled=none)(O:tA W ι σ own s I₀)(hk0:k<=100001)(hI:dL s.heap I₀ t ((k:Nat)-1:Int))(T:s.heap.IsTuple t (X0 vs)/\t∉ι)(hk:k<=vs.length)(V0:aB ι s.heap l (vs.take k).reverse)
  (h0:l=[]->Fv W ι σ own s Q)(h1:∀v m,l=v::m->Dw W ι σ zp own (.ref I₀) s Q v (.vals m)):Nxt W A target (.ref I₀) Q E s:=by
 cases k with
 |zero=>
  cases l with
  |nil=>exact iO hh hI λh' k'=>O.fin (h0 rfl) (tk:=s.toks) k'
  |cons _ _=>exact V0.elim
 |succ k=>
  rw[A7 hk]at V0
  cases l with
  |nil=>exact V0.elim
  |cons v m=>
   rw[show((k+1:Nat):Int)-1=k by omega]at hI
   refine iw hI T.1 (x:=vs[k]) (by rw[X9];exact Wt hk) (by omega) λh' tk hI' k'=>?_
   have hm:=O.mono k'
   exact O.val (tk:=tk) (h1 v m rfl) k' hI' rfl (by decide) ⟨_,rfl⟩ (V0.hd.mono (λ_ _ e=>e) hm) (.rev I₀ t vs k rfl O.eq (WR hk0) hI' ⟨(hm t _ T.2 T.1).2,T.2⟩ (WR hk) (V0.tl.mono (λ_ _ e=>e) hm))
theorem y5{i k:Nat}{a:Addr}{l:List V}(hh:A.handled=none)(O:tA W ι σ own s I₀)(hx:a6 σ i=some (.lst l))(ha:ι[i]?=some a)(hI:s.heap.IsListIter I₀ a k)
  (h0:l[k]?=none->Fv W ι σ own s Q)(h1:∀v,l[k]?=some v->Dw W ι σ zp own (.ref I₀) s Q v (.list i (k+1))):Nxt W A target (.ref I₀) Q E s:=by
 refine O.inv.lst (v:= .ref a) hx ⟨a,rfl,ha⟩ λa' vs n hv ha' hlen hl R=>?_
 cases hv
 cases hv:l[k]? with
 |some v=>
  obtain⟨u,hu,V0⟩:=R.get hv
  refine wpAny_pyNext_list_item hI hl.isList (by rw[X9];exact hu) λh' hI' k'=>?_
  obtain⟨o',ho',hc',hd'⟩:=id hI'
  exact O.val (tk:=s.toks) (h1 v hv) k' ho' hc' (by decide) ⟨_,hd'⟩ (V0.mono (λ_ _ e=>e) (O.mono k')) ⟨I₀,a,rfl,O.eq,ha,hI'⟩
 |none=>exact wpAny_pyNext_list_end hh hI hl.isList (by rw[X9];exact XT (R.len▸Yn.mp hv)) λh' k'=>O.fin (h0 hv) (tk:=s.toks) k'
theorem uu{i k:Nat}{a:Addr}{l:List V}{v:V}(O:tA W ι σ own s I₀)(hk0:k+1<=100001)(hx:a6 σ i=some (.lst l))(ha:ι[i]?=some a)(hI:s.heap.IsRevIter I₀ a ((k+1:Nat)-1:Int))(hv:l[k]?=some v)
  (h1:Dw W ι σ zp own (.ref I₀) s Q v (.rlist i k)):Nxt W A target (.ref I₀) Q E s:=by
 refine O.inv.lst (v:= .ref a) hx ⟨a,rfl,ha⟩ λa' vs n hv' ha' hlen hl R=>?_
 cases hv'
 obtain⟨u,hu,V0⟩:=R.get hv
 rw[show((k+1:Nat):Int)-1=k by omega]at hI
 refine wpAny_pyNext_rev_item hI hl.isList (by rw[X9];exact hu) λh' hI' k'=>?_
 obtain⟨o',ho',hc',hd'⟩:=id hI'
 exact O.val (tk:=s.toks) h1 k' ho' hc' (by decide) ⟨_,hd'⟩ (V0.mono (λ_ _ e=>e) (O.mono k')) ⟨I₀,a,rfl,O.eq,WR hk0,ha,hI'⟩
theorem wH{z TI TO i1 i2 t1 t2:Addr}{k1 k2:Nat}{xs ys:List Value}(ho:own=[z,i1,i2])(Z:Zp s.heap .none z TI TO i1 i2 t1 t2 k1 k2 xs ys)(hTO:TO∈ι)(I:ay W ι σ s.heap)(O:du W own ι s.heap){x' y':Value}
  (k:∀c o,c≠z->c≠TO->c≠i1->c≠i2->s.heap.get? c=some o->h'.get? c=some o)(hp:Yx h' TO x' y'):ay W ι σ h'/\nq own ι s.heap h':=by
 obtain⟨a0,b0,hpair⟩:=Z.hto
 have off:∀c o,c∉own->c≠TO->s.heap.get? c=some o->h'.get? c=some o:=λc o n1 n2 e=>
  k c o (λq=>n1 (by rw[ho,q];exact .head _)) n2 (λq=>n1 (by rw[ho,q];exact .tail _ (.head _))) (λq=>n1 (by rw[ho,q];exact .tail _ (.tail _ (.head _)))) e
 refine⟨I.pair O hTO hpair hp off,λc o n1 n2 e=>off c o n1 (λq=>n2 (q▸hTO)) e,λc o n1 e=>?_⟩
 by_cases q:c=TO
 ·subst q
  rw[hpair]at e;cases e
  exact⟨_,hp,(λes n q=>nomatch q),λ_=>⟨_,_,rfl⟩⟩
 ·exact⟨o,off c o n1 q e,λes n d=>⟨es,n,d⟩,id⟩
theorem Bk{l l1 l2:List V}{z TI TO i1 i2 t1 t2:Addr}{k1 k2:Nat}{xs ys:List Value}(hh:A.handled=none)(I:ay W ι σ s.heap)(O:du W own ι s.heap)(ht:∃elts x pos,target=.Tuple elts x pos)(hz:zp=true)
  (ho:own=[z,i1,i2])(Z:Zp s.heap .none z TI TO i1 i2 t1 t2 k1 k2 xs ys)(hTO:TO∈ι)(hTIi:TI∉ι)(n1:t1∉ι)(n2:t2∉ι)(V1:aB ι s.heap l1 (xs.drop k1))(V2:aB ι s.heap l2 (ys.drop k2))(hl:l=nR l1 l2)
  (h0:l=[]->Fv W ι σ own s Q)(h1:∀v m,l=v::m->Dw W ι σ zp own (.ref z) s Q v (.vals m)):Nxt W A target (.ref z) Q E s:=by
 obtain⟨elts,x1,pos,rfl⟩:=ht
 have fin:l=[]->xs[k1]?=none\/ys[k2]?=none->Nxt W A (.Tuple elts x1 pos) (.ref z) Q E s:=λe q=>kY hh Z q λh' k' hp=>by
  obtain⟨a,b,hp⟩:=hp
  have x:=wH ho Z hTO I O k' hp
  exact(h0 e).go h' s.toks x.1 x.2
 cases g1:xs.drop k1 with
 |nil=>
  rw[g1]at V1
  cases l1 with
  |nil=>exact fin hl (.inl (jY g1))
  |cons _ _=>exact V1.elim
 |cons p ps=>
 cases g2:ys.drop k2 with
 |nil=>
  rw[g2]at V2
  cases l2 with
  |nil=>exact fin (by cases l1<;>exact hl) (.inr (jY g2))
  |cons _ _=>exact V2.elim
 |cons q qs=>
 rw[g1]at V1
 rw[g2]at V2
 cases l1 with
 |nil=>exact V1.elim
 |cons a1 l1=>
 cases l2 with
 |nil=>exact V2.elim
 |cons a2 l2=>
 obtain⟨hp,e1⟩:=jw g1
 obtain⟨hq,e2⟩:=jw g2
 refine jX Z hp hq λh₁ Z₁ hT₁ k₁=>?_
 refine wpAny_letOwnedTupleGo_zip (s:={s with heap:=h₁}) Z₁.hz λh₂ hz₂ hs₂=>?_
 have D:=Z₁.dist
 have k₂:∀c o,c≠z->c≠TO->c≠i1->c≠i2->s.heap.get? c=some o->h₂.get? c=some o:=λc o c1 c2 c3 c4 e=>hs₂.extBut c o c1 (k₁ c o c1 c2 c3 c4 e)
 have up:∀c o,c≠z->h₁.get? c=some o->h₂.get? c=some o:=λc o c1 e=>hs₂.extBut c o c1 e
 obtain⟨a',b',hto₁⟩:=Z₁.hto
 have hto₂:=up _ _ D.TOz hto₁
 obtain⟨I₂,S₂⟩:=wH ho Z hTO I O k₂ hto₂
 have T₂:∀t vs,t∉ι->s.heap.IsTuple t vs->h₂.IsTuple t vs:=λt vs hn z=>by
  obtain⟨o,h1,hc,n,hd⟩:=z
  refine⟨o,S₂.keep t o (λhm=>?_) hn h1,hc,n,hd⟩
  obtain⟨_,_,o',ho',hd'⟩:=O t hm
  rw[h1]at ho';cases ho'
  exact hd'.seq hd
 have tu:hF ι s.heap ι h₂:=λt vs hn h=>⟨hn,T₂ t vs hn h⟩
 obtain⟨o1,g1,c1,d1⟩:=Z₁.h1
 obtain⟨o2,g2,c2,d2⟩:=Z₁.h2
 have O₂:du W own ι h₂:=λa ha=>by
  obtain⟨q1,q2,_⟩:=O a ha
  refine⟨q1,q2,?_⟩
  rw[ho]at ha
  cases ha with
  |head=>exact⟨_,hz₂,⟨_,rfl⟩⟩
  |tail _ ha=>
  cases ha with
  |head=>exact⟨o1,up _ o1 D.i1z g1,⟨_,d1⟩⟩
  |tail _ ha=>
  cases ha with
  |head=>exact⟨o2,up _ o2 D.i2z g2,⟨_,d2⟩⟩
  |tail _ ha=>cases ha
 exact(h1 _ _ hl).go _ h₂ s.toks I₂ S₂ (VR.mkTup (vs:=[p,q]) ⟨_,up _ _ (YB (XO Z.hz)) hT₁,rfl,0,rfl⟩ (I.out (aw _)) (XM (V1.hd.mono (λ_ _ e=>e) tu) (XM (V2.hd.mono (λ_ _ e=>e) tu) trivial))) O₂
  (.zip z TI TO i1 i2 t1 t2 (k1+1) (k2+1) xs ys l1 l2 hz rfl ho ⟨hz₂,up _ _ D.TIz Z₁.hti,⟨a',b',hto₂⟩,⟨o1,up _ o1 D.i1z g1,c1,d1⟩,⟨o2,up _ o2 D.i2z g2,c2,d2⟩,T₂ _ _ n1 Z.hx,T₂ _ _ n2 Z.hy,Z.hd⟩ hTO hTIi n1 n2
   (e1.symm▸V1.tl.mono (λ_ _ e=>e) tu) (e2.symm▸V2.tl.mono (λ_ _ e=>e) tu) rfl)
theorem IR.next{src:bA}{r:Option (V × bA)}(hh:A.handled=none)(I:ay W ι σ s.heap)(O:du W own ι s.heap)(R:IR zp own ι s.heap it src)
  (ht:zp=true->∃elts x pos,target=.Tuple elts x pos)(e:src.next σ=some r)
  (h0:r=none->Fv W ι σ own s Q)(h1:∀v src',r=some (v,src')->Dw W ι σ zp own it s Q v src'):Nxt W A target it Q E s:=by
 cases src with
 |vals l=>
  have h0':l=[]->Fv W ι σ own s Q:=λq=>h0 (by rw[q]at e;exact(Wn e).symm)
  have h1':∀v m,l=v::m->Dw W ι σ zp own it s Q v (.vals m):=λv m q=>h1 v _ (by rw[q]at e;exact(Wn e).symm)
  rcases R with⟨I₀,t,vs,k,rfl,ho,hI,T,V0⟩| ⟨I₀,x,n,rfl,ho,hI,hl⟩| ⟨I₀,t,vs,k,rfl,ho,hk0,hI,T,hk,V0⟩| ⟨z,TI,TO,i1,i2,t1,t2,k1,k2,xs,ys,l1,l2,hz,rfl,ho,Z,hTO,hTIi,n1,n2,V1,V2,hl⟩
  ·exact CL hh ⟨ho,I,O⟩ hI T V0 h0' h1'
  ·exact AY hh ⟨ho,I,O⟩ hI hl h0' h1'
  ·exact By hh ⟨ho,I,O⟩ hk0 hI T hk V0 h0' h1'
  ·exact Bk hh I O (ht hz) hz ho Z hTO hTIi n1 n2 V1 V2 hl h0' h1'
 |list i k=>
  obtain⟨I₀,a,rfl,ho,ha,hI⟩:=R
  exact aZ e ad λl hx e=>y5 hh ⟨ho,I,O⟩ hx ha hI (λq=>h0 (by rw[q]at e;exact(Wn e).symm)) λv q=>h1 v _ (by rw[q]at e;exact(Wn e).symm)
 |rlist i k=>
  obtain⟨I₀,a,rfl,ho,hk,ha,hI⟩:=R
  cases k with
  |zero=>exact wpAny_pyNext_rev_end hh hI λh' k'=>tA.fin ⟨ho,I,O⟩ (h0 (Wn e).symm) (tk:=s.toks) k'
  |succ k=>exact aZ e ad λl hx e=>a8 e ad λv hv e=>uu ⟨ho,I,O⟩ hk hx ha hI hv (h1 v _ (Wn e).symm)
end
end
noncomputable def oG(h₀:Heap)(own:List Addr):Prop:=∀a∈own,h₀.get? a=none
inductive wB(W:Wd)(zp:Bool)(h₀:Heap)(ι:List Addr)(h:Heap)(src:bA)(x:Value):Prop
 |tup (l:List V):src=.vals l->VR ι h (.tup l) x->wB W zp h₀ ι h src x
 |lst (i:Nat) (a:Addr) (vs:List Value) (n:Nat):src=.list i 0->VR ι h (.ref i) x->x=.ref a->IsL h a (X0 vs) n->wB W zp h₀ ι h src x
 |rng (r:Addr) (t u v:Tok) (n:Nat):x=.ref r->IsRange h r 0 n 1 t u v->n<100->src=.vals ((Zb n).map λ(j:Nat)=>V.int (j:Int))->wB W zp h₀ ι h src x
 |it (own:List Addr):IR zp own ι h x src->du W own ι h->oG h₀ own->wB W zp h₀ ι h src x
theorem aB.one{ι:List Addr}{h:Heap}{a:V}{us:List Value}{P:Prop}(H:aB ι h [a] us)(k:∀u,us=[u]->VR ι h a u->P):P:=H.cons λu r e V R=>k u (R.nil▸e) V
theorem aB.two{ι:List Addr}{h:Heap}{a b:V}{us:List Value}{P:Prop}(H:aB ι h [a,b] us)(k:∀u v,us=[u,v]->VR ι h a u->VR ι h b v->P):P:=H.cons λu r e V R=>R.one λv e2 w=>k u v (e2▸e) V w
theorem xg(n:Nat):∀acc:List V,gF n acc=((Zb n).map λ(j:Nat)=>V.int (j:Int))++acc:=by
 induction n with
 |zero=>exact λ_=>rfl
 |succ n ih=>
  intro acc
  show gF n (.int (Yj n)::acc)=_
  rw[ih,List.range_succ,Yb,Xb]
  rfl
section
variable{W:Wd}{A:X7}{E:Value->Wp->Prop}{s:Wp}{ι:List Addr}{σ:St}{own:List Addr}
theorem du.one{h:Heap}(I:ay W ι σ h){h':Heap}{a:Addr}{o:Obj}(hn:h.get? a=none)(ho:h'.get? a=some o)(hd:Rc o):du W [a] ι h':=λb hb=>by
 simp only[WF]at hb
 subst hb
 exact⟨I.out hn,I.free hn,o,ho,hd⟩
theorem IR.self{zp:Bool}{it:Value}{src:bA}{Q:Value->Wp->Prop}(R:IR zp own ι s.heap it src)(h:Q it s):wpAny (model W.prog W.w) A (pyIter it) Q E s:=by
 cases src with
 |vals l=>
  rcases R with⟨I₀,t,vs,k,rfl,ho,hI,T,V0⟩| ⟨I₀,x,n,rfl,ho,hI,hl⟩| ⟨I₀,t,vs,k,rfl,ho,hk0,hI,T,hk,V0⟩| ⟨z,TI,TO,i1,i2,t1,t2,k1,k2,xs,ys,l1,l2,hz,rfl,ho,Z,hTO,hTIi,n1,n2,V1,V2,hl⟩
  ·exact wpAny_pyIter_tupleiter hI h
  ·exact wpAny_pyIter_rangeiter hI h
  ·exact nF hI h
  ·exact wpAny_pyIter_zip Z.hz h
 |list i k=>obtain⟨I₀,a,rfl,ho,ha,hI⟩:=R;exact wpAny_pyIter_listiter hI h
 |rlist i k=>obtain⟨I₀,a,rfl,ho,hk,ha,hI⟩:=R;exact wpAny_pyIter_revIter hI h
theorem lK{zp:Bool}{h₀:Heap}{src:bA}{x:Value}{Q:Value->Wp->Prop}(I:ay W ι σ s.heap)(old:∀b o,h₀.get? b=some o->∃o',s.heap.get? b=some o')(R:wB W zp h₀ ι s.heap src x)
  (h:∀it own h',ay W ι σ h'->Ev No ι s.heap ι h'->IR zp own ι h' it src->du W own ι h'->oG h₀ own->Q it {s with heap:=h'}):wpAny (model W.prog W.w) A (pyIter x) Q E s:=by
 have new:oG h₀ [s.heap.objs.size]:=λa ha=>by
  simp only[WF]at ha
  subst ha
  cases q:h₀.get? s.heap.objs.size with
  |none=>rfl
  |some o=>obtain⟨o',ho'⟩:=old _ _ q;rw[aw]at ho';cases ho'
 rcases R with⟨l,rfl,V0⟩| ⟨i,a,vs,n,rfl,⟨a0,rfl,ha⟩,hv,hl⟩| ⟨r,t,u,v,n,rfl,hr,hn,rfl⟩| ⟨own,R,O,N⟩
 ·refine V0.tup λa vs ea T1 T2 R=>?_
  subst ea
  have T:=XM T1 T2
  refine a0c T.1 (h _ [s.heap.objs.size] _ (I.keeps (aq _ _)) (Ev.keeps No ι (aq _ _)) ?_ (du.one I (aw _) (WA _ rfl) ⟨_,rfl⟩) new)
  have ev:Ev No ι s.heap ι _:=Ev.keeps No ι (aq s.heap {cls:= .type "tuple_iterator",data:= .fields #[.ref a,.int 0 0]})
  exact .tup _ a vs 0 rfl rfl ⟨_,WA _ rfl,rfl,rfl⟩ ⟨(ev.tup a _ T.2 T.1).2,T.2⟩ (R.up ev)
 ·cases hv
  refine wpAny_pyIter_list hl.isList (h _ [s.heap.objs.size] _ (I.keeps (aq _ _)) (Ev.keeps No ι (aq _ _)) ?_ (du.one I (aw _) (WA _ rfl) ⟨_,rfl⟩) new)
  exact⟨_,a,rfl,rfl,ha,_,WA _ rfl,rfl,rfl⟩
 ·refine wpAny_pyIter_range hr (small_one (by omega) (by omega) (by omega) (by omega)) (h _ [s.heap.objs.size] _ (I.keeps (aq _ _)) (Ev.keeps No ι (aq _ _)) ?_ (du.one I (aw _) (WA _ rfl) ⟨_,rfl⟩) new)
  have e1:XD.Range.rangeSize 0 (n:Int) 1=n:=by rw[rangeSize_one];split<;>omega
  rw[e1]
  exact .rng _ 0 n rfl rfl (WA _ rfl) (by simp)
 ·exact R.self (h x own s.heap I (Ev.refl ..) R O N)
theorem Cl{u1 u2:Value}{a b:List V}{h₀:Heap}(nw:∀a,s.heap.get? a=none->h₀.get? a=none)(I:ay W ι σ s.heap)(V1:VR ι s.heap (.tup a) u1)(V2:VR ι s.heap (.tup b) u2):
  wpAny (model W.prog W.w) A (call (.type "zip") [u1,u2]) (EP W No ι s (.ok (.vals (nR a b)) (σ++[.tmp])) (λι h x v=>wB W true h₀ ι h x v)) E s:=by
 refine V1.tup λt1 xs e1 T1 m1 R1=>V2.tup λt2 ys e2 T2 m2 R2=>?_
 subst e1 e2
 refine xB T1 T2 λh' Z k=>?_
 obtain⟨a0,b0,hto⟩:=Z.hto
 have hn0:∀j,s.heap.get? (s.heap.objs.size+j)=none:=λj=>YU (WC _ _)
 generalize s.heap.objs.size=N at Z hto hn0 ⊢
 have ev:Ev No ι s.heap (ι++[N+3]) h':=Ev.new No ι k (hn0 3)
 have I':ay W (ι++[N+3]) (σ++[.tmp]) h':=I.new k (hn0 3) (Exists.intro _ ⟨hto,_,_,rfl⟩)
 have nin:∀j,j≠3->N+j∉ι++[N+3]:=λj hj hm=>by
  rcases X1.mp hm with hm|hm
  ·exact I.out (hn0 j) hm
  ·simp only[WF]at hm
   exact hj (Nat.add_left_cancel hm)
 have n4:=nin 4 (by decide)
 have n0:N∉ι++[N+3]:=nin 0 (by decide)
 have n1:=nin 1 (by decide)
 have n2:=nin 2 (by decide)
 have f4:=hn0 4
 have f0:s.heap.get? N=none:=hn0 0
 have f1:=hn0 1
 have hm:N+3∈ι++[N+3]:=Zs _ (WF.mpr rfl)
 clear hn0 nin
 generalize N+4=z at *
 generalize N+3=TO at *
 generalize N+2=TI at *
 generalize N+1=i2 at *
 have hir:IR true [z,N,i2] (ι++[TO]) h' (.ref z) (.vals (nR a b)):=
  .zip z TI TO N i2 t1 t2 0 0 xs ys a b rfl rfl rfl Z hm n2 (ev.tup _ _ m1 T1).1 (ev.tup _ _ m2 T2).1 (R1.up ev) (R2.up ev) rfl
 refine⟨.vals (nR a b),σ++[.tmp],ι++[TO],rfl,I',ev,Sm.heap s h',.it _ hir ?_ ?_⟩
 ·intro c hc
  simp only[WJ,WT,or_false]at hc
  rcases hc with rfl|rfl|rfl
  ·exact⟨n4,I.free f4,_,Z.hz,⟨_,rfl⟩⟩
  ·obtain⟨o,ho,_,hd⟩:=Z.h1
   exact⟨n0,I.free f0,o,ho,⟨_,hd⟩⟩
  ·obtain⟨o,ho,_,hd⟩:=Z.h2
   exact⟨n1,I.free f1,o,ho,⟨_,hd⟩⟩
 ·intro c hc
  simp only[WJ,WT,or_false]at hc
  rcases hc with rfl|rfl|rfl
  ·exact nw _ f4
  ·exact nw _ f0
  ·exact nw _ f1
theorem Er{h₀:Heap}(hold:∀c o,h₀.get? c=some o->∃o',s.heap.get? c=some o')(a:Addr)(ha:s.heap.get? a=none):h₀.get? a=none:=by
 cases q:h₀.get? a with
 |none=>rfl
 |some o=>exact(hold _ _ q).elim λo' z=>ka ha z
theorem PI{h₀:Heap}(nw:∀a,s.heap.get? a=none->h₀.get? a=none):oG h₀ [s.heap.objs.size]:=λc hc=>WF.mp hc▸nw _ (aw _)
noncomputable abbrev IP(W:Wd)(zp:Bool)(h₀:Heap)(ι:List Addr)(s:Wp)(r:R bA):Value->Wp->Prop:=EP W No ι s r (wB W zp h₀)
theorem uQ{v:V}{r:R bA}{u:Value}{h₀:Heap}(I:ay W ι σ s.heap)(V0:VR ι s.heap v u)(he:Pm σ v=r)(hr:r≠.bad):wpAny (model W.prog W.w) A (call (.type "range") [u]) (IP W false h₀ ι s r) E s:=by
 refine aR he hr λz ez e1=>l9 e1 hr λn en e2=>am e2 hr λhn e=>?_
 subst ez en
 obtain⟨t,rfl⟩:=V0
 exact call_range_1 ⟨_,_,ι,e.symm,I.keeps (aq _ _),Ev.keeps No ι (aq _ _),Sm.mk' s _ _,.rng _ _ t _ n rfl (WA _ rfl) (Wl hn) (by rw[xg,Xh])⟩
theorem uO{v w:V}{r:R bA}{u1 u2:Value}{h₀:Heap}(nw:∀a,s.heap.get? a=none->h₀.get? a=none)(I:ay W ι σ s.heap)(V1:VR ι s.heap v u1)(V2:VR ι s.heap w u2)(he:Oq σ v w=r)(hr:r≠.bad):wpAny (model W.prog W.w) A (call (.type "zip") [u1,u2]) (IP W true h₀ ι s r) E s:=
 cy he hr λa ea e=>cy e hr λb eb e=>e▸Cl nw I (ea▸V1) (eb▸V2)
theorem ut{v:V}{r:R bA}{u:Value}{h₀:Heap}(nw:∀a,s.heap.get? a=none->h₀.get? a=none)(I:ay W ι σ s.heap)(V0:VR ι s.heap v u)(he:JV σ v=r)(hr:r≠.bad):wpAny (model W.prog W.w) A (call (.type "reversed") [u]) (IP W false h₀ ι s r) E s:=by
 cases v with
 |tup l=>
  refine am he hr λhf e=>V0.tup λt xs et T m R=>?_
  subst et
  have hz:xs.length<=100000:=R.len▸aN hf
  refine hH T (by rw[WX];omega) λh' tk hI k=>?_
  have ev:Ev No ι s.heap ι h':=Ev.keeps No ι k
  rw[WX]at hI
  exact⟨_,_,ι,e.symm,I.keeps k,ev,Sm.mk' s h' tk,.it [s.heap.objs.size] (.rev _ t xs xs.length rfl rfl (X8 hz) hI ⟨(ev.tup _ _ m T).2,m⟩ (WO _) (by rw[Zv];exact(R.up ev).reverse)) (du.one I (aw _) hI ⟨_,rfl⟩) (PI nw)⟩
 |ref i=>
  refine aZ he hr λl hx e=>I.lst hx V0 λa vs n ea ha hlen hl R=>?_
  subst ea
  have k:=aq s.heap (revObj a (((X0 vs).size:Int)-1))
  refine call_reversed_list hl.isList ⟨_,_,ι,e.symm,I.keeps k,Ev.keeps No ι k,Sm.heap s _,.it [s.heap.objs.size] ⟨_,a,rfl,rfl,hlen,ha,_,WA _ rfl,rfl,?_⟩ (du.one I (aw _) (WA _ rfl) ⟨_,rfl⟩) (PI nw)⟩
  simp only[revObj,WX,<-R.len]
 |_=>exact(hr he.symm).elim
theorem kD{zp:Bool}{h₀:Heap}{v:V}{r:R bA}{u:Value}{P:Prop}(I:ay W ι σ s.heap)(V0:VR ι s.heap v u)(he:kA σ v=r)(hr:r≠.bad)(k:∀src,.ok src σ=r->wB W zp h₀ ι s.heap src u->P):P:=by
 cases v with
 |tup l=>exact k _ he (.tup _ rfl V0)
 |ref i=>exact aZ he hr λl hx e=>I.lst hx V0 λa vs n ea ha hlen hl R=>k _ e (.lst _ a vs n rfl V0 ea hl)
 |_=>exact(hr he.symm).elim
end
end Mine
end
section
open PySem PySem.W PyProof.Rows
namespace Mine
theorem j5(x y:Int)(r:List Int):jg x (y::r)=tf (decide (x<=y)) (x::y::r) (y::jg x r):=rfl
theorem jo(x:Int)(l:List Int): (jg x l).Perm (x::l):=by
 induction l with
 |nil=>exact .refl _
 |cons y r ih=>
  rw[j5]
  cases decide (x<=y)with
  |true=>exact .refl _
  |false=>exact(ih.cons y).trans (.swap x y r)
theorem n9(x:Int){l:List Int}:l.Pairwise (· <= ·)->(jg x l).Pairwise (· <= ·):=by
 induction l with
 |nil=>exact λ_=>List.pairwise_singleton ..
 |cons y r ih=>
  intro h
  have hy:=Zg.mp h
  rw[j5]
  cases q:decide (x<=y)with
  |true=>
   have q:=of_decide_eq_true q
   exact Zg.mpr ⟨λz hz=>(WJ.mp hz).elim (λe=>e▸q) λhz=>ZV q (hy.1 z hz),h⟩
  |false=>
   have q:=of_decide_eq_false q
   exact Zg.mpr ⟨λz hz=>(WJ.mp ((jo x r).mem_iff.mp hz)).elim (λe=>e▸Int.le_of_lt (Int.not_le.mp q)) λhz=>hy.1 z hz,ih hy.2⟩
theorem mq(l:List Int): (ib l).Perm l:=by
 induction l with
 |nil=>exact .refl _
 |cons x r ih=>exact(jo x (ib r)).trans (ih.cons x)
theorem pL(l:List Int): (ib l).Pairwise (· <= ·):=by
 induction l with
 |nil=>exact .nil
 |cons x r ih=>exact n9 x ih
theorem uY{l m:List Int}(p:m.Perm l)(h:m.Pairwise (· <= ·)):m=ib l:=
 List.Perm.eq_of_pairwise (le:=(· <= ·)) (λa b _ _ h1 h2=>Int.le_antisymm h1 h2) h (pL l) (p.trans (mq l).symm)
theorem DT{ι:List Addr}{h:Heap}{vs:List Value}{ns:List Int}(H:IntsAre vs ns):aB ι h (ns.map .int) vs:=by
 induction H with
 |nil=>exact trivial
 |cons n t k ih=>exact XM ⟨t,rfl⟩ ih
section
variable{W:Wd}{A:X7}{E:Value->Wp->Prop}{s:Wp}{ι:List Addr}{σ:St}{own:List Addr}
theorem qd{d:Addr}{kvs:List (Int × Value)}{ep:Nat}{Q:List Value->Wp->Prop}(hh:A.handled=none)(lo: (d==sysModules)=false)(hd:s.heap.DictAt (iK W) d kvs ep)(hn:kvs.length<=100000)
  (h:∀vs h' tk,vs.length=kvs.length->(∀(j:Nat) (v:Value),vs[j]?=some v->∃k x,kvs[j]?=some (k,x)/\∃t,v=a04 k t)->(∀b o,s.heap.get? b=some o->h'.get? b=some o)->Q vs {s with heap:=h',toks:=tk}):
  wpAny (model W.prog W.w) A (collect (.ref d)) Q E s:=by
 let Q₁:Value->Wp->Prop:=λv s'=>∃a h' tk acc c,v=.ref a/\s'={s with heap:=h',toks:=tk}/\h'.get? a=some {cls:= .type "list",dict:=none,data:= .seq acc c,slots:=#[]}/\
  ItemsOf (λi v=>∃k x,kvs[i]?=some (k,x)/\(iK W).is k v=true) acc kvs.length/\∀b o,s.heap.get? b=some o->h'.get? b=some o
 have main:wpAny (model W.prog W.w) A (runValue (.builtin "proto.collect" ⟨[.ref d],[]⟩)) Q₁ E s:=by
  refine wpAny_runValue (codeAny_builtin entry_proto_collect' ?_)
  show wpAny _ _ (do again (.builtin "list.__iadd__" ⟨[<-newList [],.ref d],[]⟩)) _ _ s
  refine Wj (a0p (Ws ⟨a09 _ (by decide +kernel),codeAny_builtin entry_list_iadd' ?_⟩))
  rw[X7.under_plainId (by decide +kernel) _]
  show wpAny _ _ (XD.List.listExtendWith (.ref s.heap.objs.size) (.ref d) (.ref s.heap.objs.size)) _ _ {s with heap:=s.heap.push (seqObj "list" #[] 0)}
  have hd': (s.heap.push (seqObj "list" #[] 0)).DictAt (iK W) d kvs ep:=hd.push _
  have hlt:=hd.lt_size
  have hS: (s.heap.push (seqObj "list" #[] 0)).get? s.heap.objs.size=some {cls:= .type "list",data:= .seq #[] 0}:=WA _ rfl
  refine kdl_extend (R:=λr s'=>match r with | .ok (.ret v)=>Q₁ v s'| .ok _=>False| .error e=>E e s') (s:={s with heap:=s.heap.push (seqObj "list" #[] 0)}) (kdl_dict (knd:=iK W) (kvs:=kvs) (ep:=ep) lo) hh hd' s.heap.objs.size (YB hlt) (YB hlt) _ 0 hS (λh' tk acc' c' hk hS' hacc=>?_) (by rw[sizeLine_eq];omega)
  exact⟨_,h',tk,acc',c',rfl,rfl,hS',hacc,λb o e=>hk b o (XA (XO e)) (Wr _ e)⟩
 unfold collect
 refine Wj (WK main (λv s' h₁=>?_) λ_ _ z=>z)
 obtain⟨a,h',tk,acc',c',rfl,rfl,hS',hacc,k⟩:=h₁
 refine Wj (wpAny_load hS' (Ws ?_))
 refine h acc'.toList h' tk (by rw[Array.length_toList];exact hacc.1) (λj v hv=>?_) k
 obtain⟨k,x,e1,e2⟩:=hacc.2 j v (by simpa using hv)
 exact⟨k,x,e1,Value.isInt_shape e2⟩
theorem Eb{kvs:List (Int × Value)}:∀{vs:List Value},vs.length=kvs.length->(∀(j:Nat) (v:Value),vs[j]?=some v->∃k x,kvs[j]?=some (k,x)/\∃t,v=a04 k t)->IntsAre vs (kvs.map (·.1)):=by
 induction kvs with
 |nil=>exact λh _=>Xc h▸ .nil
 |cons q r ih=>
  intro vs h k
  cases vs with
  |nil=>exact nomatch h
  |cons v vs=>
   obtain⟨i,x,e,t,ev⟩:=k 0 v rfl
   cases Wn e
   exact ev▸ .cons i t (ih (YZ h) λj u hu=>k (j+1) u hu)
theorem sZ{d:Addr}{kvs:List (Int × Value)}{Q:Value->Wp->Prop}(hh:A.handled=none)(lo: (d==sysModules)=false)(hd:s.heap.DictOf (iK W) d kvs)(hn:kvs.length<64)
  (h:∀(out:List Value) (a:Addr) n h' tk,IntsAre out (ib (kvs.map (·.1)))->s.heap.get? a=none->IsL h' a out.toArray n->(∀b o,s.heap.get? b=some o->h'.get? b=some o)->Q (.ref a) {s with heap:=h',toks:=tk}):
  wpAny (model W.prog W.w) A (call (.builtin "sorted") [.ref d]) Q E s:=by
 obtain⟨ep,hat⟩:=hd.dictAt
 refine Calls.call_function_entry kind_sorted plain_sorted entry_sorted (args_sorted1 _) ?_
 unfold XD.«sorted»
 refine Wj (m:=checkCount "sorted" 1 1 _) (Ws ?_)
 refine Wj (qd hh lo hat (by omega) λvs h1 tk hl hv k1=>?_)
 have hI:=Eb hl hv
 refine Wj (a0p ?_ (by rw[sizeLine_eq];omega))
 have hoL: (h1.push (seqObj "list" vs.toArray 0)).get? h1.objs.size=some (seqObj "list" vs.toArray 0):=WA _ rfl
 show wpAny _ _ _ _ _ {s with heap:=h1.push (seqObj "list" vs.toArray 0),toks:=tk}
 refine Wj (X3 (XN slot_list_sort ⟨_,hoL,rfl⟩ entry_list_sort (list_sort_tree (s:={s with heap:=h1.push (seqObj "list" vs.toArray 0),toks:=tk}) hoL hI (by omega) λout ns' a1 a2 a3=>⟨_,rfl,?_⟩) (args_list_sort _)))
 refine Ws ⟨_,rfl,?_⟩
 have hns:ns'=ib (kvs.map (·.1)):=uY a2 a3
 subst hns
 have hnone:s.heap.get? h1.objs.size=none:=by
  cases q:s.heap.get? h1.objs.size with
  |none=>rfl
  |some o=>have:=k1 _ _ q;rw[aw]at this;cases this
 have hlast:∃n,IsL (sortedHeap (h1.push (seqObj "list" vs.toArray 0)) h1.objs.size vs out) h1.objs.size out n:=by
  unfold sortedHeap
  have g1:=get?_update_seq hoL (λ_=>#[])
  exact⟨_,get?_update_seq (Wr _ (Wr _ g1)) (λ_=>out)⟩
 obtain⟨n,hlast⟩:=hlast
 refine h out.toList h1.objs.size n _ tk a1 hnone hlast λb o e=>?_
 have hne:h1.objs.size≠b:=λq=>by subst q;rw[hnone]at e;cases e
 unfold sortedHeap
 rw[WL _ _ hne]
 refine Wr _ (Wr _ ?_)
 rw[WL _ _ hne]
 exact Wr _ (k1 b o e)
theorem AS{h:Heap}{d:Addr}{vs:List Value}(D:h.DictOf (sK W) d ((i9 []).zip vs)):h.DictOf (iK W) d []:=by
 obtain⟨o,es,ep,ho,hc,hdat,hk,hp,hn⟩:=D
 have he:es.toList=[]:=Xc hp.length
 exact⟨o,es,ep,ho,hc,hdat,λe he'=>absurd (he▸Array.mem_toList_iff.mpr he') WT,he▸ .nil,Yw⟩
theorem qv{x:V}{r:R V}{u:Value}(hh:A.handled=none)(I:ay W ι σ s.heap)(V0:VR ι s.heap x u)(he:wE σ x=r)(hr:r≠.bad):
  wpAny (model W.prog W.w) A (call (.builtin "sorted") [u]) (BP W ι s r) E s:=by
 have fin:∀{ks:List Int} {d:Addr},ks.length<64->newL σ ((ib ks).map .int)=r->(d==sysModules)=false->s.heap.DictOf (iK W) d (ks.map λk=>(k,YT true))->wpAny (model W.prog W.w) A (call (.builtin "sorted") [.ref d]) (BP W ι s r) E s:=λ{ks d} hn e lo hd=>by
  refine sZ hh lo hd (by rw[Xj];exact hn) λout a n h' tk hI hnew hL k=>?_
  rw[List.map_map,show((·.1) ∘ λk:Int=>(k,YT true))=id from rfl,List.map_id]at hI
  obtain⟨i1,i2,i3⟩:=pe No (l:=(ib ks).map .int) I (by rw[Xj,(mq ks).length_eq];exact Wz (Y0 hn) (by decide)) (DT hI) k hnew hL
  exact⟨_,_,_,e.symm,i1,i2,Sm.mk' s _ _,i3⟩
 refine aM he hr λi ei e=>a8 e hr λo hx e=>?_
 subst ei
 cases o with
 |nd ks=>exact am e hr λhn e=>I.nds hx V0 λd ed ha hd lo=>ed▸fin (Wl hn) e lo hd
 |sd es=>
  refine iB e hr λee e=>?_
  subst ee
  exact I.sd hx V0 λd vs ed ha hd R lo=>ed▸fin (ks:=[]) (by decide) e lo (AS hd)
 |_=>exact(hr e.symm).elim
end
end Mine
end
section
open PySem PySem.W
namespace Mine
section
variable{W:Wd}{A:X7}{E:Value->Wp->Prop}{s:Wp}{ι:List Addr}{σ:St}
noncomputable def F7(n:List Nat):String:=
 tf (bp n [97,112,112,101,110,100]) "list.append" (tf (bp n [101,120,116,101,110,100]) "list.extend" (tf (bp n [112,111,112]) "list.pop" "list.reverse"))
theorem zk{n:List Nat}{P:List Nat->Prop}(hm:AK n=true)(a:P [97,112,112,101,110,100])(b:P [101,120,116,101,110,100])(c:P [112,111,112])(d:P [114,101,118,101,114,115,101]):P n:=by
 unfold AK at hm
 rw[Yq,Yq,Yq,dU,dU,dU,dU]at hm
 rcases hm with((h|h)|h)|h<;>(subst h;assumption)
theorem tH{n:List Nat}{a:Addr}{items:Array Value}{k:Nat}{pl:Sem Bool}{Q:Value × List Value->Wp->Prop}(hm:AK n=true)(hl:IsL s.heap a items k)
  (h:Q (.builtin (F7 n),[.ref a]) s):wpAny (model W.prog W.w) A (getMethod (.ref a) (af n) pl) Q E s:=by
 have hT:s.TypeIs (.ref a) "list":=⟨_,hl,rfl⟩
 have hd:∀b,Xn a=.ref b->∃o,s.heap.get? b=some o/\o.dict=none:=λb e=>by cases e;exact⟨_,hl,rfl⟩
 exact zk (P:=λn=>Q (.builtin (F7 n),[.ref a]) s->wpAny (model W.prog W.w) A (getMethod (.ref a) (af n) pl) Q E s) hm (λh=>YR hT Zo a0d F.type_list_append hd h)
  (λh=>YR hT Zo F.slot_list_extend F.type_list_extend hd h) (λh=>YR hT Zo F.slot_list_pop F.type_list_pop hd h) (λh=>YR hT Zo F.slot_list_reverse F.type_list_reverse hd h) h
theorem pR{α:Type}{l r:List α}{v:α}(e:l.reverse=v::r):l=r.reverse++[v]:=by
 have:=congrArg List.reverse e
 simpa using this
section
variable{i:Nat}{l:List V}{v:V}{a:Addr}{ws:List Value}{k:Nat}{r:R V}
structure lQ(W:Wd)(ι:List Addr)(σ:St)(s:Wp)(i:Nat)(l:List V)(a:Addr)(ws:List Value)(k:Nat):Prop where
 inv:ay W ι σ s.heap
 at_:a6 σ i=some (.lst l)
 id:ι[i]?=some a
 len:l.length<=100001
 is:IsL s.heap a ws.toArray k
 rs:aB ι s.heap l ws
theorem lQ.fin(L:lQ W ι σ s i l a ws k){l':List V}{ws':List Value}{u:Value}{tk:Tok}(f:Array Value->Array Value)(hf:f ws.toArray=ws'.toArray)(hv:aB ι s.heap l' ws')(hl:l'.length<=100001)(e:jT σ i v l'=r)(V0:VR ι s.heap v u):
  BP W ι s r u {s with heap:=s.heap.update a (YW f),toks:=tk}:=by
 have z:=se No L.inv L.at_ L.id L.is f hf hv hl
 exact⟨v,_,ι,e.symm,z.1,z.2,Sm.mk' s _ _,V0.up z.2⟩
theorem lQ.sz(L:lQ W ι σ s i l a ws k){n:Nat}(h:n<=100000):ws.toArray.size+n<=sizeLine:=by
 rw[WX,<-L.rs.len]
 exact yW (Wz (Nat.add_le_add L.len h) (by decide))
theorem lQ.ty(L:lQ W ι σ s i l a ws k):s.TypeIs (.ref a) "list":=⟨_,L.is,rfl⟩
theorem xA(L:lQ W ι σ s i l a ws k){w:Value}(Vw:VR ι s.heap v w)(hf:aU l.length=true)(e:jT σ i .none (l++[v])=r):wpAny (model W.prog W.w) A (call (.builtin "list.append") [.ref a,w]) (BP W ι s r) E s:=
 Zd a0d L.ty F.entry_list_append (F.args_list_append_2 _ _) (list_append a ws.toArray k w (L.sz (Xu _))) ⟨L.is,L.fin (ws':=ws++[w]) (tk:=s.toks) (λx=>x.push w) (List.push_toArray ..) (L.rs.append (ys:=[v]) (XM Vw trivial))
  (by rw[Wu];exact XV (aN hf)) e rfl⟩
theorem y9(L:lQ W ι σ s i l a ws k){j:Nat}{m:List V}{w:Value}(hy:a6 σ j=some (.lst m))(Vw:VR ι s.heap (.ref j) w)(hf:aU (l.length+m.length)=true)(e:jT σ i .none (l++m)=r):
  wpAny (model W.prog W.w) A (call (.builtin "list.extend") [.ref a,w]) (BP W ι s r) E s:=by
 refine L.inv.lst hy Vw λb zs k2 eb hb hlen2 hl2 R2=>?_
 subst eb
 have hz:=la L.rs R2 hf
 exact Zd F.slot_list_extend L.ty F.entry_list_extend (F.args_list_extend_2 _ _) (AutoSeq1.list_extend_list_list_0 a ws.toArray k b zs.toArray k2 (λq=>Nat.not_lt.mpr hz (of_decide_eq_true (ac q).2)) (Wz (WC _ _) hz) (X8 hz))
  ⟨L.is,hl2,L.fin (ws':=ws++zs) (tk:=s.toks) (λx=>x++zs.toArray) (Yh ..) (L.rs.append R2) (by rw[Wu];exact X8 (aN hf)) e rfl⟩
theorem xc(L:lQ W ι σ s i l a ws k){rr:List V}(hrev:l.reverse=v::rr)(e:jT σ i v rr.reverse=r):wpAny (model W.prog W.w) A (call (.builtin "list.pop") [.ref a]) (BP W ι s r) E s:=by
 have hll:=pR hrev
 have hz:=L.rs.len
 have hne:ws.length=rr.reverse.length+1:=by rw[<-hz,hll,Wu];rfl
 obtain⟨y,hy,Vy⟩:=L.rs.get (i:=rr.reverse.length) (x:=v) (by rw[hll];exact aP _ _)
 have f2:=L.rs.take rr.reverse.length
 rw[hll,List.take_left' rfl]at f2
 refine Zd F.slot_list_pop L.ty F.entry_list_pop (F.args_list_pop_1 _) (MeetsSeq.list_pop_last a ws.toArray k y (by rw[WX,hne];exact(X9 ..).trans hy) (L.sz (Xu _))) ⟨L.is,L.fin (tk:=s.toks) (λxs=>xs.eraseIdxIfInBounds (ws.toArray.size-1)) ?_ f2 ?_ e Vy⟩
 ·have hlt:ws.toArray.size-1<ws.toArray.size:=by rw[WX,hne];exact XB _
  rw[Array.eraseIdxIfInBounds,dif_pos hlt]
  apply Array.toList_inj.mp
  rw[Array.toList_eraseIdx,List.eraseIdx_eq_take_drop_succ,WX,hne,Nat.add_sub_cancel,List.drop_of_length_le (Zn hne),Xh]
 ·exact Wz (Wz (ZD _) (Zn (hne.symm.trans hz.symm))) L.len
theorem xe(L:lQ W ι σ s i l a ws k)(e:jT σ i .none l.reverse=r):wpAny (model W.prog W.w) A (call (.builtin "list.reverse") [.ref a]) (BP W ι s r) E s:=
 Zd F.slot_list_reverse L.ty F.entry_list_reverse (F.args_list_reverse_1 _) (AutoSeq1.list_reverse_list_0 a ws.toArray k (L.sz (Xu _))) ⟨L.is,L.fin (ws':=ws.reverse) (tk:=s.toks) (λx=>x.reverse) (List.reverse_toArray ..) L.rs.reverse (by rw[List.length_reverse];exact L.len) e rfl⟩
theorem qn{n:List Nat}{vs:List V}{u:Value}{us:List Value}(I:ay W ι σ s.heap)(hx:a6 σ i=some (.lst l))(V0:VR ι s.heap (.ref i) u)(Vs:aB ι s.heap vs us)
  (he:iG σ i l n vs=r)(hr:r≠.bad):wpAny (model W.prog W.w) A (call (.builtin (F7 n)) (u::us)) (BP W ι s r) E s:=by
 refine I.lst hx V0 λa ws k ea ha hlen hl R=>?_
 subst ea
 have L:lQ W ι σ s i l a ws k:=⟨I,hx,ha,hlen,hl,R⟩
 unfold F7
 refine au he (λq e=>eH e hr λv ev e=>am e hr λhf e=>aB.one (ev▸Vs) λw ew Vw=>?_) λq e=>?_
 ·rw[q,ew];exact xA L Vw hf e
 rw[q]
 refine au e (λq e=>eH e hr λv ev e=>aM e hr λj ej e=>aZ e hr λm hy e=>am e hr λhf e=>aB.one (ev▸Vs) λw ew Vw=>?_) λq e=>iB e hr λev e=>?_
 ·rw[q,ew];exact y9 L hy (ej▸Vw) hf e
 rw[q,aB.nil (vs:=us) (ev▸Vs)]
 refine au e (λq e=>?_) λq e=>am e hr λ_ e=>?_
 ·rw[q]
  cases h:l.reverse with
  |nil=>rw[h]at e;exact(hr e.symm).elim
  |cons v rr=>rw[h]at e;exact xc L h e
 ·rw[q];exact xe L e
end
theorem rI{c k:Nat}{t t':Tok}{Q:Value->Wp->Prop}(he:uZ c [97,98,99,100] 0=some k)(h:Q (.int (k:Int) s.toks) {s with toks:=s.toks+1}):
  wpAny (model W.prog W.w) A (call (.builtin "str.index") [.str (af [97,98,99,100]) t,.str (af [c]) t']) Q E s:=by
 have key:∃rest,Zk (af [97,98,99,100]) (af [c]) 0 (af [97,98,99,100]).length 1=k::rest:=by
  have z:∀{a j:Nat},Wm a c=true->some j=some k->(∃rest,Zk (af [97,98,99,100]) (af [a]) 0 (af [97,98,99,100]).length 1=j::rest)->∃rest,Zk (af [97,98,99,100]) (af [c]) 0 (af [97,98,99,100]).length 1=k::rest:=
   λq e w=>Wq q▸Wn e▸w
  refine au he (λq e=>z q e ⟨[],by decide +kernel⟩) λ_ e=>au e (λq e=>z q e ⟨[],by decide +kernel⟩) λ_ e=>au e (λq e=>z q e ⟨[],by decide +kernel⟩) λ_ e=>au e (λq e=>z q e ⟨[],by decide +kernel⟩) λ_ e=>?_
  exact absurd e.symm ad
 exact key.elim λrest ho=>SC.index ho h
noncomputable def TN(k:Kd):String:=@Kd.rec (λ_=>String) "tuple" "str" k
theorem xP{k:Kd}{x:V}{u:Value}{r:R V}{Q:Value->Wp->Prop}(V0:VR ι s.heap x u)(he:cD x (λ_=>.bad) (.ok (.bool (E8 k x)) σ)=r)(hr:r≠.bad)
  (h:∀b,.ok (.bool b) σ=r->∀tk,Q (.bool b) {s with toks:=tk}):wpAny (model W.prog W.w) A (call (.builtin "isinstance") [u,.type (TN k)]) Q E s:=by
 cases x with
 |none=>cases V0;cases k with |tuple=>exact IsiPair.NoneType_tuple (h _ he _)|str=>exact IsiPair.NoneType_str (h _ he _)
 |bool _=>cases V0;cases k with |tuple=>exact IsiPair.bool_tuple (h _ he _)|str=>exact IsiPair.bool_str (h _ he _)
 |int _=>obtain⟨t,rfl⟩:=V0;cases k with |tuple=>exact IsiPair.int_tuple (h _ he _)|str=>exact IsiPair.int_str (h _ he _)
 |str _=>obtain⟨t,rfl⟩:=V0;cases k with |tuple=>exact IsiPair.str_tuple (h _ he _)|str=>exact IsiPair.str_str (h _ he s.toks)
 |tup _=>
  refine V0.tup λa vs ea T _ _=>?_
  subst ea
  obtain⟨o,ho,hc,_⟩:=T
  cases k with |tuple=>exact IsiPair.tuple_tuple ho hc (h _ he s.toks)|str=>exact IsiPair.tuple_str ho hc (h _ he _)
 |ref _=>exact(hr he.symm).elim
end
section
variable{W:Wd}{A:X7}{E:Value->Wp->Prop}{s:Wp}{ι:List Addr}{σ:St}
theorem y4(ks:List Int)(k:Int):stored (ks.map λk=>(k,YT true)) k (.bool true)=(tf (ks.contains k) ks (ks++[k])).map λk=>(k,YT true):=by
 unfold stored
 have e: ((ks.map λk=>(k,YT true)).any λkv=>decide (kv.1=k))=ks.contains k:=by
  rw[List.any_map,List.contains_eq_any_beq]
  congr 1
  funext x
  show decide (x=k)=(k==x)
  rcases Int.decEq k x with q|q
  ·rw[decide_eq_false (YQ q)];exact(beq_eq_false_iff_ne.mpr q).symm
  ·rw[q];simp
 rw[e]
 cases ks.contains k with
 |true=>
  rw[if_pos rfl,List.map_map]
  refine ZS λx _=>?_
  simp only[Function.comp]
  split<;>rfl
 |false=>
  rw[if_neg Ww]
  show _=List.map (λk=>(k,YT true)) (ks++[k])
  rw[Yb]
  rfl
section
variable{o i v:V}{ov iv vv:Value}{Q:Unit->Wp->Prop}{d:Nat}
theorem Ah{a:Addr}{o':O}{ks:List Int}{k:Int}{t:Tok}(I:ay W ι σ s.heap)(e1:a6 σ d=some o')(ne:o'≠.tmp)(na:∀l,o'≠.arg l)(ha:ι[d]?=some a)(D:s.heap.DictOf (iK W) a (ks.map λk=>(k,YT true)))(hf:aU ks.length=true)
  (h:∀h' tk,ay W ι (az σ d (.nd (tf (ks.contains k) ks (ks++[k])))) h'->Ev No ι s.heap ι h'->Q () {s with heap:=h',toks:=tk}):wpAny (model W.prog W.w) A (setItem (.ref a) (.int k t) (.bool true)) Q E s:=by
 refine wpAny_setItem_pairs (knd:=iK W) (MU W k t) D (λh' D' hs'=>?_) (yW (by rw[Xj];exact Wz (aN hf) (by decide)))
 rw[y4]at D'
 obtain⟨o2,es2,ep2,ho2,_,hd2,_⟩:=id D'
 have ev:=Ev.set No I e1 ha hs' ho2 (λp es n hp hdd=>⟨es2,ep2,hd2⟩) ne
 exact h h' _ (I.set (o':= .nd _) e1 ha hs' D' na) ev
theorem NR{es:List (List Nat × V)}{n:List Nat}(I:ay W ι σ s.heap)(hx:a6 σ d=some (.sd es))(Vo:VR ι s.heap (.ref d) ov)(Vi:VR ι s.heap (.str n) iv)(Vv:VR ι s.heap v vv)(hf:aU es.length=true)
  (h:∀h' tk,ay W ι (az σ d (.sd (bw es n v))) h'->Ev No ι s.heap ι h'->Q () {s with heap:=h',toks:=tk}):wpAny (model W.prog W.w) A (setItem ov iv vv) Q E s:=by
 refine I.sd hx Vo λa vs ea ha D R hne=>?_
 obtain⟨t,rfl⟩:=Vi
 subst ea
 refine wpAny_setItem_pairs (knd:=sK W) (pv W n t) D (λh' D' hs'=>?_) (yW (Wz (pq hf) (by decide)))
 obtain⟨o2,ho2,r⟩:=Z8.mp D'
 have z:=I.setSd hx ha (iJ D R) R Vv ho2 r hs'
 exact h h' _ z.1 z.2
theorem oy{r:R Unit}(I:ay W ι σ s.heap)(Vo:VR ι s.heap o ov)(Vi:VR ι s.heap i iv)(Vv:VR ι s.heap v vv)(he:KQ σ o i v=r)(hr:r≠.bad)
  (h:∀σ' h' tk,.ok () σ'=r->ay W ι σ' h'->Ev No ι s.heap ι h'->Q () {s with heap:=h',toks:=tk}):wpAny (model W.prog W.w) A (setItem ov iv vv) Q E s:=by
 refine aM he hr λd eo e0=>a8 e0 hr λob hx e1=>?_
 subst eo
 cases ob with
 |sd es=>
  cases i with
  |str n=>exact am e1 hr λhf e=>NR I hx Vo Vi Vv hf λh' tk=>h _ h' tk e
  |int k=>
   refine iB e1 hr λee e2=>ji e2 hr λb eb e3=>am e3 hr λhb e=>I.sd hx Vo λa vs ea ha D R lo=>?_
   subst ee eb hb ea
   obtain⟨t,rfl⟩:=Vi
   cases Vv
   exact Ah (ks:=[]) I hx (λz=>nomatch z) (λ_ z=>nomatch z) ha (AS D) (by decide) λh' tk=>h _ h' tk e
  |_=>exact(hr e1.symm).elim
 |nd ks=>
  refine aR e1 hr λk ek e2=>ji e2 hr λb eb e3=>am e3 hr λhb e4=>am e4 hr λhf e=>I.nds hx Vo λa ea ha D lo=>?_
  subst ek eb hb ea
  obtain⟨t,rfl⟩:=Vi
  cases Vv
  exact Ah I hx (λz=>nomatch z) (λ_ z=>nomatch z) ha D hf λh' tk=>h _ h' tk e
 |_=>exact(hr e1.symm).elim
end
end
end Mine
end
section
open PySem PySem.W PyProof.Rows PySem.SeqAt
namespace Mine
noncomputable abbrev Nms:=List (Str × Z6)
theorem gZ{α0:Type}{P:α0->Prop}:∀(a0:α0),false=true->P a0:=λ_ h=>absurd h Ww
theorem cR{α0 α1:Type}{P:α0->α1->Prop}:∀(a0:α0) (a1:α1),false=true->P a0 a1:=λ_ _ h=>absurd h Ww
theorem aD{α0 α1 α2:Type}{P:α0->α1->α2->Prop}:∀(a0:α0) (a1:α1) (a2:α2),false=true->P a0 a1 a2:=λ_ _ _ h=>absurd h Ww
theorem aC{α0 α1 α2 α3:Type}{P:α0->α1->α2->α3->Prop}:∀(a0:α0) (a1:α1) (a2:α2) (a3:α3),false=true->P a0 a1 a2 a3:=λ_ _ _ _ h=>absurd h Ww
theorem nA{α0 α1 α2 α3 α4:Type}{P:α0->α1->α2->α3->α4->Prop}:∀(a0:α0) (a1:α1) (a2:α2) (a3:α3) (a4:α4),false=true->P a0 a1 a2 a3 a4:=λ_ _ _ _ _ h=>absurd h Ww
structure XH where
 name:Str->Bool:=λ_=>false
 tup:List Wk->Bool:=λ_=>false
 lst:List Wk->Bool:=λ_=>false
 dct:List (Option Wk)->List Wk->Bool:=λ_ _=>false
 bin:Wk->a0z->Wk->Bool:=λ_ _ _=>false
 un:UnaryOp->Wk->Bool:=λ_ _=>false
 bool:BoolOp->List Wk->Bool:=λ_ _=>false
 cmp:Wk->List CmpOp->List Wk->Bool:=λ_ _ _=>false
 ite:Wk->Wk->Wk->Bool:=λ_ _ _=>false
 att:Wk->Str->Pos->Bool:=λ_ _ _=>false
 sub:Wk->Wk->Bool:=λ_ _=>false
 sli:Option Wk->Option Wk->Option Wk->Bool:=λ_ _ _=>false
 call:Wk->List Wk->List Keyword->Pos->Bool:=λ_ _ _ _=>false
 comp:Wk->List YJ->Scope->Bool:=λ_ _ _=>false
 con:Const->Bool:=λ_=>false
noncomputable def bE(H:XH)(a:Wk):Bool:=@Wk.casesOn (λ_=>Bool) a (λa b _=>H.bool a b) (λ_ _ _=>false) (λa b c _=>H.bin a b c) (λa b _=>H.un a b) (λ_ _ _ _=>false) (λa b c _=>H.ite a b c) (λa b _=>H.dct a b) (λ_ _ _=>false) (λa b c _=>H.comp a b c) (λ_ _ _ _=>false) (λ_ _ _ _ _=>false) (λ_ _ _ _=>false) (λ_ _=>false) (λ_ _=>false) (λ_ _=>false) (λa b c _=>H.cmp a b c) (λa b c d=>H.call a b c d) (λ_ _ _ _=>false) (λ_ _=>false) (λa _ _=>H.con a) (λa b c=>H.att a b c) (λa b _=>H.sub a b) (λ_ _=>false) (λa _=>H.name a) (λa _=>H.lst a) (λa _ _=>H.tup a) (λa b c _=>H.sli a b c)
theorem ao{motive:Wk->Prop}{H:XH}{a:Wk}(h:bE H a=true)(f0:∀n p,H.name n=true->motive (.Name n p))(f1:∀as c p,H.tup as=true->motive (.Tuple as c p))(f2:∀as p,H.lst as=true->motive (.List as p))(f3:∀ks as p,H.dct ks as=true->motive (.Dict ks as p))(f4:∀p o q x,H.bin p o q=true->motive (.BinOp p o q x))(f5:∀o p x,H.un o p=true->motive (.UnaryOp o p x))(f6:∀o as x,H.bool o as=true->motive (.BoolOp o as x))(f7:∀p os qs x,H.cmp p os qs=true->motive (.Compare p os qs x))(f8:∀u p q x,H.ite u p q=true->motive (.IfExp u p q x))(f9:∀p m x,H.att p m x=true->motive (.Attribute p m x))(f10:∀p q x,H.sub p q=true->motive (.Subscript p q x))(f11:∀l u s x,H.sli l u s=true->motive (.Slice l u s x))(f12:∀g as kw x,H.call g as kw x=true->motive (.Call g as kw x))(f13:∀x gs sc p,H.comp x gs sc=true->motive (.ListComp x gs sc p))(f14:∀c x y,H.con c=true->motive (.Constant c x y)):motive a:=by cases a<;>first|exact absurd h Ww|exact f0 _ _ h|exact f1 _ _ _ h|exact f2 _ _ h|exact f3 _ _ _ h|exact f4 _ _ _ _ h|exact f5 _ _ _ h|exact f6 _ _ _ h|exact f7 _ _ _ _ h|exact f8 _ _ _ _ h|exact f9 _ _ _ h|exact f10 _ _ _ h|exact f11 _ _ _ _ h|exact f12 _ _ _ _ h|exact f13 _ _ _ _ h|exact f14 _ _ _ h
noncomputable def Rt(e:Wk):Bool:=bE {name:=λ_=>true,att:=λ_ _ _=>true} e
noncomputable def cX(e:Wk):Bool:=bE {name:=λ_=>true,att:=λ_ _ _=>true,sub:=λ_ _=>true,call:=λf as _ _=> !as.isEmpty&&Rt f,con:=λ_=>true} e
theorem cO{o:Wk}{attr:Str}{env:Wy}{t:Sem Value}(h:cX o=true):attributeBase o attr env t=t:=
 ao (motive:=λo=>attributeBase o attr env t=t) h (λ_ _ _=>rfl) aD cR aD aC aD aD aC aC (λ_ _ _ _=>rfl) (λ_ _ _ _=>rfl) aC
  (λ_ as kw p q=>by
   cases as with
   |nil=>cases q
   |cons a as=>exact ao (motive:=λf=>attributeBase (.Call f (a::as) kw p) attr env t=t) q (λ_ _ _=>rfl) aD cR aD aC aD aD aC aC (λ_ _ _ _=>rfl) aD aC aC aC aD) aC (λ_ _ _ _=>rfl)
noncomputable def dq(e:Wk):Bool:=bE {name:=λ_=>true,tup:=λ_=>true,bin:=λ_ _ _=>true,un:=λ_ _=>true,att:=λ_ _ _=>true,sub:=λ_ _=>true,call:=λ_ _ _ _=>true,con:=λ_=>true,ite:=λ_ _ _=>true} e
theorem s9{e:Wk}{o i:Value}(h:dq e=true):subscripted e false o i=operate [o,i] (getItem o i):=
 ao (motive:=λe=>subscripted e false o i=operate [o,i] (getItem o i)) h (λ_ _ _=>rfl) (λ_ _ _ _=>rfl) cR aD (λ_ _ _ _ _=>rfl) (λ_ _ _ _=>rfl) aD aC (λ_ _ _ _ _=>rfl) (λ_ _ _ _=>rfl) (λ_ _ _ _=>rfl) aC (λ_ _ _ _ _=>rfl) aC (λ_ _ _ _=>rfl)
theorem BZ{W:Wd}{A:X7}{E:Value->Wp->Prop}{s:Wp}{env:Wy}{value slice:Wk}{pos:Pos}{Q:Value->Wp->Prop}(hs:dq slice=true)
  (h:wpAny (model W.prog W.w) A (eval value env) (λo s₁=>wpAny (model W.prog W.w) A (eval slice env) (λi s₂=>Subs s₂ o/\wpAny (model W.prog W.w) A (getItem o i) Q E s₂) E s₁) E s):
  wpAny (model W.prog W.w) A (eval (.Subscript value slice pos) env) Q E s:=
 Subscript_ (WK h (λo s₁ h₁=>WK h₁ (λi s₂ h₂=>sq (ls:=[o,i]) h₂.1 (s9 hs) h₂.2) λ_ _ z=>z) λ_ _ z=>z)
noncomputable def dD(a:Wk)(k:Str->Bool):Bool:=bE {name:=k} a
@[elab_as_elim] theorem be{motive:Wk->Prop}{a:Wk}{k}(h:dD a k=true)(f:∀n p,k n=true->motive (.Name n p)):motive a:=ao h f aD cR aD aC aD aD aC aC aD aD aC aC aC aD
noncomputable def v9(a:Wk)(k:List Wk->Bool):Bool:=bE {tup:=k} a
@[elab_as_elim] theorem eX{motive:Wk->Prop}{a:Wk}{k}(h:v9 a k=true)(f:∀as c p,k as=true->motive (.Tuple as c p)):motive a:=ao h cR f cR aD aC aD aD aC aC aD aD aC aC aC aD
noncomputable def Dr(a:Wk)(k:List Wk->Bool):Bool:=bE {lst:=k} a
@[elab_as_elim] theorem rc{motive:Wk->Prop}{a:Wk}{k}(h:Dr a k=true)(f:∀as p,k as=true->motive (.List as p)):motive a:=ao h cR aD f aD aC aD aD aC aC aD aD aC aC aC aD
noncomputable def EZ(a:Wk)(k:List (Option Wk)->List Wk->Bool):Bool:=bE {dct:=k} a
@[elab_as_elim] theorem rJ{motive:Wk->Prop}{a:Wk}{k}(h:EZ a k=true)(f:∀ks as p,k ks as=true->motive (.Dict ks as p)):motive a:=ao h cR aD cR f aC aD aD aC aC aD aD aC aC aC aD
noncomputable def DL(a:Wk)(k:Wk->a0z->Wk->Bool):Bool:=bE {bin:=k} a
@[elab_as_elim] theorem rA{motive:Wk->Prop}{a:Wk}{k}(h:DL a k=true)(f:∀p o q x,k p o q=true->motive (.BinOp p o q x)):motive a:=ao h cR aD cR aD f aD aD aC aC aD aD aC aC aC aD
noncomputable def Ih(a:Wk)(k:UnaryOp->Wk->Bool):Bool:=bE {un:=k} a
@[elab_as_elim] theorem lA{motive:Wk->Prop}{a:Wk}{k}(h:Ih a k=true)(f:∀o p x,k o p=true->motive (.UnaryOp o p x)):motive a:=ao h cR aD cR aD aC f aD aC aC aD aD aC aC aC aD
noncomputable def mZ(a:Wk)(k:BoolOp->List Wk->Bool):Bool:=bE {bool:=k} a
@[elab_as_elim] theorem gP{motive:Wk->Prop}{a:Wk}{k}(h:mZ a k=true)(f:∀o as x,k o as=true->motive (.BoolOp o as x)):motive a:=ao h cR aD cR aD aC aD f aC aC aD aD aC aC aC aD
noncomputable def AT(a:Wk)(k:Wk->List CmpOp->List Wk->Bool):Bool:=bE {cmp:=k} a
@[elab_as_elim] theorem my{motive:Wk->Prop}{a:Wk}{k}(h:AT a k=true)(f:∀p os qs x,k p os qs=true->motive (.Compare p os qs x)):motive a:=ao h cR aD cR aD aC aD aD f aC aD aD aC aC aC aD
noncomputable def QL(a:Wk)(k:Wk->Wk->Wk->Bool):Bool:=bE {ite:=k} a
@[elab_as_elim] theorem vZ{motive:Wk->Prop}{a:Wk}{k}(h:QL a k=true)(f:∀u p q x,k u p q=true->motive (.IfExp u p q x)):motive a:=ao h cR aD cR aD aC aD aD aC f aD aD aC aC aC aD
noncomputable def qr(a:Wk)(k:Wk->Str->Pos->Bool):Bool:=bE {att:=k} a
@[elab_as_elim] theorem dw{motive:Wk->Prop}{a:Wk}{k}(h:qr a k=true)(f:∀p m x,k p m x=true->motive (.Attribute p m x)):motive a:=ao h cR aD cR aD aC aD aD aC aC f aD aC aC aC aD
noncomputable def nI(a:Wk)(k:Wk->Wk->Bool):Bool:=bE {sub:=k} a
@[elab_as_elim] theorem cW{motive:Wk->Prop}{a:Wk}{k}(h:nI a k=true)(f:∀p q x,k p q=true->motive (.Subscript p q x)):motive a:=ao h cR aD cR aD aC aD aD aC aC aD f aC aC aC aD
noncomputable def EU(a:Wk)(k:Option Wk->Option Wk->Option Wk->Bool):Bool:=bE {sli:=k} a
@[elab_as_elim] theorem CC{motive:Wk->Prop}{a:Wk}{k}(h:EU a k=true)(f:∀l u s x,k l u s=true->motive (.Slice l u s x)):motive a:=ao h cR aD cR aD aC aD aD aC aC aD aD f aC aC aD
noncomputable def sY(a:Wk)(k:Wk->List Wk->List Keyword->Pos->Bool):Bool:=bE {call:=k} a
@[elab_as_elim] theorem cH{motive:Wk->Prop}{a:Wk}{k}(h:sY a k=true)(f:∀g as kw x,k g as kw x=true->motive (.Call g as kw x)):motive a:=ao h cR aD cR aD aC aD aD aC aC aD aD aC f aC aD
noncomputable def wu(a:Wk)(k:Wk->List YJ->Scope->Bool):Bool:=bE {comp:=k} a
@[elab_as_elim] theorem oW{motive:Wk->Prop}{a:Wk}{k}(h:wu a k=true)(f:∀x gs sc p,k x gs sc=true->motive (.ListComp x gs sc p)):motive a:=ao h cR aD cR aD aC aD aD aC aC aD aD aC aC f aD
noncomputable def CB(a:Wk)(k:Const->Bool):Bool:=bE {con:=k} a
@[elab_as_elim] theorem lH{motive:Wk->Prop}{a:Wk}{k}(h:CB a k=true)(f:∀c x y,k c=true->motive (.Constant c x y)):motive a:=ao h cR aD cR aD aC aD aD aC aC aD aD aC aC aC f
structure ZH where
 expr:Wk->Bool:=λ_=>false
 asg:List Wk->Wk->Bool:=λ_ _=>false
 aug:Wk->a0z->Wk->Bool:=λ_ _ _=>false
 ite:Wk->List Stmt->List Stmt->Bool:=λ_ _ _=>false
 for_:Wk->Wk->List Stmt->List Stmt->Bool:=λ_ _ _ _=>false
 wh:Wk->List Stmt->List Stmt->Bool:=λ_ _ _=>false
 ret:Option Wk->Bool:=λ_=>false
 rai:Option Wk->Option Wk->Bool:=λ_ _=>false
 try_:List Stmt->List a0q->List Stmt->List Stmt->Bool:=λ_ _ _ _=>false
 pass:Bool:=false
 cont:Bool:=false
 brk:Bool:=false
noncomputable def eZ(H:ZH)(a:Stmt):Bool:=@Stmt.casesOn (λ_=>Bool) a (λ_ _ _ _ _ _ _ _ _ _=>false) (λ_ _ _ _ _ _ _ _ _ _=>false) (λ_ _ _ _ _ _ _ _ _ _ _=>false) (λa _=>H.ret a) (λ_ _=>false) (λa b _=>H.asg a b) (λ_ _ _ _ _ _ _=>false) (λa b c _=>H.aug a b c) (λ_ _ _ _ _=>false) (λa b c d _=>H.for_ a b c d) (λ_ _ _ _ _=>false) (λa b c _=>H.wh a b c) (λa b c _=>H.ite a b c) (λ_ _ _=>false) (λ_ _ _=>false) (λ_ _ _=>false) (λa b _=>H.rai a b) (λa b c d _=>H.try_ a b c d) (λ_ _ _ _ _=>false) (λ_ _ _=>false) (λ_ _=>false) (λ_ _ _ _=>false) (λ_ _=>false) (λ_ _=>false) (λa _=>H.expr a) (λ_=>H.pass) (λ_=>H.brk) (λ_=>H.cont)
@[elab_as_elim] theorem aW{motive:Stmt->Prop}{H:ZH}{a:Stmt}(h:eZ H a=true)(f0:∀x p,H.expr x=true->motive (.Expr x p))(f1:∀ts x p,H.asg ts x=true->motive (.Assign ts x p))(f2:∀y o x p,H.aug y o x=true->motive (.AugAssign y o x p))(f3:∀u p q x,H.ite u p q=true->motive (.If u p q x))(f4:∀g i b e x,H.for_ g i b e=true->motive (.For g i b e x))(f5:∀u b e x,H.wh u b e=true->motive (.While u b e x))(f6:∀x p,H.ret x=true->motive (.Return x p))(f7:∀x y p,H.rai x y=true->motive (.Raise x y p))(f8:∀a b c d p,H.try_ a b c d=true->motive (.Try a b c d p))(f9:∀p,H.pass=true->motive (.Pass p))(f10:∀p,H.cont=true->motive (.Continue p))(f11:∀p,H.brk=true->motive (.Break p)):motive a:=by cases a<;>first|exact absurd h Ww|exact f0 _ _ h|exact f1 _ _ _ h|exact f2 _ _ _ _ h|exact f3 _ _ _ _ h|exact f4 _ _ _ _ _ h|exact f5 _ _ _ _ h|exact f6 _ _ h|exact f7 _ _ _ h|exact f8 _ _ _ _ _ h|exact f9 _ h|exact f10 _ h|exact f11 _ h
noncomputable def ww(a:Stmt)(k:Wk->Bool):Bool:=eZ {expr:=k} a
@[elab_as_elim] theorem pg{motive:Stmt->Prop}{a:Stmt}{k}(h:ww a k=true)(f:∀x p,k x=true->motive (.Expr x p)):motive a:=aW h f aD aC aC nA aC cR aD nA gZ gZ gZ
noncomputable def Gi(a:Stmt)(k:List Wk->Wk->Bool):Bool:=eZ {asg:=k} a
@[elab_as_elim] theorem Cg{motive:Stmt->Prop}{a:Stmt}{k}(h:Gi a k=true)(f:∀ts x p,k ts x=true->motive (.Assign ts x p)):motive a:=aW h cR f aC aC nA aC cR aD nA gZ gZ gZ
noncomputable def AQ(a:Stmt)(k:Wk->a0z->Wk->Bool):Bool:=eZ {aug:=k} a
@[elab_as_elim] theorem sx{motive:Stmt->Prop}{a:Stmt}{k}(h:AQ a k=true)(f:∀y o x p,k y o x=true->motive (.AugAssign y o x p)):motive a:=aW h cR aD f aC nA aC cR aD nA gZ gZ gZ
noncomputable def Qn(a:Stmt)(k:Wk->List Stmt->List Stmt->Bool):Bool:=eZ {ite:=k} a
@[elab_as_elim] theorem vq{motive:Stmt->Prop}{a:Stmt}{k}(h:Qn a k=true)(f:∀u p q x,k u p q=true->motive (.If u p q x)):motive a:=aW h cR aD aC f nA aC cR aD nA gZ gZ gZ
noncomputable def IX(a:Stmt)(k:Wk->Wk->List Stmt->List Stmt->Bool):Bool:=eZ {for_:=k} a
@[elab_as_elim] theorem C7{motive:Stmt->Prop}{a:Stmt}{k}(h:IX a k=true)(f:∀g i b e x,k g i b e=true->motive (.For g i b e x)):motive a:=aW h cR aD aC aC f aC cR aD nA gZ gZ gZ
noncomputable def RO(a:Stmt)(k:Wk->List Stmt->List Stmt->Bool):Bool:=eZ {wh:=k} a
@[elab_as_elim] theorem EQ{motive:Stmt->Prop}{a:Stmt}{k}(h:RO a k=true)(f:∀u b e x,k u b e=true->motive (.While u b e x)):motive a:=aW h cR aD aC aC nA f cR aD nA gZ gZ gZ
noncomputable def EB(a:Stmt)(k:Option Wk->Bool):Bool:=eZ {ret:=k} a
@[elab_as_elim] theorem qM{motive:Stmt->Prop}{a:Stmt}{k}(h:EB a k=true)(f:∀x p,k x=true->motive (.Return x p)):motive a:=aW h cR aD aC aC nA aC f aD nA gZ gZ gZ
noncomputable def Ku(a:Stmt)(k:Option Wk->Option Wk->Bool):Bool:=eZ {rai:=k} a
@[elab_as_elim] theorem zR{motive:Stmt->Prop}{a:Stmt}{k}(h:Ku a k=true)(f:∀x y p,k x y=true->motive (.Raise x y p)):motive a:=aW h cR aD aC aC nA aC cR f nA gZ gZ gZ
noncomputable def Pj(a:Stmt)(k:List Stmt->List a0q->List Stmt->List Stmt->Bool):Bool:=eZ {try_:=k} a
@[elab_as_elim] theorem AP{motive:Stmt->Prop}{a:Stmt}{k}(h:Pj a k=true)(f:∀a b c d p,k a b c d=true->motive (.Try a b c d p)):motive a:=aW h cR aD aC aC nA aC cR aD f gZ gZ gZ
noncomputable def Bp(a:Stmt):Bool:=eZ {pass:=true} a
@[elab_as_elim] theorem wY{motive:Stmt->Prop}{a:Stmt}(h:Bp a=true)(f:∀p,motive (.Pass p)):motive a:=aW h cR aD aC aC nA aC cR aD nA (λp _=>f p) gZ gZ
noncomputable def CT(a:Stmt):Bool:=eZ {cont:=true} a
@[elab_as_elim] theorem xZ{motive:Stmt->Prop}{a:Stmt}(h:CT a=true)(f:∀p,motive (.Continue p)):motive a:=aW h cR aD aC aC nA aC cR aD nA gZ (λp _=>f p) gZ
noncomputable def LF(a:Stmt):Bool:=eZ {brk:=true} a
@[elab_as_elim] theorem zw{motive:Stmt->Prop}{a:Stmt}(h:LF a=true)(f:∀p,motive (.Break p)):motive a:=aW h cR aD aC aC nA aC cR aD nA gZ gZ (λp _=>f p)
noncomputable def q1{α:Type}(l:List α)(k:α->Bool):Bool:=l1 l k false
noncomputable def q2{α:Type}(l:List α)(k:α->α->Bool):Bool:=lc l false λa r=>q1 r (k a)
noncomputable def qS{α:Type}(o:Option α)(k:α->Bool):Bool:=opt o k false
@[elab_as_elim] theorem d5{α:Type}{motive:List α->Prop}{l:List α}{k:α->Bool}(h:q1 l k=true)(f:∀a,k a=true->motive [a]):motive l:=eH h aV λa e h=>e▸f a h
@[elab_as_elim] theorem Iz{α:Type}{motive:List α->Prop}{l:List α}{k:α->α->Bool}(h:q2 l k=true)(f:∀a b,k a b=true->motive [a,b]):motive l:=by
 cases l with
 |nil=>exact fnt h
 |cons a r=>exact d5 (motive:=λr=>motive (a::r)) h λb h=>f a b h
@[elab_as_elim] theorem iC{α:Type}{motive:Option α->Prop}{o:Option α}{k:α->Bool}(h:qS o k=true)(f:∀a,k a=true->motive (some a)):motive o:=a8 h aV λa e h=>e▸f a h
noncomputable def rt(n:Str):Bool:= !(n==("__debug__":Str))
noncomputable def gu(W:Wd)(ns:Nms)(x:Nat)(n:Str):Bool:=W.nm[x]?==some n&&(ns.lookup n==some .local||ns.lookup n==some .cell)&&rt n
noncomputable def glob(K:Frag)(n:Str):Option Value:=opt (nsIn K mainGlobals n) (λo=>opt o some (opt (nsIn K builtinsNs n) (λo=>o) none)) none
noncomputable def fg(W:Wd)(ns:Nms)(n:Str)(v:Value):Bool:=ns.lookup n==some .globalImplicit&&glob W.K n==some v&&rt n
noncomputable def kI(b:BI):Value:=@BI.rec (λ_=>Value) (.builtin "len") (.builtin "max") (.type "tuple") (.type "list") (.builtin "sorted") (.type "reversed") (.type "range") (.type "zip") (.builtin "sum") (.type "str") b
noncomputable def ze(k:Kd):Value:= .type (TN k)
noncomputable def xT:XH:=⟨λ_=>true,λ_=>true,λ_=>true,λ_ _=>true,λ_ _ _=>true,λ_ _=>true,λ_ _=>true,λ_ _ _=>true,λ_ _ _=>true,λ_ _ _=>true,λ_ _=>true,λ_ _ _=>true,λ_ _ _ _=>true,λ_ _ _=>true,λ_=>true⟩
noncomputable def noStar(a:Wk):Bool:=bE xT a
noncomputable def lT(a:Wk):Bool:=bE xT a
noncomputable def iI(a:Wk):Bool:=bE {xT with comp:=λ_ _ _=>false} a
noncomputable def R4(b:BI):Bool:=@BI.rec (λ_=>Bool) false false false false false false false true false false b
noncomputable def cU(e:E):Bool:=Su e (λb _=>R4 b) false
noncomputable def ik(a:Wk):Bool:=v9 a λ_=>true
noncomputable def bC(p:P):List Nat:=@P.rec (λ_=>List Nat) (λ_=>List Nat) (λx=>[x]) (λ_ l=>l) [] (λ_ _ a b=>a++b) p
noncomputable def pE(p:List P):List Nat:=@P.rec_1 (λ_=>List Nat) (λ_=>List Nat) (λx=>[x]) (λ_ l=>l) [] (λ_ _ a b=>a++b) p
noncomputable def dQ(W:Wd)(p:P)(sc:Scope):Bool:=sc.names.all (λy=>y.2 != .local||(bC p).any (λx=>W.nm[x]?==some y.1)|| !W.nm.contains y.1)&&decide (sc.names.map (·.1)).Nodup
noncomputable def bD(ns ms:Nms):Nms:=ms.map λp=>tf (p.2== .free&&ns.lookup p.1==some .cell) (p.1,.cell) p
noncomputable def gx(ns:Nms)(sc:Scope):Bool:=sc.kind== .function&&sc.names.all (λy=>y.2 != .cell&&(y.2 != .local||sc.names.lookup y.1==some .local)&&(y.2 != .free||ns.lookup y.1==some .cell))
noncomputable def mC(v:V)(c:Const):Bool:=@V.rec (λ_=>Bool) (λ_=>Unit) (@a0r (λ_=>Bool) c true (λ_=>false) (λ_=>false) (λ_=>false) (λ_ _=>false) (λ_=>false) (λ_=>false) false)
 (λa=>@a0r (λ_=>Bool) c false (λb=>a==b) (λ_=>false) (λ_=>false) (λ_ _=>false) (λ_=>false) (λ_=>false) false)
 (λi=>@a0r (λ_=>Bool) c false (λ_=>false) (λj=>i==j) (λ_=>false) (λ_ _=>false) (λ_=>false) (λ_=>false) false)
 (λx=>@a0r (λ_=>Bool) c false (λ_=>false) (λ_=>false) (λ_=>false) (λ_ _=>false) (λy=>af x==y) (λ_=>false) false) (λ_ _=>false) (λ_=>false) () (λ_ _ _ _=>()) v
noncomputable def Ou(k:List Nat)(e:Option Wk):Bool:=qS e λe=>CB e (mC (.str k))
noncomputable def lJ(ks:List (List Nat)):List (Option Wk)->Bool:=@WB (List Nat) (λ_=>List (Option Wk)->Bool) (λl=>l.isEmpty) (λk _ ih l=>lc l false λe es=>Ou k e&&ih es) ks
noncomputable def mP(W:Wd)(ns:Nms)(p:P):Wk->Bool:=@P.rec (λ_=>Wk->Bool) (λ_=>List Wk->Bool) (λx e=>dD e (gu W ns x)) (λ_ ih e=>v9 e ih) (λl=>l.isEmpty) (λ_ _ f g l=>lc l false λe es=>f e&&g es) p
noncomputable def Tj(W:Wd)(ns:Nms)(p:List P):List Wk->Bool:=@P.rec_1 (λ_=>Wk->Bool) (λ_=>List Wk->Bool) (λx e=>dD e (gu W ns x)) (λ_ ih e=>v9 e ih) (λl=>l.isEmpty) (λ_ _ f g l=>lc l false λe es=>f e&&g es) p
noncomputable def wM(o:UnaryOp):Bool:=o== .USub
noncomputable def vU(o:UnaryOp):Bool:=o== .Not
noncomputable def pc(o:BoolOp):Bool:=o== .And
noncomputable def w0(g:YJ)(k:Wk->Wk->List Wk->Bool):Bool:=@YJ.casesOn (λ_=>Bool) g λt i f z=>decide (z=0)&&k t i f
@[elab_as_elim] theorem xQ{motive:YJ->Prop}{g:YJ}{k}(h:w0 g k=true)(f:∀t i fs,k t i fs=true->motive ⟨t,i,fs,0⟩):motive g:=by
 obtain⟨t,i,fs,z⟩:=g
 have h:=ac h
 cases of_decide_eq_true h.1
 exact f _ _ _ h.2
@[elab_as_elim] theorem oa{motive:UnaryOp->Prop}{o}(h:wM o=true)(f:motive .USub):motive o:=beq_iff_eq.mp h▸f
@[elab_as_elim] theorem o9{motive:UnaryOp->Prop}{o}(h:vU o=true)(f:motive .Not):motive o:=beq_iff_eq.mp h▸f
noncomputable def cI(a:Wk)(k:Str->List Wk->Bool):Bool:=sY a λf as kw _=>kw.isEmpty&&dD f λn=>k n as
@[elab_as_elim] theorem cN{motive:Wk->Prop}{a:Wk}{k}(h:cI a k=true)(f:∀n p as x,k n as=true->motive (.Call (.Name n p) as [] x)):motive a:=
 cH h λg as kw x h=>by
  have h:=ac h
  cases X6.mp h.1
  exact be (motive:=λg=>motive (.Call g as [] x)) h.2 λn p h=>f n p as x h
noncomputable def mE(W:Wd)(ns:Nms)(e:E):Wk->Bool:=@E.rec (λ_=>Nms->Wk->Bool) (λ_=>Nms->List Wk->Bool) (λ_=>Nms->Option Wk->Bool)
 (λ_ _=>true)
 (λv _ a=>CB a (mC v))
 (λx ns a=>dD a (gu W ns x))
 (λ_ es ns a=>v9 a λas=>es ns as&&Wo as.length 1000)
 (λ_ es ns a=>Dr a λas=>es ns as&&Wo as.length 1000)
 (λks _ es ns a=>EZ a λkeys as=>lJ ks keys&&(Wm keys.length as.length&&(es ns as&&Wo as.length 15)))
 (λop _ _ x y ns a=>DL a λp o q=>o==opOf op&&(x ns p&&y ns q))
 (λ_ x ns a=>Ih a λo p=>wM o&&x ns p)
 (λ_ x ns a=>Ih a λo p=>vU o&&x ns p)
 (λ_ es ns a=>mZ a λo as=>pc o&&es ns as)
 (λ_ es ns a=>mZ a λo as=> !pc o&&es ns as)
 (λop _ _ x y ns a=>AT a λp os qs=>q1 os λo=>q1 qs λq=>o==Aa op&&(!behindInMarks o q&&(x ns p&&y ns q)))
 (λ_ _ _ t x y ns a=>QL a λu p q=>t ns u&&(x ns p&&y ns q))
 (λ_ n o ns a=>qr a λp m _=>m==af n&&(W.an.contains n&&(cX p&&o ns p)))
 (λ_ _ x y ns a=>nI a λp q=>dq q&&(x ns p&&y ns q))
 (λ_ _ _ x lo hi ns a=>nI a λp q=>EU q λl u s=>s.isNone&&(x ns p&&(lo ns l&&hi ns u)))
 (λf _ es ns a=>cI a λn as=>fg W ns n (.ref (W.fa f))&&(keepIn W.K (.ref (W.fa f))&&(es ns as&&Wo as.length 20)))
 (λc _ es ns a=>cI a λn as=>fg W ns n (.ref (W.ca c))&&(keepIn W.K (.ref (W.ca c))&&(es ns as&&Wo as.length 20)))
 (λ_ m _ o es ns a=>sY a λf as kw pos=>kw.isEmpty&&qr f λp n ap=>n==af m&&(cX p&&(ap.endLine==pos.line&&(o ns p&&(es ns as&&Wo as.length 20)))))
 (λb _ es ns a=>cI a λn as=>fg W ns n (kI b)&&(es ns as&&Wo as.length 20))
 (λk _ x ns a=>cI a λn as=>q2 as λp e=>dD e λt=>fg W ns n (.builtin "isinstance")&&(fg W ns t (ze k)&&(noStar p&&x ns p)))
 (λ_ p it _ elt itm ifs ns a=>wu a λx gs sc=>q1 gs λg=>w0 g λtg i fs=>gx ns sc&&(dQ W p sc&&(mP W sc.names p tg&&(lT i&&((!cU it||ik tg)&&(itm ns i&&(elt (bD ns sc.names) x&&ifs (bD ns sc.names) fs)))))))
 (λ_ l=>l.isEmpty)
 (λ_ _ e es ns l=>lc l false λa as=>noStar a&&(e ns a&&es ns as))
 (λ_ o=>o.isNone)
 (λ_ e ns o=>qS o (e ns))
 e ns
noncomputable def lW(W:Wd)(ns:Nms)(e:List E):List Wk->Bool:=@E.rec_1 (λ_=>Nms->Wk->Bool) (λ_=>Nms->List Wk->Bool) (λ_=>Nms->Option Wk->Bool)
 (λ_ _=>true)
 (λv _ a=>CB a (mC v))
 (λx ns a=>dD a (gu W ns x))
 (λ_ es ns a=>v9 a λas=>es ns as&&Wo as.length 1000)
 (λ_ es ns a=>Dr a λas=>es ns as&&Wo as.length 1000)
 (λks _ es ns a=>EZ a λkeys as=>lJ ks keys&&(Wm keys.length as.length&&(es ns as&&Wo as.length 15)))
 (λop _ _ x y ns a=>DL a λp o q=>o==opOf op&&(x ns p&&y ns q))
 (λ_ x ns a=>Ih a λo p=>wM o&&x ns p)
 (λ_ x ns a=>Ih a λo p=>vU o&&x ns p)
 (λ_ es ns a=>mZ a λo as=>pc o&&es ns as)
 (λ_ es ns a=>mZ a λo as=> !pc o&&es ns as)
 (λop _ _ x y ns a=>AT a λp os qs=>q1 os λo=>q1 qs λq=>o==Aa op&&(!behindInMarks o q&&(x ns p&&y ns q)))
 (λ_ _ _ t x y ns a=>QL a λu p q=>t ns u&&(x ns p&&y ns q))
 (λ_ n o ns a=>qr a λp m _=>m==af n&&(W.an.contains n&&(cX p&&o ns p)))
 (λ_ _ x y ns a=>nI a λp q=>dq q&&(x ns p&&y ns q))
 (λ_ _ _ x lo hi ns a=>nI a λp q=>EU q λl u s=>s.isNone&&(x ns p&&(lo ns l&&hi ns u)))
 (λf _ es ns a=>cI a λn as=>fg W ns n (.ref (W.fa f))&&(keepIn W.K (.ref (W.fa f))&&(es ns as&&Wo as.length 20)))
 (λc _ es ns a=>cI a λn as=>fg W ns n (.ref (W.ca c))&&(keepIn W.K (.ref (W.ca c))&&(es ns as&&Wo as.length 20)))
 (λ_ m _ o es ns a=>sY a λf as kw pos=>kw.isEmpty&&qr f λp n ap=>n==af m&&(cX p&&(ap.endLine==pos.line&&(o ns p&&(es ns as&&Wo as.length 20)))))
 (λb _ es ns a=>cI a λn as=>fg W ns n (kI b)&&(es ns as&&Wo as.length 20))
 (λk _ x ns a=>cI a λn as=>q2 as λp e=>dD e λt=>fg W ns n (.builtin "isinstance")&&(fg W ns t (ze k)&&(noStar p&&x ns p)))
 (λ_ p it _ elt itm ifs ns a=>wu a λx gs sc=>q1 gs λg=>w0 g λtg i fs=>gx ns sc&&(dQ W p sc&&(mP W sc.names p tg&&(lT i&&((!cU it||ik tg)&&(itm ns i&&(elt (bD ns sc.names) x&&ifs (bD ns sc.names) fs)))))))
 (λ_ l=>l.isEmpty)
 (λ_ _ e es ns l=>lc l false λa as=>noStar a&&(e ns a&&es ns as))
 (λ_ o=>o.isNone)
 (λ_ e ns o=>qS o (e ns))
 e ns
noncomputable def mO(W:Wd)(ns:Nms)(e:Option E):Option Wk->Bool:=@E.rec_2 (λ_=>Nms->Wk->Bool) (λ_=>Nms->List Wk->Bool) (λ_=>Nms->Option Wk->Bool)
 (λ_ _=>true)
 (λv _ a=>CB a (mC v))
 (λx ns a=>dD a (gu W ns x))
 (λ_ es ns a=>v9 a λas=>es ns as&&Wo as.length 1000)
 (λ_ es ns a=>Dr a λas=>es ns as&&Wo as.length 1000)
 (λks _ es ns a=>EZ a λkeys as=>lJ ks keys&&(Wm keys.length as.length&&(es ns as&&Wo as.length 15)))
 (λop _ _ x y ns a=>DL a λp o q=>o==opOf op&&(x ns p&&y ns q))
 (λ_ x ns a=>Ih a λo p=>wM o&&x ns p)
 (λ_ x ns a=>Ih a λo p=>vU o&&x ns p)
 (λ_ es ns a=>mZ a λo as=>pc o&&es ns as)
 (λ_ es ns a=>mZ a λo as=> !pc o&&es ns as)
 (λop _ _ x y ns a=>AT a λp os qs=>q1 os λo=>q1 qs λq=>o==Aa op&&(!behindInMarks o q&&(x ns p&&y ns q)))
 (λ_ _ _ t x y ns a=>QL a λu p q=>t ns u&&(x ns p&&y ns q))
 (λ_ n o ns a=>qr a λp m _=>m==af n&&(W.an.contains n&&(cX p&&o ns p)))
 (λ_ _ x y ns a=>nI a λp q=>dq q&&(x ns p&&y ns q))
 (λ_ _ _ x lo hi ns a=>nI a λp q=>EU q λl u s=>s.isNone&&(x ns p&&(lo ns l&&hi ns u)))
 (λf _ es ns a=>cI a λn as=>fg W ns n (.ref (W.fa f))&&(keepIn W.K (.ref (W.fa f))&&(es ns as&&Wo as.length 20)))
 (λc _ es ns a=>cI a λn as=>fg W ns n (.ref (W.ca c))&&(keepIn W.K (.ref (W.ca c))&&(es ns as&&Wo as.length 20)))
 (λ_ m _ o es ns a=>sY a λf as kw pos=>kw.isEmpty&&qr f λp n ap=>n==af m&&(cX p&&(ap.endLine==pos.line&&(o ns p&&(es ns as&&Wo as.length 20)))))
 (λb _ es ns a=>cI a λn as=>fg W ns n (kI b)&&(es ns as&&Wo as.length 20))
 (λk _ x ns a=>cI a λn as=>q2 as λp e=>dD e λt=>fg W ns n (.builtin "isinstance")&&(fg W ns t (ze k)&&(noStar p&&x ns p)))
 (λ_ p it _ elt itm ifs ns a=>wu a λx gs sc=>q1 gs λg=>w0 g λtg i fs=>gx ns sc&&(dQ W p sc&&(mP W sc.names p tg&&(lT i&&((!cU it||ik tg)&&(itm ns i&&(elt (bD ns sc.names) x&&ifs (bD ns sc.names) fs)))))))
 (λ_ l=>l.isEmpty)
 (λ_ _ e es ns l=>lc l false λa as=>noStar a&&(e ns a&&es ns as))
 (λ_ o=>o.isNone)
 (λ_ e ns o=>qS o (e ns))
 e ns
noncomputable def pW(tg x:Wk):Bool:=bE {xT with tup:=λts=>(WD 4 ts.length&&noStar x)||bE {xT with tup:=λ_=>false} x,lst:=λ_=>false} tg
noncomputable def wJ(e:E):Bool:=@E.casesOn (λ_=>Bool) e false (λ_=>false) (λ_=>false) (λ_=>false) (λ_=>false) (λ_ _=>false) (λ_ _ _=>false) (λ_=>false) (λ_=>false) (λ_=>false) (λ_=>false) (λ_ _ _=>false) (λ_ _ _=>false) (λ_ _=>false) (λ_ _=>false) (λ_ _ _=>false) (λ_ _=>false) (λ_ _=>false) (λ_ _ _=>false) (λ_ _=>false) (λ_ _=>false) (λ_ _ _ _=>true)
noncomputable def mT(W:Wd)(ns:Nms)(t:T)(a:Wk):Bool:=@T.casesOn (λ_=>Bool) t (λp=>mP W ns p a) (λo n=>qr a λp m _=>m==af n&&(W.an.contains n&&mE W ns o p)) (λo i=>nI a λp q=>dq q&&(mE W ns o p&&mE W ns i q))
noncomputable abbrev Mk:=Nat->Nms->List Stmt->Bool
noncomputable def ru(i:Nat):Nat:=tf (Wm i 3) 3 (tf (Wm i 4) 5 (tf (Wm i 5) 5 (tf (Wm i 7) 3 1)))
noncomputable def S0(s:S)(k:Nat->Bool)(d:Bool):Bool:=@S.casesOn (λ_=>Bool) s d d d d (λ_=>d) (λ_ _=>d) (λ_ _=>d) (λ_ _ _=>d) (λ_ _ _=>d) (λ_ _ _=>d) (λ_ _=>d) (λ_=>d) (λ_=>d) (λ_ _ _=>d) k
noncomputable def mS(W:Wd)(mk:Mk)(ns:Nms)(s:S):Stmt->Bool:=@S.rec (λ_=>Stmt->Bool) (λ_=>List Stmt->Bool)
 (λ_=>true)
 (λa=>Bp a)
 (λa=>CT a)
 (λa=>LF a)
 (λe a=>ww a λx=>iI x&&mE W ns e x)
 (λt e a=>Gi a λts x=>q1 ts λtg=>mT W ns t tg&&(mE W ns e x&&(pW tg x&&(wJ e||iI x))))
 (λv e a=>AQ a λy o x=>o== .Add&&(dD y (gu W ns v)&&mE W ns e x))
 (λo i e a=>AQ a λy p x=>p== .Add&&((nI y λu z=>dq z&&(mE W ns o u&&mE W ns i z))&&mE W ns e x))
 (λt _ _ x y a=>Qn a λu p q=>mE W ns t u&&(x p&&y q))
 (λp it _ b a=>IX a λtg i body e=>e.isEmpty&&(mP W ns p tg&&(lT i&&((!cU it||ik tg)&&(mE W ns it i&&b body)))))
 (λt _ b a=>RO a λu body e=>e.isEmpty&&(mE W ns t u&&b body))
 (λe a=>EB a λx=>mO W ns e x)
 (λes a=>Ku a λx y=>y.isNone&&qS x (mE W ns (.new 2 es)))
 (λ_ _ _ _=>true)
 (λ_ _=>false)
 (λas=>as.isEmpty)
 (λs _ f g as=>S0 s (λi=>mk i ns (as.take (ru i))&&g (as.drop (ru i))) (lc as false λa as=>f a&&g as))
 s
noncomputable def mB(W:Wd)(mk:Mk)(ns:Nms)(s:List S):List Stmt->Bool:=@S.rec_1 (λ_=>Stmt->Bool) (λ_=>List Stmt->Bool)
 (λ_=>true)
 (λa=>Bp a)
 (λa=>CT a)
 (λa=>LF a)
 (λe a=>ww a λx=>iI x&&mE W ns e x)
 (λt e a=>Gi a λts x=>q1 ts λtg=>mT W ns t tg&&(mE W ns e x&&(pW tg x&&(wJ e||iI x))))
 (λv e a=>AQ a λy o x=>o== .Add&&(dD y (gu W ns v)&&mE W ns e x))
 (λo i e a=>AQ a λy p x=>p== .Add&&((nI y λu z=>dq z&&(mE W ns o u&&mE W ns i z))&&mE W ns e x))
 (λt _ _ x y a=>Qn a λu p q=>mE W ns t u&&(x p&&y q))
 (λp it _ b a=>IX a λtg i body e=>e.isEmpty&&(mP W ns p tg&&(lT i&&((!cU it||ik tg)&&(mE W ns it i&&b body)))))
 (λt _ b a=>RO a λu body e=>e.isEmpty&&(mE W ns t u&&b body))
 (λe a=>EB a λx=>mO W ns e x)
 (λes a=>Ku a λx y=>y.isNone&&qS x (mE W ns (.new 2 es)))
 (λ_ _ _ _=>true)
 (λ_ _=>false)
 (λas=>as.isEmpty)
 (λs _ f g as=>S0 s (λi=>mk i ns (as.take (ru i))&&g (as.drop (ru i))) (lc as false λa as=>f a&&g as))
 s
noncomputable def lz(W:Wd)(Γ:bU)(d:Nat):Mk:=@XI (λ_=>Mk) (λ_ _ _=>false) (λ_ ih i ns as=>opt Γ.mks[i]? (λb=>mB W ih ns b as) false) d
end Mine
end
section
open PySem PySem.W
namespace Mine
structure hM(A:X7)(n:Nat):Prop where
 hh:A.handled=none
 dp:A.depth+n<recursionLimit
 un:A.units+8*n+200<cLine
theorem hM.less{A:X7}{n m:Nat}(r:hM A n)(h:m<=n):hM A m:=
 ⟨r.hh,X5 (XC h _) r.dp,X5 (YY (XC (Nat.mul_le_mul_left 8 h) _) 200) r.un⟩
theorem hM.deeper{A:X7}{n:Nat}(r:hM A (n+1))(env:Wy):hM (A.deeper env) n:=
 ⟨r.hh,(Nat.succ_add_eq_add_succ _ _:A.depth+1+n=_)▸r.dp,X5 (YY (show A.units+3+8*n<=A.units+8*(n+1)by omega) 200) r.un⟩
theorem hM.big{A:X7}{n:Nat}(r:hM A n):A.units+64<cLine:=
 X5 (Nat.add_le_add (WC _ _) (by decide)) r.un
noncomputable def Xd(X:Addr->Prop)(ι:List Addr)(h h':Heap):Prop:=∀a o,h.get? a=some o->a∉ι->¬ X a->(∀vs,o.data≠.fields vs)->∃o',h'.get? a=some o'/\o'.cls=o.cls/\o'.data=o.data
theorem Xd.of{X:Addr->Prop}{ι:List Addr}{e:Addr}{h h':Heap}(d:Ds e h h'):Xd X ι h h':=λa o e _ _ n=>d.data a o e n
theorem Xd.after{X:Addr->Prop}{ι ι₁:List Addr}{h h₁ h':Heap}(x:Ev X ι h ι₁ h₁)(y:Xd X ι₁ h₁ h'):Xd X ι h h':=λa o e hn hX nf=>
 y a o (x.keep a o e hn hX) (x.out e hn) hX nf
theorem Xd.then{X:Addr->Prop}{ι:List Addr}{e:Addr}{h h₁ h':Heap}(x:Xd X ι h h₁)(y:Ds e h₁ h'):Xd X ι h h':=λa o e hn hX nf=>by
 obtain⟨o₁,e₁,c₁,d₁⟩:=x a o e hn hX nf
 obtain⟨o₂,e₂,c₂,d₂⟩:=y.data a o₁ e₁ (λvs=>d₁▸nf vs)
 exact⟨o₂,e₂,c₂.trans c₁,d₂.trans d₁⟩
theorem Xd.drop{X Y:Addr->Prop}{ι:List Addr}{h h':Heap}(x:Xd X ι h h')(k:∀a,X a->Y a\/h.get? a=none):Xd Y ι h h':=λa o e hn hY nf=>
 x a o e hn (λq=>(k a q).elim hY λz=>nomatch e.symm.trans z) nf
noncomputable def Dx(ι:List Addr)(h h':Heap)(e:Addr):Prop:=∀a o,h.get? a=some o->a∉ι->∀oe d,h'.get? e=some oe->oe.dict=some d->d≠a
theorem Dx.after{X:Addr->Prop}{ι ι₁:List Addr}{h h₁ h':Heap}{e:Addr}(x:Ev X ι h ι₁ h₁)(y:Dx ι₁ h₁ h' e):Dx ι h h' e:=λa o ha hn=>
 (x.there a o ha).elim λo' z=>y a o' z.1 (x.out ha hn)
theorem Dx.then{ι:List Addr}{h h₁ h':Heap}{e:Addr}(x:Dx ι h h₁ e)(y:Ds e h₁ h'):Dx ι h h' e:=λa o ha hn oe d he hd=>
 (y.dct oe he).elim λoe' z=>x a o ha hn oe' d z.1 (z.2.trans hd)
structure Fx(W:Wd)(A:X7)(env:Wy)(L:Addr)(l:List Wy)(h:Heap):Prop where
 own:env.frame=some L
 fr:A.frames=some l
 top:∃e0 outer,l=e0::outer/\e0.frame=some L
 ffd:tB W h l
theorem Fx.up{W:Wd}{A:X7}{env:Wy}{L:Addr}{l:List Wy}{X:Addr->Prop}{ι ι':List Addr}{h h':Heap}(F:Fx W A env L l h)(e:Ev X ι h ι' h'):Fx W A env L l h':=
 ⟨F.own,F.fr,F.top,F.ffd.up e⟩
structure Cs(W:Wd)(Γ:bU):Prop where
 fn:∀f d,Γ.fns[f]?=some d->∃bd sc,zm W f d bd sc/\mB W (lz W Γ 3) sc.names d.body bd=true
 cls:∀c k,Γ.cls[c]?=some k->c≠2->W.ck c=true
 known:∀c,W.ck c=true->∃k,Γ.cls[c]?=some k/\c≠2/\qZ W c W.an k
 exc:∃k,Γ.cls[2]?=some k/\rR W W.an k.init
 kin:W.K.In W.h0
structure Cx where
 W:Wd
 Γ:bU
 A:X7
 env:Wy
 ns:Nms
 L:Addr
 l:List Wy
structure Pt where
 ι:List Addr
 σ:St
 s:Wp
structure To(X:Addr->Prop)(p q:Pt):Prop where
 ev:Ev X p.ι p.s.heap q.ι q.s.heap
 sm:Sm p.s q.s
section
variable{X Y:Addr->Prop}{p q r:Pt}
theorem To.refl:To X p p:=⟨Ev.refl ..,Sm.refl _⟩
theorem To.trans(a:To X p q)(b:To X q r):To X p r:=⟨a.ev.trans b.ev,a.sm.trans b.sm⟩
theorem To.mono(a:To X p q)(k:∀a,X a->Y a):To Y p q:=⟨a.ev.mono k,a.sm⟩
theorem To.wide(a:To No p q):To X p q:=a.mono λ_ z=>z.elim
theorem To.then(a:To X p q)(b:To No q r):To X p r:=a.trans b.wide
theorem To.on(a:To X p q){ι':List Addr}{σ':St}{h':Heap}{tk:Tok}(e:Ev X q.ι q.s.heap ι' h'):To X p ⟨ι',σ',{q.s with heap:=h',toks:=tk}⟩:=⟨a.ev.trans e,a.sm.trans (Sm.mk' _ _ _)⟩
theorem To.onN(a:To X p q){ι':List Addr}{σ':St}{h':Heap}{tk:Tok}(e:Ev No q.ι q.s.heap ι' h'):To X p ⟨ι',σ',{q.s with heap:=h',toks:=tk}⟩:=a.on (e.mono λ_ z=>z.elim)
theorem To.tk(a:To X p q){σ':St}{tk:Tok}:To X p ⟨q.ι,σ',{q.s with toks:=tk}⟩:=a.on (Ev.refl ..)
end
inductive XP(c:Cx)(X:Addr->Prop)(p:Pt){α:Type}(r:R α)(v:Value)(s':Wp):Prop
 |mk (k:List Nat) (e:Addr):r=.exc k->v=.ref e->ip c.W c.L c.l e k s'.heap->Sm p.s s'->Xd X p.ι p.s.heap s'.heap->Dx p.ι p.s.heap s'.heap e->XP c X p r v s'
structure Cf(c:Cx)(n:Nat)(ρ:Env)(p:Pt):Prop where
 gd:Cs c.W c.Γ
 room:hM c.A n
 fm:Fm c.W c.env ρ p.ι p.s.heap
 inv:ay c.W p.ι p.σ p.s.heap
 fx:Fx c.W c.A c.env c.L c.l p.s.heap
 nms:c.env.scope.names=c.ns
 loc:c.W.h0.get? c.env.locals=none
 cel:∀n a,c.env.cells.lookup n=some a->c.W.h0.get? a=none
section
variable{c:Cx}{n m:Nat}{ρ ρ':Env}{p q:Pt}{X Y:Addr->Prop}
theorem Cf.up(C:Cf c n ρ p)(I:ay c.W q.ι q.σ q.s.heap)(e:Ev No p.ι p.s.heap q.ι q.s.heap):Cf c n ρ q:=
 ⟨C.gd,C.room,C.fm.upN e,I,C.fx.up e,C.nms,C.loc,C.cel⟩
theorem Cf.less(C:Cf c n ρ p)(q:m<=n):Cf c m ρ p:=⟨C.gd,C.room.less q,C.fm,C.inv,C.fx,C.nms,C.loc,C.cel⟩
theorem Cf.down(C:Cf c (n+1) ρ p):Cf c n ρ p:=C.less (ZD n)
theorem Cf.set(C:Cf c n ρ p)(I:ay c.W q.ι q.σ q.s.heap)(F:Fm c.W c.env ρ' q.ι q.s.heap)(e:Ev X p.ι p.s.heap q.ι q.s.heap):Cf c n ρ' q:=
 ⟨C.gd,C.room,F,I,C.fx.up e,C.nms,C.loc,C.cel⟩
theorem Cf.tk(C:Cf c n ρ p){tk:Tok}:Cf c n ρ ⟨p.ι,p.σ,{p.s with toks:=tk}⟩:=⟨C.gd,C.room,C.fm,C.inv,C.fx,C.nms,C.loc,C.cel⟩
noncomputable abbrev Ok{α β:Type}(c:Cx)(X:Addr->Prop)(p:Pt)(r:R α)(rel:List Addr->Heap->α->β->Prop)(t:Sem β):Prop:=
 wpAny (model c.W.prog c.W.w) c.A t (EP c.W X p.ι p.s r rel) (XP c X p r) p.s
variable{α β γ:Type}{r:R α}{r':R γ}{f:α->St->R γ}{rel:List Addr->Heap->α->β->Prop}{t:Sem β}{v:β}{s':Wp}
theorem XP.after{u:Value}(T:To X p q)(x:XP c X q r u s'):XP c X p r u s':=by
 obtain⟨k,e,h1,h2,h3,h4,h5,h6⟩:=x
 exact⟨k,e,h1,h2,h3,T.sm.trans h4,Xd.after T.ev h5,Dx.after T.ev h6⟩
theorem XP.of{u:Value}(x:XP c X p r u s')(h:∀k,r=.exc k->r'=.exc k):XP c X p r' u s':=by
 obtain⟨k,e,h1,h2,h3,h4,h5,h6⟩:=x
 exact⟨k,e,h k h1,h2,h3,h4,h5,h6⟩
theorem XP.mono{u:Value}(x:XP c X p r u s')(k:∀a,X a->Y a):XP c Y p r u s':=by
 obtain⟨a,e,h1,h2,h3,h4,h5,h6⟩:=x
 exact⟨a,e,h1,h2,h3,h4,h5.drop λa h=>.inl (k a h),h6⟩
theorem XP.wide{u:Value}(x:XP c No p r u s'):XP c X p r u s':=x.mono λ_ z=>z.elim
theorem b8(hr:r.bind f=r'):∀k,r=.exc k->r'=.exc k:=λk e=>by rw[<-hr,e];rfl
theorem aE(hr:r.bind f=r')(hb:r'≠.bad):r≠.bad:=λe=>hb (by rw[<-hr,e];rfl)
theorem bind_ok{x:α}{σ₁:St}(e:r=.ok x σ₁)(hr:r.bind f=r'):f x σ₁=r':=by rw[<-hr,e];rfl
theorem EP.after(T:To X p q)(x:EP c.W X q.ι q.s r rel v s'):EP c.W X p.ι p.s r rel v s':=by
 obtain⟨a,σ',ι',h1,h2,h3,h4,h5⟩:=x
 exact⟨a,σ',ι',h1,h2,T.ev.trans h3,T.sm.trans h4,h5⟩
theorem EP.wide(x:EP c.W No p.ι p.s r rel v s'):EP c.W X p.ι p.s r rel v s':=by
 obtain⟨a,σ',ι',h1,h2,h3,h4,h5⟩:=x
 exact⟨a,σ',ι',h1,h2,h3.mono λ_ z=>z.elim,h4,h5⟩
theorem val{x:α}{ι':List Addr}{σ':St}(hr: .ok x σ'=r)(I:ay c.W ι' σ' s'.heap)(T:To X p ⟨ι',σ',s'⟩)(k:rel ι' s'.heap x v):EP c.W X p.ι p.s r rel v s':=⟨x,σ',ι',hr.symm,I,T.ev,T.sm,k⟩
theorem use{Q:β->Wp->Prop}(h:r≠.bad->Ok c No q r rel t)(C:Cf c n ρ q)(hr:r.bind f=r')(hb:r'≠.bad)(T:To X p q)
  (k:∀{x:α} {q₂:Pt} {v:β},r=.ok x q₂.σ->f x q₂.σ=r'->Cf c n ρ q₂->To X p q₂->To No q q₂->rel q₂.ι q₂.s.heap x v->Q v q₂.s):wpAny (model c.W.prog c.W.w) c.A t Q (XP c X p r') q.s:=
 WK (h (aE hr hb)) (λ_ s₂ z=>by
  obtain⟨x,σ',ι',h1,h2,h3,h4,h5⟩:=z
  exact k (q₂:=⟨ι',σ',s₂⟩) h1 (bind_ok h1 hr) (C.up h2 h3) (T.then ⟨h3,h4⟩) ⟨h3,h4⟩ h5) λ_ _ z=>(XP.after T z.wide).of (b8 hr)
theorem tail{r':R α}(h:r≠.bad->Ok c X q r rel t)(hr:r=r')(hb:r'≠.bad)(T:To X p q):wpAny (model c.W.prog c.W.w) c.A t (EP c.W X p.ι p.s r' rel) (XP c X p r') q.s:=by
 subst hr
 exact WK (h hb) (λ_ _ z=>EP.after T z) λ_ _ z=>XP.after T z
theorem Ok.wide(h:Ok c No p r rel t):Ok c X p r rel t:=WK h (λ_ _ z=>z.wide) λ_ _ z=>z.wide
end
section
variable{c:Cx}{W:Wd}{n:Nat}{ρ:Env}{p:Pt}
theorem Cf.kin(C:Cf c n ρ p):c.W.K.In p.s.heap:=C.gd.kin.keeps C.inv.base
structure QX(W:Wd)(ns:Nms)(x:Nat)(m:Str):Prop where
 nm:W.nm[x]?=some m
 kd:ns.lookup m=some .local\/ns.lookup m=some .cell
 db: (m==("__debug__":Str))=false
structure VP(W:Wd)(ns:Nms)(m:Str)(v:Value):Prop where
 kd:ns.lookup m=some .globalImplicit
 gl:glob W.K m=some v
 db: (m==("__debug__":Str))=false
theorem xY{b:Bool}(h: (!b)=true):b=false:=by cases b<;>first|rfl|cases h
theorem dF{ns:Nms}{x:Nat}{m:Str}(h:gu W ns x m=true):QX W ns x m:=
 ⟨beq_iff_eq.mp (ac (ac h).1).1,(ZT.mp (ac (ac h).1).2).imp beq_iff_eq.mp beq_iff_eq.mp,xY (ac h).2⟩
theorem vR{ns:Nms}{m:Str}{v:Value}(h:fg W ns m v=true):VP W ns m v:=
 ⟨beq_iff_eq.mp (ac (ac h).1).1,beq_iff_eq.mp (ac (ac h).1).2,xY (ac h).2⟩
theorem Cf.kd(C:Cf c n ρ p){m:Str}{k:Z6}(h:c.ns.lookup m=some k):c.env.kindOf m=some k:=(congrArg (λl:Nms=>l.lookup m) C.nms).trans h
theorem zd{ns:Nms}{q:P}{e:Wk}(h:mP W ns q e=true)(env:Wy){es:List Wk}:assignEach (e::es) env=(false,assign e env)::assignEach es env:=by
 cases q with
 |name x=>exact be (motive:=λe=>assignEach (e::es) env=(false,assign e env)::assignEach es env) h λ_ _ _=>rfl
 |tup ps=>exact eX (motive:=λe=>assignEach (e::es) env=(false,assign e env)::assignEach es env) h λ_ _ _ _=>rfl
structure Uo(env:Wy)(ps:List P)(es:List Wk):Prop where
 len: (assignEach es env).length=ps.length
 no: (assignEach es env).findIdx? (·.1)=none
 snd: (assignEach es env).map (·.2)=es.map λe=>assign e env
theorem yJ{ns:Nms}(env:Wy){ps:List P}:∀{es:List Wk},Tj W ns ps es=true->Uo env ps es:=by
 induction ps with
 |nil=>exact λh=>by cases X6.mp h;exact⟨rfl,rfl,rfl⟩
 |cons q ps ih=>
  intro es h
  cases es with
  |nil=>exact fnt h
  |cons e es=>
   have h:=ac h
   have x:=ih h.2
   have he:=zd h.1 env (es:=es)
   exact⟨by rw[he];exact congrArg WU x.len,by rw[he,List.findIdx?_cons,x.no];rfl,by rw[he];exact congrArg _ x.snd⟩
theorem gj{q:P}{ps:List P}{v:V}{vs:List V}{ρ ρ':Env}{Pr:Prop}(h:bf (q::ps) (v::vs) ρ=some ρ')(k:∀ρ₁,aL q v ρ=some ρ₁->bf ps vs ρ₁=some ρ'->Pr):Pr:=a8 (o:=aL q v ρ) (k:=bf ps vs) h ad k
theorem u8{ps:List P}:∀{vs:List V} {ρ ρ':Env},bf ps vs ρ=some ρ'->ps.length=vs.length:=by
 induction ps with
 |nil=>exact λ{vs} _ _ h=>by cases vs with |nil=>rfl|cons _ _=>exact absurd h.symm ad
 |cons q ps ih=>
  intro vs ρ ρ' h
  cases vs with
  |nil=>exact absurd h.symm ad
  |cons v vs=>exact gj h λ_ _ h=>congrArg WU (ih h)
noncomputable def qH(W:Wd)(env:Wy)(ns₀:Nms)(X:Addr->Prop):Prop:=X env.locals/\∀x m,gu W ns₀ x m=true->env.kindOf m=some .local\/(env.kindOf m=some .cell/\∀a,env.cells.lookup m=some a->X a)
theorem Cf.turns(C:Cf c n ρ p):qH c.W c.env c.ns (Xf c.env):=⟨.inl rfl,λx m hv=>
 (dF hv).kd.imp C.kd λq=>⟨C.kd q,λa ha=>.inr ⟨m,ha⟩⟩⟩
theorem P.ind{p:P->Prop}{q:List P->Prop}(hn:∀x,p (.name x))(ht:∀l,q l->p (.tup l))(h0:q [])(hc:∀a r,p a->q r->q (a::r)): (∀x,p x)/\∀l,q l:=⟨λv=>@P.rec p q hn ht h0 hc v,λl=>@P.rec_1 p q hn ht h0 hc l⟩
noncomputable def Fo(c:Cx)(n:Nat)(ns₀:Nms)(X:Addr->Prop)(E:Value->Wp->Prop)(t:P):Prop:=∀{s:Wp} {ι:List Addr} {σ:St} {a:Wk} {v:V} {u:Value} {ρ ρ':Env} {Q:Unit->Wp->Prop},Cf c n ρ ⟨ι,σ,s⟩->mP c.W ns₀ t a=true->VR ι s.heap v u->aL t v ρ=some ρ'->
 (∀s',Cf c n ρ' ⟨ι,σ,s'⟩->To X ⟨ι,σ,s⟩ ⟨ι,σ,s'⟩->Q () s')->wpAny (model c.W.prog c.W.w) c.A (assign a c.env u) Q E s
noncomputable def I8(c:Cx)(n:Nat)(ns₀:Nms)(X:Addr->Prop)(E:Value->Wp->Prop)(ps:List P):Prop:=∀{s:Wp} {ι:List Addr} {σ:St} {as:List Wk} {vs:List V} {us:List Value} {ρ ρ':Env} {Q:Unit->Wp->Prop},Cf c n ρ ⟨ι,σ,s⟩->Tj c.W ns₀ ps as=true->aB ι s.heap vs us->bf ps vs ρ=some ρ'->
 (∀s',Cf c n ρ' ⟨ι,σ,s'⟩->To X ⟨ι,σ,s⟩ ⟨ι,σ,s'⟩->Q () s')->wpAny (model c.W.prog c.W.w) c.A (assignInOrder (as.map λe=>assign e c.env) us) Q E s
theorem tT{X:Addr->Prop}{ns₀:Nms}(T0:qH c.W c.env ns₀ X){E:Value->Wp->Prop}: (∀t,Fo c n ns₀ X E t)/\∀ps,I8 c n ns₀ X E ps:=by
 refine P.ind (λx {s ι σ a v u ρ ρ' Q} C m V0 e h=>?_) (λps ih {s ι σ a v u ρ ρ' Q} C m V0 e h=>?_) (λ{s ι σ as vs us ρ ρ' Q} C m V0 e h=>?_) λq ps ih1 ih2 {s ι σ as vs us ρ ρ' Q} C m V0 e h=>?_
 ·refine be m λnm pos m=>?_
  cases Wn e
  have m2:=T0.2 _ _ m
  exact wpAny_assign_Name (Fm.store (X:=X) C.inv C.fm V0 (dF m).nm C.loc C.cel (m2.imp id And.left) T0.1 (λhk b hb=>m2.elim (λq=>nomatch q.symm.trans hk) λq=>q.2 b hb) λh' tk I F ev=>h _ (C.set I F ev) ⟨ev,Sm.mk' s h' tk⟩)
 ·refine eX m λes x pos m=>cy e ad λvs ev e=>VR.tup (ev▸V0) λt us eu T _ R=>?_
  subst eu
  have g:=yJ c.env m
  refine wpAny_assign_Tuple C.room.hh T (g.len.trans ((u8 (vs:=vs) e).trans R.len)) g.no λh' k=>?_
  have kk:∀b o,s.heap.get? b=some o->h'.get? b=some o:=λb o eb=>k b o (XA (XO eb)) eb
  have ev:Ev No ι s.heap ι h':=Ev.keeps No ι kk
  rw[g.snd]
  exact ih (s:={s with heap:=h'}) (C.up (q:=⟨ι,σ,{s with heap:=h'}⟩) (C.inv.keeps kk) ev) m (R.up ev) e λs' C' T'=>h s' C' (To.trans (q:=⟨ι,σ,{s with heap:=h'}⟩) (To.wide ⟨ev,Sm.heap s h'⟩) T')
 ·cases X6.mp m
  cases vs with
  |nil=>
   cases V0.nil
   exact Ws (h s (Wn e▸C) To.refl)
  |cons _ _=>exact absurd e.symm ad
 ·cases as with
  |nil=>exact fnt m
  |cons a as=>
   have m:=ac m
   cases vs with
   |nil=>exact absurd e.symm ad
   |cons v vs=>
    refine V0.cons λu us eu Vu R0=>gj e λρ₁ e1 e=>?_
    subst eu
    exact Wj (X3 (ih1 C m.1 Vu e1 λs₁ C₁ T₁=>ih2 C₁ m.2 (R0.up T₁.ev) e λs' C' T'=>h s' C' (T₁.trans T')))
theorem fw{X:Addr->Prop}{ns₀:Nms}(T0:qH c.W c.env ns₀ X){E:Value->Wp->Prop}(t:P):Fo c n ns₀ X E t:=(tT T0).1 t
end
noncomputable def VO(ι:List Addr)(h:Heap)(o:Option V)(v:Value):Prop:=opt o (λx=>VR ι h x v) (v=.none)
noncomputable def FR(ι:List Addr)(h:Heap)(q:F)(f:Flow):Prop:=@F.rec (λ_=>Prop) (f=.next) (f=.brk) (f=.cont) (λv=>∃u,f=.ret u/\VR ι h v u) q
noncomputable abbrev rB:List Addr->Heap->Bool->Bool->Prop:=λ_ _ b c=>b=c
structure RF(W:Wd)(env:Wy)(ι:List Addr)(h:Heap)(q:F × Env)(f:Flow):Prop where
 fl:FR ι h q.1 f
 fm:Fm W env q.2 ι h
structure RU(W:Wd)(env:Wy)(ι:List Addr)(h:Heap)(q:F × Env)(_:Unit):Prop where
 fl:q.1=.next
 fm:Fm W env q.2 ι h
noncomputable def CR(c:Cx)(p:Pt)(r:R V)(q:Result)(s':Wp):Prop:=@Except.casesOn Value Flow (λ_=>Prop) q (λe=>XP c No p r e s') λf=>@Flow.casesOn (λ_=>Prop) f False False False λv=>EP c.W No p.ι p.s r VR v s'
structure ce(n:Nat):Prop where
 ev:∀{c ρ p} {e:E} {a:Wk},Cf c n ρ p->mE c.W c.ns e a=true->ev c.Γ n e ρ p.σ≠.bad->Ok c No p (ev c.Γ n e ρ p.σ) VR (eval a c.env)
 evs:∀{c ρ p} {es:List E} {as:List Wk},Cf c n ρ p->lW c.W c.ns es as=true->evs c.Γ n es ρ p.σ≠.bad->Ok c No p (evs c.Γ n es ρ p.σ) aB (spliced (starEach as c.env))
 evO:∀{c ρ p} {e:Option E} {a:Option Wk},Cf c n ρ p->mO c.W c.ns e a=true->evO c.Γ n e ρ p.σ≠.bad->Ok c No p (evO c.Γ n e ρ p.σ) VO (evalPart a c.env)
 evAnd:∀{c ρ p} {es:List E} {as:List Wk} {pos:Pos},Cf c n ρ p->lW c.W c.ns es as=true->evAnd c.Γ n es ρ p.σ≠.bad->Ok c No p (evAnd c.Γ n es ρ p.σ) VR (boolOp pos .And (evalEach as c.env))
 evOr:∀{c ρ p} {es:List E} {as:List Wk} {pos:Pos},Cf c n ρ p->lW c.W c.ns es as=true->evOr c.Γ n es ρ p.σ≠.bad->Ok c No p (evOr c.Γ n es ρ p.σ) VR (boolOp pos .Or (evalEach as c.env))
 evIt:∀{c ρ p} {e:E} {a:Wk},Cf c n ρ p->mE c.W c.ns e a=true->evIt c.Γ n e ρ p.σ≠.bad->Ok c No p (evIt c.Γ n e ρ p.σ) (wB c.W (cU e) p.s.heap) (eval a c.env)
 tr:∀{c ρ p} {e:E} {a:Wk},Cf c n ρ p->mE c.W c.ns e a=true->tr c.Γ n e ρ p.σ≠.bad->Ok c No p (tr c.Γ n e ρ p.σ) rB (isTrue a c.env (eval a c.env))
 trAnd:∀{c ρ p} {es:List E} {as:List Wk},Cf c n ρ p->lW c.W c.ns es as=true->trAnd c.Γ n es ρ p.σ≠.bad->Ok c No p (trAnd c.Γ n es ρ p.σ) rB (allTrue .And as c.env)
 trOr:∀{c ρ p} {es:List E} {as:List Wk},Cf c n ρ p->lW c.W c.ns es as=true->trOr c.Γ n es ρ p.σ≠.bad->Ok c No p (trOr c.Γ n es ρ p.σ) rB (allTrue .Or as c.env)
 callF:∀{c p} {f:Nat} {vs:List V} {us:List Value},Cs c.W c.Γ->hM c.A n->ay c.W p.ι p.σ p.s.heap->Fx c.W c.A c.env c.L c.l p.s.heap->aB p.ι p.s.heap vs us->callF c.Γ n f vs p.σ≠.bad->codeAny (model c.W.prog c.W.w) c.A (.call (.ref (c.W.fa f)) ⟨us,[]⟩) (CR c p (callF c.Γ n f vs p.σ)) p.s
 ex:∀{d c ρ p} {t:S} {a:Stmt},Cf c n ρ p->mS c.W (lz c.W c.Γ d) c.ns t a=true->ex c.Γ n t ρ p.σ≠.bad->Ok c (Xf c.env) p (ex c.Γ n t ρ p.σ) (RF c.W c.env) (exec a c.env)
 exB:∀{d c ρ p} {ts:List S} {as:List Stmt},Cf c n ρ p->mB c.W (lz c.W c.Γ d) c.ns ts as=true->exB c.Γ n ts ρ p.σ≠.bad->Ok c (Xf c.env) p (exB c.Γ n ts ρ p.σ) (RF c.W c.env) (execs as c.env)
 store:∀{c ρ p} {t:T} {a:Wk} {v:V} {u:Value},Cf c n ρ p->mT c.W c.ns t a=true->VR p.ι p.s.heap v u->store c.Γ n t v ρ p.σ≠.bad->Ok c (Xf c.env) p (store c.Γ n t v ρ p.σ) (RU c.W c.env) (assign a c.env u)
theorem bz{a:Wk}{as:List Wk}{env:Wy}(h:noStar a=true):starEach (a::as) env=(false,eval a env)::starEach as env:=
 ao (motive:=λa=>starEach (a::as) env=(false,eval a env)::starEach as env) h (λ_ _ _=>rfl) (λ_ _ _ _=>rfl) (λ_ _ _=>rfl) (λ_ _ _ _=>rfl) (λ_ _ _ _ _=>rfl) (λ_ _ _ _=>rfl) (λ_ _ _ _=>rfl) (λ_ _ _ _ _=>rfl) (λ_ _ _ _ _=>rfl) (λ_ _ _ _=>rfl) (λ_ _ _ _=>rfl) (λ_ _ _ _ _=>rfl) (λ_ _ _ _ _=>rfl) (λ_ _ _ _ _=>rfl) (λ_ _ _ _=>rfl)
section
variable{n:Nat}{c:Cx}{ρ:Env}{p:Pt}{es:List E}{as:List Wk}{r:R (List V)}{q:R V}{b:R Bool}
theorem c9{e:E}{P:Prop}(m:lW c.W c.ns (e::es) as=true)(k:∀a r,as=a::r->noStar a=true->mE c.W c.ns e a=true->lW c.W c.ns es r=true->P):P:=by
 cases as with
 |nil=>exact fnt m
 |cons a as=>
  have m:=ac m
  have m2:=ac m.2
  exact k a as rfl m.1 m2.1 m2.2
theorem e7(m:lW c.W c.ns [] as=true):as=[]:=X6.mp m
theorem zN(S:ce n)(C:Cf c (n+1) ρ p)(hm:lW c.W c.ns es as=true)(hr:evs c.Γ (n+1) es ρ p.σ=r)(hb:r≠.bad):Ok c No p r aB (spliced (starEach as c.env)):=by
 cases es with
 |nil=>exact e7 hm▸Calls.spliced_nil (val hr C.inv To.refl trivial)
 |cons e es=>
  refine c9 hm λa as ea h0 me m=>?_
  rw[ea,bz h0]
  exact a0e (use (S.ev C.down me) C hr hb To.refl λ_ hr C T _ V₁=>use (S.evs C.down m) C hr hb T λ_ hr C T t V₂=>val hr C.inv T (XM (V₁.up t.ev) V₂))
theorem BY(S:ce n){e:Option E}{a:Option Wk}{r:R (Option V)}(C:Cf c (n+1) ρ p)(m:mO c.W c.ns e a=true)(hr:evO c.Γ (n+1) e ρ p.σ=r)(hb:r≠.bad):Ok c No p r VO (evalPart a c.env):=by
 cases e with
 |none=>
  cases Xo.mp m
  exact Ws (val hr C.inv To.refl rfl)
 |some e=>
  refine iC m λa m=>?_
  exact use (t:=eval a c.env) (S.ev C.down m) C hr hb To.refl λ_ hr C T _ V=>val hr C.inv T V
theorem ri{op:BoolOp}{pos:Pos}{x y:Sem Value}{r:List (Sem Value)}:boolOp pos op (x::y::r)=(do
  let v<-x
  standAt pos
  let t<-holding [v] (truthy v)
  match op,t with
  | .And,false| .Or,true=>pure v
  |_,_=>boolOp pos op (y::r)):=rfl
theorem sy(S:ce n){op:BoolOp}{pos:Pos}{e:E}{a a2:Wk}{g:V->Bool->St->R V}(C:Cf c (n+1) ρ p)(m:mE c.W c.ns e a=true)(hr: (ev c.Γ n e ρ p.σ).bind (λv σ=>(dW σ v).bind (g v))=q)(hb:q≠.bad)
  (k:∀{x:V} {p₁:Pt} {v:Value} {b:Bool} {tk:Tok},g x b p₁.σ=q->Cf c (n+1) ρ ⟨p₁.ι,p₁.σ,{p₁.s with toks:=tk}⟩->To No p ⟨p₁.ι,p₁.σ,{p₁.s with toks:=tk}⟩->VR p₁.ι p₁.s.heap x v->wpAny (model c.W.prog c.W.w) c.A (match(generalizing:=false) op,b with
   | .And,false| .Or,true=>pure v
   |_,_=>boolOp pos op (evalEach (a2::as) c.env)) (EP c.W No p.ι p.s q VR) (XP c No p q) {p₁.s with toks:=tk}):
  Ok c No p q VR (boolOp pos op (evalEach (a::a2::as) c.env)):=by
 rw[a0m,a0m,ri,<-a0m]
 exact Wj (use (S.ev C.down m) C hr hb To.refl λ_ hr C T _ V=>Wj (Xa (Wj (X3 (gE C.inv V rfl (aE hr hb) λb e tk=>k (bind_ok e.symm hr) C.tk T.tk V)))))
theorem uq(S:ce n){pos:Pos}(C:Cf c (n+1) ρ p)(hm:lW c.W c.ns es as=true)(hr:evAnd c.Γ (n+1) es ρ p.σ=q)(hb:q≠.bad):Ok c No p q VR (boolOp pos .And (evalEach as c.env)):=by
 cases es with
 |nil=>exact(hb hr.symm).elim
 |cons e es=>
  refine c9 hm λa as ea _ me m=>?_
  subst ea
  cases es with
  |nil=>exact e7 m▸tail (S.ev C.down me) hr hb To.refl
  |cons e2 es=>
   refine c9 m λa2 as ea2 _ _ _=>?_
   subst ea2
   refine sy (g:=λv q σ=>tf q (evAnd c.Γ n (e2::es) ρ σ) (.ok v σ)) S C me hr hb λ{x p₁ v b tk} hr C T V=>?_
   cases b with
   |false=>exact Ws (val hr C.inv T V)
   |true=>exact tail (S.evAnd C.down m) hr hb T
theorem xx(S:ce n){pos:Pos}(C:Cf c (n+1) ρ p)(hm:lW c.W c.ns es as=true)(hr:evOr c.Γ (n+1) es ρ p.σ=q)(hb:q≠.bad):Ok c No p q VR (boolOp pos .Or (evalEach as c.env)):=by
 cases es with
 |nil=>exact(hb hr.symm).elim
 |cons e es=>
  refine c9 hm λa as ea _ me m=>?_
  subst ea
  cases es with
  |nil=>exact e7 m▸tail (S.ev C.down me) hr hb To.refl
  |cons e2 es=>
   refine c9 m λa2 as ea2 _ _ _=>?_
   subst ea2
   refine sy (g:=λv q σ=>tf q (.ok v σ) (evOr c.Γ n (e2::es) ρ σ)) S C me hr hb λ{x p₁ v b tk} hr C T V=>?_
   cases b with
   |true=>exact Ws (val hr C.inv T V)
   |false=>exact tail (S.evOr C.down m) hr hb T
theorem ud(S:ce n)(C:Cf c (n+1) ρ p)(hm:lW c.W c.ns es as=true)(hr:trAnd c.Γ (n+1) es ρ p.σ=b)(hb:b≠.bad):Ok c No p b rB (allTrue .And as c.env):=by
 cases es with
 |nil=>exact e7 hm▸wpAny_allTrue_And_nil (val hr C.inv To.refl rfl)
 |cons e es=>
  refine c9 hm λa as ea _ me m=>ea▸wpAny_allTrue_And_cons (use (S.tr C.down me) C hr hb To.refl λ{x _ _} _ hr C T _ V=>?_)
  cases V
  cases x with
  |true=>exact tail (S.trAnd C.down m) hr hb T
  |false=>exact val hr C.inv T rfl
theorem yM(S:ce n)(C:Cf c (n+1) ρ p)(hm:lW c.W c.ns es as=true)(hr:trOr c.Γ (n+1) es ρ p.σ=b)(hb:b≠.bad):Ok c No p b rB (allTrue .Or as c.env):=by
 cases es with
 |nil=>exact e7 hm▸wpAny_allTrue_Or_nil (val hr C.inv To.refl rfl)
 |cons e es=>
  refine c9 hm λa as ea _ me m=>ea▸wpAny_allTrue_Or_cons (use (S.tr C.down me) C hr hb To.refl λ{x _ _} _ hr C T _ V=>?_)
  cases V
  cases x with
  |false=>exact tail (S.trOr C.down m) hr hb T
  |true=>exact val hr C.inv T rfl
end
theorem ue{l r:Wk}{op:CmpOp}{pos:Pos}{env:Wy}{t:Sem Value}:a02 (.Compare l [op] [r] pos) env t=(WG (.Compare l [op] [r] pos) env >>= λc=>holding [c] (truthy c)):=by
 rw[PySem.isTrue_Compare1,PySem.eval_Compare1]
 simp only[bind_assoc]
noncomputable def w8(e:E):Bool:=@E.casesOn (λ_=>Bool) e true (λ_=>false) (λ_=>false) (λ_=>false) (λ_=>false) (λ_ _=>false) (λ_ _ _=>false) (λ_=>false) (λ_=>true) (λ_=>true) (λ_=>true) (λ_ _ _=>false) (λ_ _ _=>true) (λ_ _=>false) (λ_ _=>false) (λ_ _ _=>false) (λ_ _=>false) (λ_ _=>false) (λ_ _ _=>false) (λ_ _=>false) (λ_ _=>false) (λ_ _ _ _=>false)
structure TP(M:Model)(A:X7)(env:Wy)(a:Wk):Prop where
 go:∀{Q:Bool->Wp->Prop} {E:Value->Wp->Prop} {s:Wp},wpAny M A (WG a env) (λv s₁=>wpAny M A (truthy v) Q E s₁) E s->wpAny M A (a02 a env (WG a env)) Q E s
section
variable{W:Wd}{A:X7}{ns:Nms}{env:Wy}{a:Wk}
theorem TP.gen{M:Model}(he:a02 a env (WG a env)=(do let v<-WG a env;standAt a.pos;holding [v] (truthy v))):TP M A env a:=⟨λhq=>wpAny_isTrue_value hq he⟩
theorem pN{e:E}(m:mE W ns e a=true)(h:w8 e=false):TP (model W.prog W.w) A env a:=by
 cases e with
 |c v=>exact lH m λ_ _ _ _=>.gen rfl
 |loc x=>exact be m λ_ _ _=>.gen rfl
 |tup es=>exact eX m λ_ _ _ _=>.gen rfl
 |lst es=>exact rc m λ_ _ _=>.gen rfl
 |dct ks es=>exact rJ m λ_ _ _ _=>.gen rfl
 |bin op x y=>exact rA m λ_ _ _ _ _=>.gen rfl
 |neg x=>exact lA m λo _ _ m=>oa (ac m).1 (.gen rfl)
 |cmp op x y=>
  refine my m λp os qs x m=>?_
  refine d5 (motive:=λos=>TP (model W.prog W.w) A env (.Compare p os qs x)) m λo m=>?_
  refine d5 (motive:=λqs=>TP (model W.prog W.w) A env (.Compare p [o] qs x)) m λq m=>⟨λhq=>?_⟩
  rw[ue]
  exact Wj (WK hq (λv s₁ z=>X3 z) λ_ _ z=>z)
 |attr o n=>exact dw m λ_ _ _ _=>.gen rfl
 |idx x y=>exact cW m λ_ _ _ _=>.gen rfl
 |slice x l u=>exact cW m λ_ _ _ _=>.gen rfl
 |call f es=>exact cH m λ_ _ _ _ _=>.gen rfl
 |new f es=>exact cH m λ_ _ _ _ _=>.gen rfl
 |meth o f es=>exact cH m λ_ _ _ _ _=>.gen rfl
 |bi b es=>exact cH m λ_ _ _ _ _=>.gen rfl
 |isi k x=>exact cH m λ_ _ _ _ _=>.gen rfl
 |comp x p it fs=>exact oW m λ_ _ _ _ _=>.gen rfl
 |_=>exact absurd h.symm Ww
end
section
variable{n:Nat}{c:Cx}{ρ:Env}{p:Pt}{e:E}{a:Wk}{r:R Bool}
theorem D8(S:ce n)(C:Cf c (n+1) ρ p)(m:mE c.W c.ns e a=true)(hr:tr c.Γ (n+1) e ρ p.σ=r)(hb:r≠.bad):Ok c No p r rB (isTrue a c.env (WG a c.env)):=by
 have gen:w8 e=false->((ev c.Γ n e ρ p.σ).bind λv σ=>dW σ v)=r->Ok c No p r rB (isTrue a c.env (WG a c.env)):=λh hr=>
  (pN m h).go (use (S.ev C.down m) C hr hb To.refl λ_ hr C T _ V=>gE C.inv V hr hb λb e tk=>val e C.inv T.tk rfl)
 cases e with
 |any=>cases n<;>exact absurd hr.symm hb
 |not x=>
  refine lA m λo a pos m=>?_
  have m:=ac m
  refine o9 m.1 (wpAny_isTrue_Not (use (S.tr C.down m.2) C hr hb To.refl λ_ hr C T _ V=>?_))
  cases V
  exact val hr C.inv T rfl
 |and es=>
  refine gP m λo as pos m=>?_
  have m:=ac m
  cases o with
  |And=>exact wpAny_isTrue_BoolOp (tail (S.trAnd C.down m.2) hr hb To.refl)
  |Or=>exact nomatch m.1
 |or es=>
  refine gP m λo as pos m=>?_
  have m:=ac m
  cases o with
  |Or=>exact wpAny_isTrue_BoolOp (tail (S.trOr C.down m.2) hr hb To.refl)
  |And=>exact nomatch m.1
 |ite t x y=>
  refine vZ m λu p q pos m=>?_
  have m:=ac m
  have m2:=ac m.2
  rw[arm_isTrue_IfExp]
  refine Wj (use (S.tr C.down m.1) C hr hb To.refl λ{b _ _} _ hr C T _ V=>?_)
  cases V
  cases b with
  |true=>exact tail (S.tr C.down m2.1) hr hb T
  |false=>exact tail (S.tr C.down m2.2) hr hb T
 |_=>exact gen rfl hr
end
section
variable{n:Nat}{c:Cx}{ρ:Env}{p:Pt}{a:Wk}{r:R V}
theorem dj{pos:Pos}{env:Wy}{as:List Wk}: (∀a∈as,noStar a=true)->backTo pos (starEach as env)=starEach as env:=by
 induction as with
 |nil=>exact λ_=>rfl
 |cons a as ih=>
  intro h
  rw[bz (h a (.head _))]
  exact congrArg ((false,WG a env):: ·) (ih λb hb=>h b (.tail _ hb))
theorem dI{c:Cx}{es:List E}:∀{as:List Wk},lW c.W c.ns es as=true->∀a∈as,noStar a=true:=by
 induction es with
 |nil=>exact λh a ha=>absurd (e7 h▸ha) WT
 |cons e es ih=>exact λh a ha=>c9 h λb as e s _ m=>(WJ.mp (show a∈b::as from e▸ha)).elim (λq=>q▸s) (ih m a)
theorem DA{c:Cx}{es:List E}:∀{as:List Wk},lW c.W c.ns es as=true->es.length=as.length:=by
 induction es with
 |nil=>exact λh=>congrArg a0i (e7 h).symm
 |cons e es ih=>exact λh=>c9 h λb as e s _ m=>e▸congrArg WU (ih m)
theorem qJ{α β:Type}{r:R α}{f:α->St->R β}{y:β}{σ':St}{P:Prop}(h:r.bind f=.ok y σ')(k:∀x σ,r=.ok x σ->f x σ=.ok y σ'->P):P:=by
 cases r with
 |ok x σ=>exact k x σ rfl h
 |exc _=>exact nomatch h
 |bad=>exact nomatch h
theorem Dz{Γ:bU}{n:Nat}:∀{es:List E} {ρ:Env} {σ σ':St} {vs:List V},evs Γ n es ρ σ=.ok vs σ'->vs.length=es.length:=by
 induction n with
 |zero=>exact λh=>nomatch h
 |succ n ih=>
  intro es ρ σ σ' vs h
  cases es with
  |nil=>cases h;rfl
  |cons e es=>
   refine qJ (r:=ev Γ n e ρ σ) (f:=λv σ=>(evs Γ n es ρ σ).bind λvs σ=>.ok (v::vs) σ) h λv σ₁ _ h=>qJ h λus σ₂ h2 h=>?_
   cases h
   exact congrArg WU (ih h2)
theorem ux{Γ:bU}{es:List E}{as:List Wk}{σ σ':St}{vs:List V}{us:List Value}{ι:List Addr}{h:Heap}{k:Nat}(m:lW c.W c.ns es as=true)(l:Wo as.length k=true)(e:evs Γ n es ρ σ=.ok vs σ')(V:aB ι h vs us):us.length<k:=
 V.len▸Dz e▸DA m▸Wl l
theorem Rk{v:V}(C:Cf c (n+1) ρ p)(m:mE c.W c.ns (.c v) a=true)(hr: .ok v p.σ=r):Ok c No p r VR (WG a c.env):=by
 refine lH m λk x y m=>?_
 cases v with
 |none=>cases k<;>first|exact absurd m Ww|exact wpAny_Constant_none (val hr C.inv To.refl rfl)
 |bool b=>cases k<;>first|exact absurd m Ww| (cases beq_iff_eq.mp m;exact wpAny_Constant_bool (val hr C.inv To.refl rfl))
 |int b=>cases k<;>first|exact absurd m Ww| (cases beq_iff_eq.mp m;exact wpAny_Constant_int (val hr C.inv To.refl.tk ⟨_,rfl⟩))
 |str b=>cases k<;>first|exact absurd m Ww| (cases beq_iff_eq.mp m;exact wpAny_Constant_str (val hr C.inv To.refl.tk ⟨_,rfl⟩))
 |_=>exact absurd m Ww
theorem Mh{x:Nat}(C:Cf c (n+1) ρ p)(m:mE c.W c.ns (a0F x) a=true)(hr:R.of (aa ρ x) p.σ=r)(hb:r≠.bad):Ok c No p r VR (WG a c.env):=by
 refine be m λnm pos m=>?_
 have m:=dF m
 refine jM hr hb λv hv hr=>?_
 exact wpAny_Name (C.fm.load hv m.nm (m.kd.imp C.kd C.kd) λu V=>val hr C.inv To.refl V) m.db
theorem Hh(S:ce n){es:List E}(C:Cf c (n+1) ρ p)(m:mE c.W c.ns (.tup es) a=true)(hr:ev c.Γ (n+1) (.tup es) ρ p.σ=r)(hb:r≠.bad):Ok c No p r VR (WG a c.env):=by
 refine eX m λas k pos m=>?_
 have m:=ac m
 rw[arm_eval_Tuple,dj (dI m.1)]
 refine Wj (Xa (Wj (use (S.evs C.down m.1) C hr hb To.refl λe hr C T _ V=>?_)))
 refine wpAny_newTuple ?_ (yW (Wz (Y0 (ux m.1 m.2 e V)) (by decide)))
 obtain⟨i1,i2,i3⟩:=lB No C.inv V
 exact val hr i1 (T.on i2) i3
theorem Nh(S:ce n){es:List E}(C:Cf c (n+1) ρ p)(m:mE c.W c.ns (.lst es) a=true)(hr:ev c.Γ (n+1) (.lst es) ρ p.σ=r)(hb:r≠.bad):Ok c No p r VR (WG a c.env):=by
 refine rc m λas pos m=>?_
 have m:=ac m
 rw[arm_eval_List,dj (dI m.1)]
 refine Wj (Xa (Wj (use (S.evs C.down m.1) C hr hb To.refl λe hr C T _ V=>?_)))
 have l:=Y0 (ux m.1 m.2 e V)
 refine a0p ?_ (yW (Wz l (by decide)))
 obtain⟨i1,i2,i3⟩:=new_list No C.inv (Wz (V.len▸l) (by decide)) V
 exact val hr i1 (T.on i2) i3
theorem HQ(S:ce n){op:Op}{x y:E}(C:Cf c (n+1) ρ p)(m:mE c.W c.ns (.bin op x y) a=true)(hr:ev c.Γ (n+1) (.bin op x y) ρ p.σ=r)(hb:r≠.bad):Ok c No p r VR (WG a c.env):=by
 refine rA m λp o q pos m=>?_
 have m:=ac m
 cases beq_iff_eq.mp m.1
 have m:=ac m.2
 exact wpAny_BinOp (use (S.ev C.down m.1) C hr hb To.refl λ_ hr C T _ V₁=>use (S.ev C.down m.2) C hr hb T λ_ hr C T t V₂=>tail (λhb=>qI C.inv (V₁.up t.ev) V₂ rfl hb) hr hb T)
theorem Ka(S:ce n){x:E}(C:Cf c (n+1) ρ p)(m:mE c.W c.ns (.neg x) a=true)(hr:ev c.Γ (n+1) (.neg x) ρ p.σ=r)(hb:r≠.bad):Ok c No p r VR (WG a c.env):=by
 refine lA m λo p pos m=>?_
 have m:=ac m
 refine oa m.1 (wpAny_UnaryOp (use (S.ev C.down m.2) C hr hb To.refl λ{u _ _} _ hr C T _ V=>aR hr hb λi ei hr2=>?_))
 subst ei
 obtain⟨t,rfl⟩:=V
 exact PySem.P.neg_int (val hr2 C.inv T.tk ⟨_,rfl⟩)
theorem Lc(S:ce n){x:E}(C:Cf c (n+1) ρ p)(m:mE c.W c.ns (.not x) a=true)(hr:ev c.Γ (n+1) (.not x) ρ p.σ=r)(hb:r≠.bad):Ok c No p r VR (WG a c.env):=by
 refine lA m λo p pos m=>?_
 have m:=ac m
 exact o9 m.1 (wpAny_UnaryOp (use (S.ev C.down m.2) C hr hb To.refl λ_ hr C T _ V=>PyProof.Rows.not_of (gE C.inv V rfl (aE hr hb) λb e tk=>have z:=bind_ok e.symm hr;val z C.inv T.tk rfl)))
theorem M0(S:ce n){op:Cm}{x y:E}(C:Cf c (n+1) ρ p)(m:mE c.W c.ns (a0H op x y) a=true)(hr:ev c.Γ (n+1) (a0H op x y) ρ p.σ=r)(hb:r≠.bad):Ok c No p r VR (WG a c.env):=by
 refine my m λu os qs pos m=>?_
 refine d5 (motive:=λos=>Ok c No p r VR (WG (.Compare u os qs pos) c.env)) m λo m=>?_
 refine d5 (motive:=λqs=>Ok c No p r VR (WG (.Compare u [o] qs pos) c.env)) m λq m=>?_
 have m:=ac m
 cases beq_iff_eq.mp m.1
 have m:=ac m.2
 have m2:=ac m.2
 refine wpAny_Compare1 (use (S.ev C.down m2.1) C hr hb To.refl λ_ hr C T _ V₁=>use (S.ev C.down m2.2) C hr hb T λ_ hr C T t V₂=>?_) (xY m.1)
 exact nS C.room.big C.inv (V₁.up t.ev) V₂ rfl (aE hr hb) λb e tk=>have z:=bind_ok e.symm hr;val z C.inv T.tk rfl
theorem NS(S:ce n){t x y:E}(C:Cf c (n+1) ρ p)(m:mE c.W c.ns (.ite t x y) a=true)(hr:ev c.Γ (n+1) (.ite t x y) ρ p.σ=r)(hb:r≠.bad):Ok c No p r VR (WG a c.env):=by
 refine vZ m λu p q pos m=>?_
 have m:=ac m
 have m2:=ac m.2
 refine wpAny_IfExp (use (S.tr C.down m.1) C hr hb To.refl λ{b _ _} _ hr C T _ V=>?_)
 cases V
 cases b with
 |true=>exact tail (S.ev C.down m2.1) hr hb T
 |false=>exact tail (S.ev C.down m2.2) hr hb T
theorem IY(S:ce n){es:List E}(C:Cf c (n+1) ρ p)(m:mE c.W c.ns (.and es) a=true)(hr:ev c.Γ (n+1) (.and es) ρ p.σ=r)(hb:r≠.bad):Ok c No p r VR (WG a c.env):=by
 refine gP m λo as pos m=>?_
 have m:=ac m
 cases o with
 |And=>rw[arm_eval_BoolOp];exact tail (S.evAnd C.down m.2) hr hb To.refl
 |Or=>exact nomatch m.1
theorem Pw(S:ce n){es:List E}(C:Cf c (n+1) ρ p)(m:mE c.W c.ns (.or es) a=true)(hr:ev c.Γ (n+1) (.or es) ρ p.σ=r)(hb:r≠.bad):Ok c No p r VR (WG a c.env):=by
 refine gP m λo as pos m=>?_
 have m:=ac m
 cases o with
 |Or=>rw[arm_eval_BoolOp];exact tail (S.evOr C.down m.2) hr hb To.refl
 |And=>exact nomatch m.1
theorem Ko(S:ce n){x y:E}(C:Cf c (n+1) ρ p)(m:mE c.W c.ns (.idx x y) a=true)(hr:ev c.Γ (n+1) (.idx x y) ρ p.σ=r)(hb:r≠.bad):Ok c No p r VR (WG a c.env):=by
 refine cW m λu q pos m=>?_
 have m:=ac m
 have m2:=ac m.2
 refine BZ m.1 (use (S.ev C.down m2.1) C hr hb To.refl λ_ hr C T _ V₁=>use (S.ev C.down m2.2) C hr hb T λ_ hr C T t V₂=>lM C.inv (V₁.up t.ev) V₂ hr hb λy z tk e V=>val e C.inv T.tk V)
end
section
variable{n:Nat}{c:Cx}{ρ:Env}{p q:Pt}{a:Wk}{r:R V}
theorem VO.up{ι ι':List Addr}{h h':Heap}{X:Addr->Prop}{o:Option V}{v:Value}(x:VO ι h o v)(e:Ev X ι h ι' h'):VO ι' h' o v:=by
 cases o with
 |none=>exact x
 |some y=>exact VR.up x e
noncomputable abbrev slO(vl vu:Value):Obj:={cls:= .type "slice",data:= .fields #[vl,vu,.none]}
theorem mr{b:Addr}{vs:List V}{us:List Value}{bl bh:Option Nat}{vl vu:Value}(hb:q.s.heap.IsList b us.toArray)(hn: (cut vs bl bh).length<=100001)(hl:us.length<=100001)(R:aB q.ι q.s.heap vs us)(pl:partOf vl bl)(pu:partOf vu bh)(C:Cf c n ρ q)(T:To No p q)
  (hr: .ok (.ref q.σ.length) (q.σ++[.lst (cut vs bl bh)])=r):wpAny (model c.W.prog c.W.w) c.A (getItem (.ref b) (.ref q.s.heap.objs.size)) (EP c.W No p.ι p.s r VR) (XP c No p r) {q.s with heap:=q.s.heap.push (slO vl vu)}:=by
 have kk:=aq q.s.heap (slO vl vu)
 have ev:Ev No q.ι q.s.heap q.ι (q.s.heap.push (slO vl vu)):=Ev.keeps No q.ι kk
 obtain⟨o,ho,hd⟩:=hb
 refine wpAny_getItem_list_slice ⟨o,kk _ _ ho,hd⟩ (a0s q.s.heap vl vu .none) (ii pl) (ii pu) .none nofun ?_ (szA hl)
 rw[slicePick_cut]
 obtain⟨i1,i2,i3⟩:=new_list No (C.inv.keeps kk) hn ((R.up ev).cut bl bh)
 exact val hr i1 (T.on (ev.trans i2)) i3
theorem sliceV_sound{xv:V}{v vl vu:Value}{bl bh:Option Nat}(C:Cf c n ρ q)(T:To No p q)(V₁:VR q.ι q.s.heap xv v)(pl:partOf vl bl)(pu:partOf vu bh)(he:sliceV q.σ xv bl bh=r)(hb:r≠.bad):
  Subs q.s v/\wpAny (model c.W.prog c.W.w) c.A (getItem v (.ref q.s.heap.objs.size)) (EP c.W No p.ι p.s r VR) (XP c No p r) {q.s with heap:=q.s.heap.push (slO vl vu)}:=by
 cases xv with
 |tup vs=>
  refine am he hb λhf hr=>V₁.tup λt us et T1 n1 R=>?_
  subst et
  have kk:=aq q.s.heap (slO vl vu)
  have ev:Ev No q.ι q.s.heap q.ι (q.s.heap.push (slO vl vu)):=Ev.keeps No q.ι kk
  have T4:=ev.tup t _ n1 T1
  refine⟨⟨_,_,T1.typeIs,Yt.lookup⟩,rm T4.2 (a0s q.s.heap vl vu .none) pl pu (yW (Wz (R.len▸aN hf) (by decide))) (λhc=>?_) ?_⟩
  ·rw[(pU vs bl bh).eq_of_length ((R.cut bl bh).len.trans ((congrArg a0i hc).trans R.len.symm))]at hr
   exact val hr (C.inv.keeps kk) (T.on ev) (VR.mkTup T4.2 T4.1 (R.up ev))
  ·obtain⟨i1,i2,i3⟩:=lB No (C.inv.keeps kk) ((R.up ev).cut bl bh)
   exact val hr i1 (T.on (ev.trans i2)) i3
 |ref i=>
  refine a8 he hb λo hx hr=>?_
  cases o with
  |lst vs=>exact C.inv.lst hx V₁ λb us k eb ha hlen hl R=>eb▸⟨⟨_,_,hl.isList.typeIs,list_getitem_lookup⟩,mr hl.isList (Wz (pU vs bl bh).length_le hlen) (R.len▸hlen) R pl pu C T hr⟩
  |arg vs=>
   obtain⟨b,eb,ha⟩:=V₁
   cases C.inv.obj i _ b hx ha with |mk hlen us hl R=>
   exact am hr hb λhf hr=>eb▸⟨⟨_,_,hl.typeIs,list_getitem_lookup⟩,mr hl (X8 (aN hf)) (R.len▸hlen) R pl pu C T hr⟩
  |_=>exact(hb hr.symm).elim
 |_=>exact(hb he.symm).elim
theorem Br(S:ce n){x:E}{lo hi:Option E}(C:Cf c (n+1) ρ p)(m:mE c.W c.ns (.slice x lo hi) a=true)(hr:ev c.Γ (n+1) (.slice x lo hi) ρ p.σ=r)(hb:r≠.bad):Ok c No p r VR (WG a c.env):=by
 refine cW m λu y pos m=>?_
 refine CC (motive:=λy=>Ok c No p r VR (WG (.Subscript u y pos) c.env)) m λl w s sp m=>?_
 have m:=ac m
 cases Xo.mp m.1
 have m:=ac m.2
 have m2:=ac m.2
 exact tM (use (S.ev C.down m.1) C hr hb To.refl λ{xv p₁ v₁} _ hr C T _ V₁=>use (S.evO C.down m2.1) C hr hb T λ{ol p₂ vl} _ hr C T t₂ V₂=>use (S.evO C.down m2.2) C hr hb T λ{oh p₃ vu} _ hr C T t₃ V₃=>
  oA hr hb (V₂.up t₃.ev) λbl pl hr=>oA hr hb V₃ λbh pu hr=>sliceV_sound C T ((V₁.up t₂.ev).up t₃.ev) pl pu hr hb)
theorem ay.known{W:Wd}{ι:List Addr}{σ:St}{h:Heap}(I:ay W ι σ h){i k d:Nat}(e:a6 σ i=some (.inst k d)):W.ck k=true:=by
 obtain⟨a,_,x⟩:=I.at e
 cases x with |mk o b g hc hd pl id ck=>exact ck
theorem zG{W:Wd}{m:List Nat}(h:W.an.contains m=true):m∈W.an:=List.elem_iff.mp h
theorem Dm(S:ce n){o:E}{k:List Nat}(C:Cf c (n+1) ρ p)(m:mE c.W c.ns (.attr o k) a=true)(hr:ev c.Γ (n+1) (.attr o k) ρ p.σ=r)(hb:r≠.bad):Ok c No p r VR (WG a c.env):=by
 refine dw m λu nm pos m=>?_
 have m:=ac m
 cases beq_iff_eq.mp m.1
 have m:=ac m.2
 have m2:=ac m.2
 rw[arm_eval_Attribute,cO m2.1]
 refine Wj (use (S.ev C.down m2.2) C hr hb To.refl λ_ hr C T _ V=>?_)
 refine aM hr hb λi ei hr=>Dd hr hb λk d h1 hr=>lp hr hb λes h2 hr=>jM hr hb λy h3 he=>?_
 subst ei
 obtain⟨_,_,_,K⟩:=C.gd.known k (C.inv.known h1)
 exact Wj (Xa (Wj (X3 (AX C.kin K (zG m.1) C.inv h1 h2 h3 V λz tk V=>Wj (ZE (Ws (val he C.inv T.tk V)))))))
end
section
variable{n:Nat}{c:Cx}{ρ:Env}{p q:Pt}{a:Wk}{r:R V}
theorem oH{W:Wd}{A:X7}{env:Wy}{s:Wp}{E:Value->Wp->Prop}{x:Str}{v:Value}{Q:Value->Wp->Prop}(X:W.K.In s.heap)(hg:env.globals=mainGlobals)(hb:env.builtins=builtinsNs)(e:glob W.K x=some v)(h:Q v s):
  wpAny (model W.prog W.w) A (loadGlobal env x) Q E s:=by
 unfold loadGlobal
 rw[hg,hb]
 refine a8 e ad λo hu e=>Wj ((looks_nsIn X hu).here ?_)
 cases o with
 |some u=>exact Wn e▸Ws h
 |none=>
  refine a8 (o:=nsIn W.K builtinsNs x) (k:=λo=>o) e ad λo hv e=>Wj ((looks_nsIn X hv).here ?_)
  have e:o=some v:=e
  exact e▸Ws h
theorem js{E:Value->Wp->Prop}{x:Str}{pos:Pos}{v:Value}{Q:Value->Wp->Prop}(C:Cf c n ρ p)(m:fg c.W c.ns x v=true)(h:Q v p.s):wpAny (model c.W.prog c.W.w) c.A (WG (.Name x pos) c.env) Q E p.s:=
 have m:=vR m
 a0f C.fm.kind (C.kd m.kd) (oH C.kin C.fm.glob C.fm.blt m.gl h) m.db
inductive rx(W:Wd):Value->Prop
 |bi (id:String):rx W (.builtin id)
 |ty (T:String):rx W (.type T)
 |k {f:Value}:keepIn W.K f=true->rx W f
theorem uB{W:Wd}{f:Value}(k:rx W f){M:Model}(h:Heap)(X:W.K.In h):∃k,(k=Keeper.frame\/k=Keeper.machine\/k=Keeper.boundFrame)/\Looks M h (keeperOf f) k:=by
 cases k with
 |bi id=>exact⟨.machine,.inr (.inl rfl),Looks.of_pure rfl⟩
 |ty T=>exact⟨.machine,.inr (.inl rfl),Looks.of_pure rfl⟩
 |k k=>exact keeps_K k h X
theorem sO{env:Wy}{as:List Wk}: (∀a∈as,noStar a=true)->(starEach as env).any (·.1)=false:=by
 induction as with
 |nil=>exact λ_=>rfl
 |cons a as ih=>
  intro h
  rw[bz (h a (.head _))]
  exact ih λb hb=>h b (.tail _ hb)
theorem c6{E:Value->Wp->Prop}{pos:Pos}{f:Value}{first:List Value}{as:List Wk}{s:Wp}{Q:Value->Wp->Prop}(kin:c.W.K.In c.W.h0)(k:rx c.W f)(hs:∀a∈as,noStar a=true)
  (h:wpAny (model c.W.prog c.W.w) c.A (spliced (starEach as c.env)) (λvs s₁=>(∀b o,c.W.h0.get? b=some o->s₁.heap.get? b=some o)/\wpAny (model c.W.prog c.W.w) c.A (call f (first++vs)) Q E s₁) E s):
  wpAny (model c.W.prog c.W.w) c.A (callWith pos f first (backTo pos (starEach as c.env)) (backToKw pos (keywordEach [] c.env))) Q E s:=by
 rw[dj hs]
 refine callWith_of (P:=λh=>∀b o,c.W.h0.get? b=some o->h.get? b=some o) (by rw[sO hs];rfl) (λh X=>uB k h (kin.keeps X)) ?_
 cases as with
 |nil=>exact Wj (WK h (λvs s₁ z=>Wj (Ws (X3 (Wj (Ws (Wj (Ws (Ws z)))))))) λ_ _ z=>z)
 |cons a as=>
  rw[bz (hs a (.head _))]at h ⊢
  exact Calls.evalArgs_plain h
theorem jQ(S:ce n){es:List E}{as:List Wk}{g:Str}{gp pos:Pos}{fv:Value}{f:List V->St->R V}(C:Cf c (n+1) ρ p)(m0:fg c.W c.ns g fv=true)(k:rx c.W fv)(m:lW c.W c.ns es as=true)(hr: (evs c.Γ n es ρ p.σ).bind f=r)(hb:r≠.bad)
  (h:∀{vs:List V} {q:Pt} {us:List Value},evs c.Γ n es ρ p.σ=.ok vs q.σ->f vs q.σ=r->Cf c (n+1) ρ q->To No p q->aB q.ι q.s.heap vs us->wpAny (model c.W.prog c.W.w) c.A (call fv us) (EP c.W No p.ι p.s r VR) (XP c No p r) q.s):
  Ok c No p r VR (WG (.Call (.Name g gp) as [] pos) c.env):=
 Zw (js C m0 (c6 C.gd.kin k (dI m) (use (S.evs C.down m) C hr hb To.refl λe hr C T _ V=>⟨C.inv.base,h e hr C T V⟩)))
theorem CP(S:ce n){f:Nat}{vs:List V}{us:List Value}(C:Cf c (n+1) ρ q)(V:aB q.ι q.s.heap vs us)(hr:callF c.Γ n f vs q.σ=r)(hb:r≠.bad)(T:To No p q):wpAny (model c.W.prog c.W.w) c.A (call (.ref (c.W.fa f)) us) (EP c.W No p.ι p.s r VR) (XP c No p r) q.s:=
 tail (λhb=>a0a (YE (S.callF C.gd C.down.room C.inv C.fx V hb) λr' s' z=>by
  cases r' with
  |ok f=>cases f<;>first|exact z|exact z.elim
  |error e=>exact z)) hr hb T
theorem tO(S:ce n){f:Nat}{vs:List V}{us:List Value}(G:Cs c.W c.Γ)(R₀:hM c.A (n+1))(I:ay c.W p.ι p.σ p.s.heap)(F:Fx c.W c.A c.env c.L c.l p.s.heap)(Vs:aB p.ι p.s.heap vs us)(hr:callF c.Γ (n+1) f vs p.σ=r)(hb:r≠.bad):
  codeAny (model c.W.prog c.W.w) c.A (.call (.ref (c.W.fa f)) ⟨us,[]⟩) (CR c p r) p.s:=by
 refine a8 hr hb λd hf hr=>a8 hr hb λρ hρ hr=>?_
 obtain⟨bd,sc,FO,m⟩:=G.fn f d hf
 refine YE (R:=λr' s'=>match r' with | .ok (.ret v)=>EP c.W No p.ι p.s r VR v s'| .ok _=>False| .error e=>XP c No p r e s') (w1 FO I F.fr F.ffd (X5 (WC _ _) R₀.dp) Vs hρ λenv₁ s₁ F₁ I₁ S₁ ev₁ sm₁ hsc hfr hL hc=>?_) λr' s' z=>by
  cases r' with
  |ok f=>cases f<;>exact z
  |error e=>exact z
 have hfr1: (c.A.deeper env₁).frames=some (env₁::c.l):=ZI F.fr
 have hff:tB c.W s₁.heap (env₁::c.l):=by
  obtain⟨_,_,h1,_,h3⟩:=S₁
  rw[hfr1]at h1
  cases h1
  exact h3
 have C₁:Cf ⟨c.W,c.Γ,c.A.deeper env₁,env₁,sc.names,env₁.locals,env₁::c.l⟩ n ρ ⟨p.ι,p.σ,s₁⟩:=
  ⟨G,R₀.deeper env₁,F₁,I₁,⟨hfr,hfr1,⟨env₁,c.l,rfl,hfr⟩,hff⟩,congrArg Scope.names hsc,I.free hL,λn b h=>I.free (hc n b h)⟩
 have dropX:∀b,Xf env₁ b->No b\/p.s.heap.get? b=none:=λb hb=>hb.elim (λe=>.inr (e▸hL)) λ⟨m,hm⟩=>.inr (hc m b hm)
 have ev₀:Ev (Xf env₁) p.ι p.s.heap p.ι s₁.heap:=ev₁.mono λ_ q=>q.elim
 refine WK (S.exB C₁ m (aE hr hb)) (λfl s₂ z=>?_) λe s₂ z=>?_
 ·obtain⟨⟨fl',ρ'⟩,σ₂,ι₂,e₂,I₂,ev₂,sm₂,hfl⟩:=z
  have hr:=bind_ok (f:=nE) e₂ hr
  have T:To No p ⟨ι₂,σ₂,s₂⟩:=⟨(ev₀.trans ev₂).drop dropX,sm₁.trans sm₂⟩
  have hfl:=hfl.fl
  cases fl' with
  |ret v=>
   obtain⟨u,rfl,V⟩:=hfl
   exact val hr I₂ T V
  |next=>cases hfl;exact val hr I₂ T rfl
  |brk=>exact absurd hr.symm hb
  |cont=>exact absurd hr.symm hb
 ·obtain⟨k,e',h1,rfl,hx,sm₂,xd,dx⟩:=z
  exact xN (L:=env₁.locals) (L':=c.L) hfr1 hfr hfr hx λh' x' d'=>⟨k,e',b8 hr k h1,rfl,x',(sm₁.trans sm₂).trans (Sm.heap s₂ h'),((Xd.after ev₀ xd).drop dropX).then d',(Dx.after ev₁ dx).then d'⟩
theorem Fc(S:ce n){f:Nat}{es:List E}(C:Cf c (n+1) ρ p)(m:mE c.W c.ns (.call f es) a=true)(hr:ev c.Γ (n+1) (.call f es) ρ p.σ=r)(hb:r≠.bad):Ok c No p r VR (WG a c.env):=by
 refine cN m λg gp as pos m=>?_
 have m:=ac m
 have m2:=ac m.2
 exact jQ S C m.1 (.k m2.1) (ac m2.2).1 hr hb λ_ hr C T V=>CP S C V hr hb T
theorem Nd(S:ce n){k:Kd}{x:E}(C:Cf c (n+1) ρ p)(m:mE c.W c.ns (.isi k x) a=true)(hr:ev c.Γ (n+1) (.isi k x) ρ p.σ=r)(hb:r≠.bad):Ok c No p r VR (WG a c.env):=by
 refine cN m λg gp as pos m=>?_
 refine Iz (motive:=λas=>Ok c No p r VR (WG (.Call (.Name g gp) as [] pos) c.env)) m λu e m=>?_
 refine be (motive:=λe=>Ok c No p r VR (WG (.Call (.Name g gp) [u,e] [] pos) c.env)) m λt tp m=>?_
 have m:=ac m
 have m1:=ac m.2
 have m2:=ac m1.2
 have hst:∀b∈[u,Wk.Name t tp],noStar b=true:=λb hb=>by
  cases hb with
  |head=>exact m2.1
  |tail _ h=>
   cases h with
   |head=>rfl
   |tail _ h=>cases h
 refine Zw (js C m.1 (c6 C.gd.kin (.bi _) hst ?_))
 rw[bz m2.1,bz (a:= .Name t tp) rfl]
 refine a0e (use (S.ev C.down m2.2) C hr hb To.refl λ{w q v} _ hr C T _ V=>?_)
 refine a0e (js C m1.1 (Calls.spliced_nil ⟨C.inv.base,?_⟩))
 exact xP V hr hb λb e tk=>val e C.inv T.tk rfl
end
section
variable{n:Nat}{c:Cx}{ρ:Env}{p q:Pt}{a:Wk}{r:R V}
theorem cg{W:Wd}{A:X7}{s:Wp}{ι:List Addr}{E:Value->Wp->Prop}{vs:List V}{us:List Value}{α:Type}{r:R α}{Q:Value->Wp->Prop}{f:V->R α}{g:Value}(hr:r≠.bad)(Vs:aB ι s.heap vs us)(he:l1 vs f .bad=r)
  (k:∀v u,VR ι s.heap v u->f v=r->wpAny (model W.prog W.w) A (call g [u]) Q E s):wpAny (model W.prog W.w) A (call g us) Q E s:=
 eH he hr λv h e=>aB.one (us:=us) (h▸Vs) λu eu V=>eu▸k v u V e
theorem i7{W:Wd}{A:X7}{s:Wp}{ι:List Addr}{σ:St}{E:Value->Wp->Prop}{b:BI}{vs:List V}{us:List Value}{r:R V}(hh:A.handled=none)(I:ay W ι σ s.heap)(Vs:aB ι s.heap vs us)(he:builtin b σ vs=r)(hr:r≠.bad):
  wpAny (model W.prog W.w) A (call (kI b) us) (BP W ι s r) E s:=by
 cases b with
 |len=>exact cg hr Vs he λv u V e=>xR I V e hr
 |tuple=>exact cg hr Vs he λv u V e=>qK I V e hr
 |list=>exact cg hr Vs he λv u V e=>tI I V e hr
 |sorted=>exact cg hr Vs he λv u V e=>qv hh I V e hr
 |sum=>exact cg hr Vs he λv u V e=>yT hh I V e hr
 |str=>exact cg hr Vs he λv u V e=>yq I V e hr
 |max=>
  cases vs with
  |nil=>exact(hr he.symm).elim
  |cons v vs=>
   cases vs with
   |nil=>exact Vs.one λu eu V=>eu▸uR hh I V he hr
   |cons w vs=>
    cases vs with
    |nil=>exact Vs.two λu u2 eu V V2=>eu▸vh hh I V V2 he hr
    |cons _ _=>exact(hr he.symm).elim
 |_=>exact(hr he.symm).elim
theorem vN{W:Wd}(b:BI):rx W (kI b):=by
 cases b<;>first|exact .bi _|exact .ty _
theorem P4(S:ce n){b:BI}{es:List E}(C:Cf c (n+1) ρ p)(m:mE c.W c.ns (.bi b es) a=true)(hr:ev c.Γ (n+1) (.bi b es) ρ p.σ=r)(hb:r≠.bad):Ok c No p r VR (WG a c.env):=by
 refine cN m λg gp as pos m=>?_
 have m:=ac m
 exact jQ S C m.1 (vN b) (ac m.2).1 hr hb λ_ hr C T V=>tail (λhb=>i7 C.room.hh C.inv V rfl hb) hr hb T
theorem xI{b:BI}{es:List E}{vs:List V}{us:List Value}{r:R bA}(C:Cf c (n+1) ρ q)(T:To No p q)(V:aB q.ι q.s.heap vs us)(he:QI b q.σ vs=r)(hb:r≠.bad):
  wpAny (model c.W.prog c.W.w) c.A (call (kI b) us) (EP c.W No p.ι p.s r (wB c.W (cU (.bi b es)) p.s.heap)) (XP c No p r) q.s:=by
 have nw:=Er λb o e=>(T.ev.there b o e).imp λ_ q=>q.1
 have up:∀{g:Value} {zp:Bool},wpAny (model c.W.prog c.W.w) c.A (call g us) (IP c.W zp p.s.heap q.ι q.s r) (XP c No q r) q.s->wpAny (model c.W.prog c.W.w) c.A (call g us) (EP c.W No p.ι p.s r (wB c.W zp p.s.heap)) (XP c No p r) q.s:=λh=>tail (λ_=>h) rfl hb T
 have oth:qe b q.σ vs=r->cU (.bi b es)=false->wpAny (model c.W.prog c.W.w) c.A (call (kI b) us) (EP c.W No p.ι p.s r (wB c.W (cU (.bi b es)) p.s.heap)) (XP c No p r) q.s:=λhr z=>
  use (t:=call (kI b) us) (λhb=>i7 C.room.hh C.inv V rfl hb) C hr hb T λ_ hr C T _ V=>kD C.inv V hr hb λsrc e R=>val e C.inv T R
 cases b with
 |reversed=>exact up (cg hb V he λv u V e=>ut nw C.inv V e hb)
 |range=>exact up (cg hb V he λv u V e=>uQ C.inv V e hb)
 |zip=>
  cases vs with
  |nil=>exact(hb he.symm).elim
  |cons v vs=>exact up (eH he hb λw ew e=>aB.two (us:=us) (ew▸V) λu1 u2 eu V1 V2=>eu▸uO nw C.inv V1 V2 e hb)
 |_=>exact oth he rfl
theorem yv(S:ce n){e:E}{r:R bA}(C:Cf c (n+1) ρ p)(m:mE c.W c.ns e a=true)(hr:evIt c.Γ (n+1) e ρ p.σ=r)(hb:r≠.bad):Ok c No p r (wB c.W (cU e) p.s.heap) (WG a c.env):=by
 have gen: ((ev c.Γ n e ρ p.σ).bind λv σ=>kA σ v)=r->Ok c No p r (wB c.W (cU e) p.s.heap) (WG a c.env):=λhr=>
  use (S.ev C.down m) C hr hb To.refl λ_ hr C T _ V=>kD C.inv V hr hb λsrc e R=>val e C.inv T R
 cases e with
 |bi b es=>
  refine cN m λg gp as pos m=>?_
  have m:=ac m
  exact Zw (js C m.1 (c6 C.gd.kin (vN b) (dI (ac m.2).1) (use (S.evs C.down (ac m.2).1) C hr hb To.refl λ{vs q us} _ hr C T _ V=>⟨C.inv.base,xI C T V hr hb⟩)))
 |_=>exact gen hr
end
section
variable{n:Nat}{c:Cx}{ρ:Env}{p q:Pt}{a:Wk}{r:R V}
theorem hM.make{A:X7}{C:Addr}{rest:List Value}(r:hM A (n+1)):hM (A.under (.builtin "type.__call__" ⟨.ref C::rest,[]⟩)) n:=by
 have hw: (Code.builtin "type.__call__" ⟨.ref C::rest,[]⟩).weight=1:=rfl
 have hu: (Code.builtin "type.__call__" ⟨.ref C::rest,[]⟩).cUnits=1:=rfl
 have h1:=r.dp
 have h2:=r.un
 refine⟨r.hh,?_,?_⟩
 ·show A.depth+(Code.builtin "type.__call__" ⟨.ref C::rest,[]⟩).weight+n<_
  rw[hw,Xm,Nat.add_comm 1]
  exact h1
 ·show A.units+(Code.builtin "type.__call__" ⟨.ref C::rest,[]⟩).cUnits+8*n+200<_
  rw[hu]
  exact X5 (YY (show A.units+1+8*n<=A.units+8*(n+1)by omega) 200) h2
structure RL(c:Cx)(p:Pt)(k:Nat)(D O:Addr)(q:Pt):Prop where
 inv:ay c.W q.ι q.σ q.s.heap
 to:To No p q
 at_:q.ι[p.σ.length+1]?=some O
theorem zL{k:Nat}(I:ay c.W p.ι p.σ p.s.heap)(hk:c.W.ck k=true):RL c p k p.s.heap.objs.size (p.s.heap.objs.size+1) ⟨p.ι++[p.s.heap.objs.size]++[p.s.heap.objs.size+1],p.σ++[.sd [],.inst k p.σ.length],{p.s with heap:=(p.s.heap.push emptyDict).push (instObj (c.W.ca k) p.s.heap.objs.size)}⟩:=by
 have k1:=aq p.s.heap emptyDict
 have I₂:ay c.W (p.ι++[p.s.heap.objs.size]) (p.σ++[.sd []]) (p.s.heap.push emptyDict):=I.new k1 (aw _) (DR.mk [] (Heap.DictOf.new _) trivial)
 have hsz: (p.s.heap.push emptyDict).objs.size=p.s.heap.objs.size+1:=Y1 ..
 have k2:=aq (p.s.heap.push emptyDict) (instObj (c.W.ca k) p.s.heap.objs.size)
 have hn2: (p.s.heap.push emptyDict).get? (p.s.heap.objs.size+1)=none:=by rw[<-hsz];exact aw _
 have hin: ((p.s.heap.push emptyDict).push (instObj (c.W.ca k) p.s.heap.objs.size)).get? (p.s.heap.objs.size+1)=some (instObj (c.W.ca k) p.s.heap.objs.size):=by rw[<-hsz];exact WA _ rfl
 have hι: (p.ι++[p.s.heap.objs.size]++[p.s.heap.objs.size+1])[p.σ.length]?=some p.s.heap.objs.size:=by rw[<-I.len,WE (by rw[Wu];exact XB _)];exact aP _ _
 have hl: (p.ι++[p.s.heap.objs.size]).length=p.σ.length+1:=by rw[Wu,I.len];rfl
 have I₃:=I₂.new k2 hn2 (o:= .inst k p.σ.length) (RK.mk _ _ hin rfl rfl rfl hι hk)
 rw[Xb p.σ]at I₃
 exact⟨I₃,⟨(Ev.new No p.ι k1 (aw _)).trans (Ev.new No _ k2 hn2),Sm.heap p.s _⟩,hl▸aP _ _⟩
theorem IO(S:ce n){k:Nat}{es:List E}(C:Cf c (n+1) ρ p)(m:mE c.W c.ns (.new k es) a=true)(hr:ev c.Γ (n+1) (.new k es) ρ p.σ=r)(hb:r≠.bad):Ok c No p r VR (WG a c.env):=by
 refine cN m λg gp as pos m=>?_
 have m:=ac m
 have m2:=ac m.2
 refine jQ S C m.1 (.k m2.1) (ac m2.2).1 hr hb λ{vs q us} _ hr C T V=>?_
 refine au hr (λ_ h=>(hb h.symm).elim) λh2 hr=>a8 hr hb λd hd hr=>?_
 have hck:=C.gd.cls k d hd (Xp h2)
 obtain⟨d',hd',_,K⟩:=C.gd.known k hck
 cases hd.symm.trans hd'
 have N:=zL (k:=k) C.inv hck
 refine a0a (make_core (makes_of C.kin K.mks) (a00 C.kin K.ini.1) (λself=>bind_fn C.kin self K.ini.2) (.inl rfl) ?_)
 have F:=C.fx.up N.to.ev
 refine YE (S.callF (c:={c with A:=c.A.under (.builtin "type.__call__" ⟨.ref (c.W.ca k)::us,[]⟩)}) (vs:= .ref (q.σ.length+1)::vs) C.gd C.room.make N.inv ⟨F.own,F.fr,F.top,F.ffd⟩ (XM ⟨_,rfl,N.at_⟩ (V.up N.to.ev)) (aE hr hb)) λy s₂ z=>?_
 cases y with
 |error e=>
  obtain⟨k,e,h1,h2,h3,h4,h5,h6⟩:=z
  exact XP.after (T.trans N.to) ⟨k,e,b8 hr k h1,h2,h3,h4,h5,h6⟩
 |ok fl=>
  cases fl with
  |ret v=>
   obtain⟨x,σ₂,ι₂,e₂,I₂,ev₂,sm₂,V₂⟩:=z
   refine e8 (bind_ok e₂ hr) hb λex hr=>?_
   subst ex
   cases V₂
   exact⟨rfl,val hr I₂ ((T.trans N.to).trans ⟨ev₂,sm₂⟩) ⟨_,rfl,ev₂.pre _ _ N.at_⟩⟩
  |_=>exact z.elim
theorem xr{E':Value->Wp->Prop}{A:X7}{W:Wd}{env:Wy}{s:Wp}{p:Wk}{nm:Str}{ap pos:Pos}{as:List Wk}{Q:Value->Wp->Prop}(hb:cX p=true)(hs:∀a∈as,noStar a=true)(hl:as.length<20)(hline: (ap.endLine==pos.line)=true)
  (h:wpAny (model W.prog W.w) A (WG p env) (λov s₁=>∀pl,wpAny (model W.prog W.w) A (getMethod ov nm pl) (λfr s₂=>wpAny (model W.prog W.w) A (callWith pos fr.1 fr.2 (backTo pos (starEach as env)) (backToKw pos (keywordEach [] env))) Q E' s₂) E' s₁) E' s):
  wpAny (model W.prog W.w) A (WG (.Call (.Attribute p nm ap) as [] pos) env) Q E' s:=by
 rw[arm_eval_Call,cO hb]
 refine Wj (WK h (λov s₁ h₁=>Wj (Xa ?_)) λ_ _ e=>e)
 have hall: (backTo pos (starEach as env)).all (λx=> !x.1)=true:=by
  rw[dj hs,List.all_eq_not_any_not]
  have:=sO (env:=env) hs
  simpa using this
 have hform:methodCallForm (as.length+([]:List Keyword).length) (backTo pos (starEach as env)) (backToKw pos (keywordEach [] env))=true:=by
  unfold methodCallForm
  rw[hall,show backToKw pos (keywordEach [] env)=[]from rfl]
  simp
  omega
 have hpos:methodCallPos true p env ap pos=pure pos:=by unfold methodCallPos;rw[hline];rfl
 unfold methodCall
 rw[hform]
 exact Wj (X3 (WK (h₁ _) (λfr s₂ z=>Wj (Y2 hpos z)) λ_ _ e=>e))
end
section
variable{n:Nat}{c:Cx}{ρ:Env}{p q:Pt}{a:Wk}{r:R V}
theorem xy{ms:List (List Nat × Nat)}{m:List Nat}{f:Nat}:EC ms m=some f->(m,f)∈ms:=by
 induction ms with
 |nil=>exact λh=>absurd h.symm ad
 |cons p r ih=>exact λh=>au (b:=bp p.1 m) (t:=some p.2) (e:=EC r m) h (λq e=>eqN_eq q▸Wn e▸ .head _) λ_ e=>.tail _ (ih e)
theorem iA(S:ce n){es:List E}{as:List Wk}{pos:Pos}{g:Value}{first:List Value}{f:List V->St->R V}(C:Cf c (n+1) ρ q)(k:rx c.W g)(m:lW c.W c.ns es as=true)(hr: (evs c.Γ n es ρ q.σ).bind f=r)(hb:r≠.bad)(T:To No p q)
  (h:∀{vs:List V} {q₂:Pt} {us:List Value},f vs q₂.σ=r->Cf c (n+1) ρ q₂->To No p q₂->To No q q₂->aB q₂.ι q₂.s.heap vs us->wpAny (model c.W.prog c.W.w) c.A (call g (first++us)) (EP c.W No p.ι p.s r VR) (XP c No p r) q₂.s):
  wpAny (model c.W.prog c.W.w) c.A (callWith pos g first (backTo pos (starEach as c.env)) (backToKw pos (keywordEach [] c.env))) (EP c.W No p.ι p.s r VR) (XP c No p r) q.s:=
 c6 C.gd.kin k (dI m) (use (S.evs C.down m) C hr hb T λ_ hr C T t V=>⟨C.inv.base,h hr C T t V⟩)
theorem Ax(S:ce n){mm:List Nat}{es:List E}{as:List Wk}{x:List Nat}{pos:Pos}{pl:Sem Bool}{ov:Value}(C:Cf c (n+1) ρ q)(T:To No p q)(V:VR q.ι q.s.heap (.str x) ov)(m:lW c.W c.ns es as=true)(hb:r≠.bad)
  (hr:gd (bp x [97,98,99,100]&&bp mm [105,110,100,101,120]) ((evs c.Γ n es ρ q.σ).bind λvs σ=>l1 vs (GE x σ) .bad)=r):
  wpAny (model c.W.prog c.W.w) c.A (getMethod ov (af mm) pl) (λfr s₂=>wpAny (model c.W.prog c.W.w) c.A (callWith pos fr.1 fr.2 (backTo pos (starEach as c.env)) (backToKw pos (keywordEach [] c.env))) (EP c.W No p.ι p.s r VR) (XP c No p r) s₂) (XP c No p r) q.s:=by
 refine am hr hb λhc hr=>?_
 have hc:=ac hc
 rw[eqN_eq hc.1]at V hr
 rw[eqN_eq hc.2]
 obtain⟨t,rfl⟩:=V
 refine YR (typeIs_str _ _ _) F.plainAttrs_str F.slot_str_index F.type_str_index (λ_ e=>nomatch e) (iA S C (.bi _) m hr hb T λ{vs q₂ us} hr1 C T _ V=>eH hr1 hb λv ev hr2=>cS hr2 hb λx ex hr3=>eH hr3 hb λd ed hr4=>a8 hr4 hb λk hk hr5=>aB.one (us:=us) (ev▸V) λu eu Vu=>?_)
 subst ex ed eu
 obtain⟨t',rfl⟩:=Vu
 exact rI hk (val hr5 C.inv T.tk ⟨_,rfl⟩)
theorem Ch{α β:Type}{o:Option β}{d e r:α}{P:Prop}(h:opt o (λ_=>d) e=r)(n:r≠d)(f:o=none->e=r->P):P:=by cases o with |none=>exact f rfl h|some a=>exact(n h.symm).elim
theorem Ck(S:ce n){mm:List Nat}{es:List E}{as:List Wk}{i:Nat}{o:O}{pos:Pos}{pl:Sem Bool}{ov:Value}(C:Cf c (n+1) ρ q)(T:To No p q)(V:VR q.ι q.s.heap (.ref i) ov)(m:lW c.W c.ns es as=true)(hb:r≠.bad)(hx:a6 q.σ i=some o)
  (hr:ub c.Γ (lw c.Γ n) i mm es ρ q.σ o=r):
  wpAny (model c.W.prog c.W.w) c.A (getMethod ov (af mm) pl) (λfr s₂=>wpAny (model c.W.prog c.W.w) c.A (callWith pos fr.1 fr.2 (backTo pos (starEach as c.env)) (backToKw pos (keywordEach [] c.env))) (EP c.W No p.ι p.s r VR) (XP c No p r) s₂) (XP c No p r) q.s:=by
 cases o with
 |lst l0=>
  exact am hr hb λhm hr=>C.inv.lst hx V λb ws k eb ha hlen hl R=>eb▸tH hm hl (iA S C (.bi _) m (f:=λvs σ=>atL σ i (λl=>iG σ i l mm vs) .bad) hr hb T λ{vs q₂ us} hr C T t V₂=>aZ hr hb λl2 hx2 hr=>
   tail (λhb=>qn C.inv hx2 (eb▸V.up t.ev) V₂ rfl hb) hr hb T)
 |inst k d=>
  obtain⟨kd,hk,_,K⟩:=C.gd.known k (C.inv.known hx)
  refine a8 hr hb λkd' hk' hr=>a8 hr hb λf h1 hr=>lp hr hb λats h2 hr=>Ch hr hb λh3 h5=>?_
  cases hk.symm.trans hk'
  have hmem:=xy h1
  exact BF C.kin K hmem C.inv hx h2 h3 V (iA S C (.k (K.mth _ hmem).2.2) m (f:=λvs σ=>callF c.Γ n f (.ref i::vs) σ) h5 hb T λ{vs q₂ us} hr C T t V₂=>CP S (vs:= .ref i::vs) (us:=ov::us) C (XM (V.up t.ev) V₂) hr hb T)
 |_=>exact(hb hr.symm).elim
theorem EA(S:ce n){o:E}{mm:List Nat}{es:List E}(C:Cf c (n+1) ρ p)(m:mE c.W c.ns (a0J o mm es) a=true)(hr:ev c.Γ (n+1) (a0J o mm es) ρ p.σ=r)(hb:r≠.bad):Ok c No p r VR (WG a c.env):=by
 refine cH m λf as kw pos m=>?_
 have m:=ac m
 cases X6.mp m.1
 refine dw (motive:=λf=>Ok c No p r VR (WG (.Call f as [] pos) c.env)) m.2 λu nm ap m=>?_
 have m:=ac m
 cases beq_iff_eq.mp m.1
 have m:=ac m.2
 have m2:=ac m.2
 have m3:=ac m2.2
 have m4:=ac m3.2
 refine xr m.1 (dI m4.1) (Wl m4.2) m2.1 (use (S.ev C.down m3.1) C hr hb To.refl λ{x q ov} _ hr C T _ V pl=>?_)
 cases x with
 |str x=>exact Ax S C T V m4.1 hb hr
 |ref i=>exact a8 hr hb λo hx hr=>Ck S C T V m4.1 hb hx hr
 |_=>exact(hb hr.symm).elim
end
section
variable{W:Wd}{ι:List Addr}{σ:St}
theorem mz{n:List Nat}{x:V}{p:List Nat × V}{es:List (List Nat × V)}:bw (p::es) n x=tf (bp p.1 n) ((p.1,x)::es) (p::bw es n x):=rfl
theorem yH{n:List Nat}{x:V}{a:Str}{es:List (List Nat × V)}:a∈i9 (bw es n x)->a=af n\/a∈i9 es:=by
 induction es with
 |nil=>exact λh=>(WJ.mp h).imp id λh=>absurd h WT
 |cons p es ih=>
  intro h
  rw[mz]at h
  cases q:bp p.1 n with
  |true=>rw[q]at h;exact .inr h
  |false=>
   rw[q]at h
   exact(WJ.mp h).elim (λe=>.inr (e▸ .head _)) λh=>(ih h).imp id (.tail _)
theorem qB{n:List Nat}{x:V}{es:List (List Nat × V)}: (i9 es).Nodup->(i9 (bw es n x)).Nodup:=by
 induction es with
 |nil=>exact λ_=>Y9.mpr ⟨WT,Yw⟩
 |cons p es ih=>
  intro h
  rw[mz]
  cases q:bp p.1 n with
  |true=>exact h
  |false=>
   have h':=Y9.mp h
   exact Y9.mpr ⟨λhm=>(yH hm).elim (λe=>Ww (q.symm.trans (dU.mpr (gM e)))) h'.1,ih h'.2⟩
theorem CM{h:Heap}{ks:List (List Nat)}:∀{vs:List V} {us:List Value} {es:List (List Nat × V)} {ws:List Value},ks.length=vs.length->aB ι h vs us->(i9 es).Nodup->aB ι h (xw es) ws->
  ∃zs,merged ((i9 es).zip ws) ((ks.map af).zip us)=(i9 (nD ks vs es)).zip zs/\aB ι h (xw (nD ks vs es)) zs:=by
 induction ks with
 |nil=>exact λ{_ _ _ ws} _ _ _ V0=>⟨ws,rfl,V0⟩
 |cons k ks ih=>
  intro vs us es ws e H hn V0
  cases vs with
  |nil=>exact nomatch e
  |cons v vs=>
  refine H.cons λu us eu V Hr=>?_
  subst eu
  cases zZ (n:=k) V hn V0 with |mk zs h1 h2 _=>
  refine(ih (us:=us) (es:=bw es k v) (ws:=zs) (YZ e) Hr (qB hn) h2).imp λzs' g=>⟨?_,g.2⟩
  show merged (stored ((i9 es).zip ws) (af k) u) ((ks.map af).zip us)=_
  rw[h1]
  exact g.1
theorem md{k:List Nat}{ks:List (List Nat)}{keys:List (Option Wk)}{P:Prop}(h:lJ (k::ks) keys=true)(f:∀e es,keys=e::es->Ou k e=true->lJ ks es=true->P):P:=by
 cases keys with
 |nil=>exact fnt h
 |cons e es=>exact f e es rfl (ac h).1 (ac h).2
theorem uH{ks:List (List Nat)}:∀{keys:List (Option Wk)},lJ ks keys=true->keys.all (·.isSome)=true:=by
 induction ks with
 |nil=>exact λh=>by cases X6.mp h;rfl
 |cons k ks ih=>
  refine λh=>md h λe es ee h1 h2=>?_
  subst ee
  cases e with
  |none=>exact fnt h1
  |some e=>exact ih (keys:=es) h2
theorem mK{h h':Heap}{d:Addr}(hnt:∀vs,¬ h.IsTuple d vs)(hs:WY d h h'):hF ι h (ι++[d]) h':=λa vs hn z=>by
 have hne:a≠d:=λe=>hnt vs (e▸z)
 exact⟨λhm=>(X1.mp hm).elim hn λhm=>hne (WF.mp hm),z.imp λq w=>⟨(hs.2 a hne).trans w.1,w.2⟩⟩
theorem ay.adopt{h h':Heap}{d:Addr}{o:O}(I:ay W ι σ h)(hnt:∀vs,¬ h.IsTuple d vs)(hd:d∉ι)(h0:W.h0.get? d=none)(hs:WY d h h')(ho:OR W (ι++[d]) h' d o):
  ay W (ι++[d]) (σ++[o]) h':=by
 refine⟨by rw[Wu,Wu,I.len];rfl,Zl.mpr ⟨I.nd,by simp,λb hb c hc e=>hd (WF.mp hc▸e▸hb)⟩,I.big,λi q b e1 e2 na=>?_,λb q hb=>(hs.2 b λe=>ka h0 (e▸hb)).trans (I.base b q hb),λi q b e1 e2=>?_⟩
 ·exact lx I.len e1 e2 (λe1 e2=>I.up i q b e1 e2 na) λ_ e=>e▸h0
 ·exact lx I.len e1 e2 (λe1 e2=>(I.obj i q b e1 e2).mono (λj c e=>(WE (Wv.mp e).1).trans e) (λz hz=>(hs.2 b λe=>hd (e▸WN e2)).trans hz) (mK hnt hs)) λep eb=>ep▸eb▸ho
theorem Ev.adopt{ι₁:List Addr}{h h₁ h':Heap}{d:Addr}(ev:Ev No ι h ι₁ h₁)(hf:h.get? d=none)(hs:WY d h₁ h'):Ev No ι h (ι₁++[d]) h':=by
 have ne:∀{a o},h.get? a=some o->a≠d:=λe q=>by subst q;rw[hf]at e;cases e
 refine⟨λi a e=>by rw[WE (Wv.mp (ev.pre i a e)).1];exact ev.pre i a e,λa o e hn hX=>(hs.2 a (ne e)).trans (ev.keep a o e hn hX),λa ha=>?_,λa vs hn ⟨o,e,r⟩=>?_,λa o e=>?_⟩
 ·rcases X1.mp ha with ha|ha
  ·exact ev.fresh a ha
  ·rw[WF.mp ha];exact .inr hf
 ·obtain⟨h1,o',e',r'⟩:=ev.tup a vs hn ⟨o,e,r⟩
  refine⟨λhm=>?_,o',(hs.2 a (ne e)).trans e',r'⟩
  rcases X1.mp hm with hm|hm
  ·exact h1 hm
  ·exact ne e (WF.mp hm)
 ·obtain⟨o',e',d'⟩:=ev.there a o e
  exact⟨o',(hs.2 a (ne e)).trans e',d'⟩
theorem aB.adopt{h h':Heap}{d:Addr}{xs:List V}{us:List Value}(x:aB ι h xs us)(hnt:∀vs,¬ h.IsTuple d vs)(hs:WY d h h'):aB (ι++[d]) h' xs us:=
 x.mono (λj c e=>(WE (Wv.mp e).1).trans e) (mK hnt hs)
end
section
variable{n:Nat}{c:Cx}{ρ:Env}{p q:Pt}{a:Wk}{r:R V}
inductive RD(W:Wd)(ks:List (List Nat))(ι:List Addr)(h:Heap)(vs:List V)(prs:List (Value × Value)):Prop
 |mk (us:List Value):aB ι h vs us->Carries (sK W) prs ((ks.map af).zip us)->ks.length=vs.length->RD W ks ι h vs prs
theorem DD{h:Heap}{a:Addr}{es:Array a0w}(hold:h.get? a=some {cls:= .type "dict",data:= .dict es}):∀vs,¬ h.IsTuple a vs:=λvs z=>by
 obtain⟨o,ho,hc,_⟩:=z
 rw[hold]at ho
 cases ho
 exact absurd hc (by simp)
theorem yh{n:Nat}:∀(_:∀k,k<n->ce k) {p:Pt} {ks:List (List Nat)} {keys:List (Option Wk)} {es:List E} {as:List Wk} {pos:Pos} {r:R (List V)},Cf c n ρ p->
  lJ ks keys=true->lW c.W c.ns es as=true->keys.length=as.length->evs c.Γ n es ρ p.σ=r->r≠.bad->Ok c No p r (RD c.W ks) (evalPairs (pairTrees keys as c.env pos)):=by
 induction n with
 |zero=>exact λ_ _ _ _ _ _ _ _ _ _ _ _ hr hb=>(hb hr.symm).elim
 |succ n ih=>
  intro S p ks keys es as pos r C mk hm hl hr hb
  cases es with
  |nil=>
   rw[e7 hm]at hl ⊢
   cases Xc hl
   cases ks with
   |cons _ _=>exact fnt mk
   |nil=>exact Ws (val hr C.inv To.refl ⟨[],trivial,trivial,rfl⟩)
  |cons e es=>
  refine c9 hm λa as ea _ me m=>?_
  subst ea
  cases ks with
  |nil=>rw[X6.mp mk]at hl;exact nomatch hl
  |cons k ks=>
  refine md mk λkey keys ek mk1 mk2=>?_
  subst ek
  refine iC (motive:=λkey=>Ok c No p r (RD c.W (k::ks)) (evalPairs (pairTrees (key::keys) (a::as) c.env pos))) mk1 λkey mk1=>?_
  refine lH (motive:=λkey=>Ok c No p r (RD c.W (k::ks)) (evalPairs (pairTrees (some key::keys) (a::as) c.env pos))) mk1 λcc x y mk1=>?_
  cases cc with
  |str s=>
   cases beq_iff_eq.mp mk1
   refine pairTrees_cons_walk (wpAny_Constant_str ?_)
   exact use (q:=⟨p.ι,p.σ,{p.s with toks:=p.s.toks+1}⟩) ((S n (XB n)).ev C.tk.down me) C.tk hr hb To.refl.tk λ_ hr C T _ V₁=>
    use (λhb=>ih (λk hk=>S k (Y4 hk)) C.down mk2 m (YZ hl) rfl hb) C hr hb T λ_ hr C T t Z=>by
     cases Z with |mk us V₂ Ca hlen=>
     exact val hr C.inv T ⟨_::us,XM (V₁.up t.ev) V₂,⟨pv c.W k _,rfl,Ca⟩,congrArg WU hlen⟩
  |_=>exact fnt mk1
theorem Hm(S:∀k,k<=n->ce k){ks:List (List Nat)}{es:List E}(C:Cf c (n+1) ρ p)(m:mE c.W c.ns (.dct ks es) a=true)(hr:ev c.Γ (n+1) (.dct ks es) ρ p.σ=r)(hb:r≠.bad):Ok c No p r VR (WG a c.env):=by
 refine rJ m λkeys as pos m=>?_
 have m:=ac m
 have m2:=ac m.2
 have m3:=ac m2.2
 have hl:=Wq m2.1
 have kp:=aq p.s.heap {cls:= .type "dict",data:= .dict #[]}
 have hnew:=aw p.s.heap
 have hobj: (p.s.heap.push {cls:= .type "dict",data:= .dict #[]}).get? p.s.heap.objs.size=some {cls:= .type "dict",data:= .dict #[]}:=WA _ rfl
 have I₀:=C.inv.keeps kp
 have ev₀:Ev No p.ι p.s.heap p.ι (p.s.heap.push {cls:= .type "dict",data:= .dict #[]}):=Ev.keeps No p.ι kp
 have hout:=C.inv.out hnew
 have fin:∀{vs:List V} {q:Pt} {us:List Value} {h':Heap} {tk:Tok},.ok (.ref q.σ.length) (q.σ++[.sd (nD ks vs [])])=r->ay c.W q.ι q.σ q.s.heap->To No ⟨p.ι,p.σ,{p.s with heap:=p.s.heap.push {cls:= .type "dict",data:= .dict #[]}}⟩ q->aB q.ι q.s.heap vs us->ks.length=vs.length->
   h'.DictOf (sK c.W) p.s.heap.objs.size (merged [] ((ks.map af).zip us))->WY p.s.heap.objs.size q.s.heap h'->EP c.W No p.ι p.s r VR (.ref p.s.heap.objs.size) {q.s with heap:=h',toks:=tk}:=λ{vs q us h' tk} hr I T V hlen D' hs'=>by
  have hold:=T.ev.keep _ _ hobj hout (λq=>q)
  have hnt:=DD hold
  obtain⟨zs,z1,z2⟩:=CM (es:=[]) (ws:=[]) hlen (V.adopt hnt hs') Yw trivial
  have z1:merged [] ((ks.map af).zip us)=(i9 (nD ks vs [])).zip zs:=z1
  rw[z1]at D'
  have I₂:=I.adopt (o:= .sd (nD ks vs [])) hnt (T.ev.out hobj hout) (C.inv.free hnew) hs' (DR.mk zs D' z2)
  exact val hr I₂ ⟨(ev₀.trans T.ev).adopt hnew hs',(Sm.heap p.s _).trans (T.sm.trans (Sm.mk' q.s h' tk))⟩ ⟨_,rfl,I.len▸aP _ _⟩
 cases keys with
 |nil=>
  cases Xc hl.symm
  cases es with
  |cons _ _=>exact fnt m3.1
  |nil=>
  cases ks with
  |cons _ _=>exact fnt m.1
  |nil=>
  cases n with
  |zero=>exact absurd hr.symm hb
  |succ n=>exact wpAny_Dict_empty (fin (q:=⟨p.ι,p.σ,{p.s with heap:=p.s.heap.push {cls:= .type "dict",data:= .dict #[]}}⟩) (vs:=[]) (us:=[]) hr I₀ To.refl trivial rfl (Heap.DictOf.new _) (.refl ..))
 |cons key keys=>
  refine wpAny_Dict_walk (knd:=sK c.W) (uH m.1) hl (List.cons_ne_nil _ _) (by have:=Wl m3.2;omega) ?_
  have C₀:Cf c (n+1) ρ ⟨p.ι,p.σ,{p.s with heap:=p.s.heap.push {cls:= .type "dict",data:= .dict #[]}}⟩:=C.up I₀ ev₀
  refine use (q:=⟨p.ι,p.σ,{p.s with heap:=p.s.heap.push {cls:= .type "dict",data:= .dict #[]}}⟩) (λhb=>yh (λk hk=>S k (Y0 hk)) C₀.down m.1 m3.1 hl rfl hb) C₀ hr hb ⟨ev₀,Sm.heap p.s _⟩ λ_ hr C T t Z=>?_
  obtain⟨us,V,Ca,hlen⟩:=Z
  exact⟨_,Ca,⟨_,#[],0,t.ev.keep _ _ hobj hout (λq=>q),⟨rfl,rfl,rfl⟩,rfl,λe he=>absurd he (Array.not_mem_empty e),.nil,Yw⟩,λh' D' hs'=>fin hr C.inv t V hlen D' hs'⟩
end
noncomputable def bY(cells:List (Str × Addr)):Nms->List (Str × Addr)->List (Str × Addr)
 | [],acc=>acc
 | (n,k)::r,acc=>if k== .free then(match cells.lookup n with |some c=>bY cells r ((n,c)::acc)|none=>bY cells r acc)else bY cells r acc
theorem iH{env:Wy}:∀{names:Nms} {acc:List (Str × Addr)},(∀y∈names,y.2=.free->∃c,env.cells.lookup y.1=some c)->
  (forIn names acc λx (cs:List (Str × Addr))=>(match x with
   | (name,kind)=>if kind== .free then(do let a<-cellOf env name;pure (Yc ((name,a)::cs)))else pure (Yc cs):Sem (ForInStep (List (Str × Addr)))))=pure (bY env.cells names acc)
 | [],acc,_=>by simp[bY]
 | (n,k)::r,acc,h=>by
  rw[Yp]
  have hr:∀y∈r,y.2=.free->∃c,env.cells.lookup y.1=some c:=λy hy=>h y (WZ _ hy)
  by_cases hk: (k==YK)=true
  ·obtain⟨c,hc⟩:=h (n,k) Xr (beq_iff_eq.mp hk)
   dsimp only at hc ⊢
   rw[if_pos hk]
   have:cellOf env n=pure c:=by unfold cellOf;rw[hc]
   rw[this,Zj,Zj]
   dsimp only
   rw[iH hr]
   conv=>rhs;unfold bY
   rw[if_pos hk,hc]
  ·dsimp only
   rw[if_neg hk,Zj]
   dsimp only
   rw[iH hr]
   conv=>rhs;unfold bY
   rw[if_neg hk]
theorem nT{scope:Scope}{env:Wy}(h:∀y∈scope.names,y.2=.free->∃c,env.cells.lookup y.1=some c):closureFor scope env=pure (bY env.cells scope.names []):=by
 unfold closureFor
 exact(bind_pure _).trans (iH (env:=env) (acc:=[]) h)
theorem gO{cells:List (Str × Addr)}:∀{names:Nms} {acc:List (Str × Addr)} {p:Str × Addr},p∈bY cells names acc->p∈acc\/((p.1,YK)∈names/\cells.lookup p.1=some p.2)
 | [],_,_,h=>.inl h
 | (n,k)::r,acc,p,h=>by
  unfold bY at h
  split at h
  ·rename_i hk
   have hkf:k=.free:=beq_iff_eq.mp hk
   subst hkf
   split at h
   ·rename_i c hc
    rcases gO h with h|h
    ·rcases WJ.mp h with rfl|h
     ·exact .inr ⟨Xr,hc⟩
     ·exact .inl h
    ·exact .inr ⟨WZ _ h.1,h.2⟩
   ·exact(gO h).imp_right λh=>⟨WZ _ h.1,h.2⟩
  ·exact(gO h).imp_right λh=>⟨WZ _ h.1,h.2⟩
theorem gL{cells:List (Str × Addr)}:∀{names:Nms} {acc:List (Str × Addr)} {p:Str × Addr},p∈acc->p∈bY cells names acc
 | [],_,_,h=>h
 | (n,k)::r,acc,p,h=>by
  unfold bY
  split
  ·split
   ·exact gL (WZ _ h)
   ·exact gL h
  ·exact gL h
theorem jb{cells:List (Str × Addr)}{n:Str}{c:Addr}(hc:cells.lookup n=some c):∀{names:Nms} {acc:List (Str × Addr)},(n,YK)∈names->(n,c)∈bY cells names acc
 | [],_,h=>nomatch h
 | (m,k)::r,acc,h=>by
  unfold bY
  rcases WJ.mp h with e|h
  ·cases e
   rw[if_pos (by rfl),hc]
   exact gL Xr
  ·split
   ·split
    ·exact jb hc h
    ·exact jb hc h
   ·exact jb hc h
theorem bQ{α:Type}:∀{l:List (Str × α)} {n:Str} {c:α},l.lookup n=some c->(n,c)∈l:=λh=>dN h
theorem kj{α:Type}:∀{l:List (Str × α)} {n:Str} {c:α},(n,c)∈l->∃d,l.lookup n=some d
 | [],_,_,h=>nomatch h
 | (m,d)::r,n,c,h=>by
  rw[XY]
  by_cases q: (n==m)=true
  ·rw[q];exact⟨d,rfl⟩
  ·have hq: (n==m)=false:=by simpa using q
   rw[hq]
   rcases WJ.mp h with e|h
   ·cases e;simp at q
   ·exact kj h
theorem dM{cells:List (Str × Addr)}{names:Nms}{n:Str}{c:Addr}(h: (bY cells names []).lookup n=some c):cells.lookup n=some c/\(n,YK)∈names:=by
 rcases gO (bQ h)with q|q
 ·cases q
 ·exact⟨q.2,q.1⟩
theorem dY{cells:List (Str × Addr)}(ap:cells.Pairwise λx y=>x.2≠y.2):∀{names:Nms} {acc:List (Str × Addr)},(names.map (·.1)).Nodup->(∀p∈acc,p.1∉names.map (·.1)/\cells.lookup p.1=some p.2)->(acc.Pairwise λx y=>x.2≠y.2)->
  (bY cells names acc).Pairwise λx y=>x.2≠y.2
 | [],_,_,_,h=>h
 | (n,k)::r,acc,hn,ha,h=>by
  have hn':n∉r.map (·.1)/\(r.map (·.1)).Nodup:=Y9.mp hn
  unfold bY
  split
  ·split
   ·rename_i c hc
    refine dY ap hn'.2 (λp hp=>?_) ?_
    ·rcases WJ.mp hp with rfl|hp
     ·exact⟨hn'.1,hc⟩
     ·exact⟨λq=>(ha p hp).1 (WZ _ q),(ha p hp).2⟩
    ·refine Zg.mpr ⟨λp hp e=>?_,h⟩
     have h1:=(ha p hp).2
     have h2:=name_of_addr ap (bQ hc) (show(p.1,c)∈cells from by rw[show c=p.2 from e];exact bQ h1)
     exact(ha p hp).1 (by rw[<-h2];exact Xr)
   ·exact dY ap hn'.2 (λp hp=>⟨λq=>(ha p hp).1 (WZ _ q),(ha p hp).2⟩) h
  ·exact dY ap hn'.2 (λp hp=>⟨λq=>(ha p hp).1 (WZ _ q),(ha p hp).2⟩) h
theorem ph{α:Type}{x:Str}{p:Str × α}{r:List (Str × α)}: (p::r).lookup x=tf (x==p.1) (some p.2) (r.lookup x):=by
 obtain⟨n,k⟩:=p
 rw[XY]
 cases x==n<;>rfl
noncomputable def SK(ns:Nms)(x:Str)(k k':Z6):Prop:=(k'=.free/\ns.lookup x=some .cell/\k=.cell)\/k=k'
theorem qw{ns ms:Nms}{x:Str}{k:Z6}: (bD ns ms).lookup x=some k->∃k',ms.lookup x=some k'/\SK ns x k k':=by
 induction ms with
 |nil=>exact λh=>absurd h.symm ad
 |cons p r ih=>
  intro h
  rw[ph]
  have h:a0k x (tf (p.2== .free&&ns.lookup p.1==some .cell) (p.1,.cell) p::bD ns r)=some k:=h
  rw[ph]at h
  cases hc:p.2== .free&&ns.lookup p.1==some .cell with
  |true=>
   rw[hc]at h
   refine au (b:=x==p.1) h (λq e=>⟨p.2,by rw[q];rfl,.inl ?_⟩) λq e=>(ih e).imp λ_ z=>⟨by rw[q];exact z.1,z.2⟩
   have hc:=ac hc
   exact⟨beq_iff_eq.mp hc.1,beq_iff_eq.mp q▸beq_iff_eq.mp hc.2,(Wn e).symm⟩
  |false=>
   rw[hc]at h
   exact au (b:=x==p.1) h (λq e=>⟨p.2,by rw[q];rfl,.inr (Wn e).symm⟩) λq e=>(ih e).imp λ_ z=>⟨by rw[q];exact z.1,z.2⟩
theorem hU{sc:Scope}{env:Wy}(h:env.scope.kind=.function): (relabel sc env).names=bD env.scope.names sc.names:=by
 unfold relabel bD
 simp only[h,Wy.kindOf]
 apply ZS
 rintro ⟨n,k⟩ _
 dsimp only
 rw[show(ScopeKind.function==ScopeKind.function)=true from rfl,Bool.and_true]
 cases k==YK&&a0k n env.scope.names==some Z6.cell<;>rfl
theorem kK{env:Wy}:∀{fs:List Wk},(forIn fs false λc r=>if r=true then do let ok<-a02 c env (WG c env);pure (Yc ok)else pure (Yc r):Sem Bool)=pure false
 | []=>rfl
 |c::fs=>by
  rw[Yp]
  simp only[Ze,if_false,Zj]
  exact kK
theorem ig{env:Wy}:∀{fs:List Wk},(forIn fs true λc r=>if r=true then do let ok<-a02 c env (WG c env);pure (Yc ok)else pure (Yc r):Sem Bool)=allTrue .And fs env
 | []=>by simp;rfl
 |c::fs=>by
  rw[Yp,arm_allTrue_cons]
  simp only[if_true,bind_assoc,Zj]
  congr 1
  funext b
  cases b with
  |true=>exact ig
  |false=>
   exact kK
theorem envGet_ne{x y:Nat}{v:V}{ρ:Env}(h:x≠y):aa (ag ρ x v) y=aa ρ y:=by rw[aH,jz h];rfl
structure An(ns:List Nat)(f:Env->Option Env)(ρ ρ':Env):Prop where
 out:∀y,y∉ns->aa ρ' y=aa ρ y
 any:∀ρ₂,∃ρ₂',f ρ₂=some ρ₂'/\∀y,(y∈ns\/aa ρ y=aa ρ₂ y)->aa ρ' y=aa ρ₂' y
theorem yV: (∀p:P,∀{v:V} {ρ ρ':Env},aL p v ρ=some ρ'->An (bC p) (aL p v) ρ ρ')/\∀ps:List P,∀{vs:List V} {ρ ρ':Env},bf ps vs ρ=some ρ'->An (pE ps) (bf ps vs) ρ ρ':=by
 refine P.ind (λx {v ρ ρ'} h=>?_) (λps ih {v ρ ρ'} h=>cy h ad λvs ev h=>?_) (λ{vs ρ ρ'} h=>?_) λp ps ih1 ih2 {vs ρ ρ'} h=>?_
 ·cases Wn h
  refine⟨λy hy=>envGet_ne λe=>hy (e▸ .head _),λρ₂=>⟨_,rfl,λy hy=>?_⟩⟩
  rw[aH,aH]
  cases q:Wm x y with
  |true=>rfl
  |false=>exact hy.elim (λhy=>absurd (WF.mp hy).symm (Xp q)) id
 ·subst ev
  exact ih (vs:=vs) h
 ·cases vs with
  |nil=>
   cases Wn h
   exact⟨λy _=>rfl,λρ₂=>⟨ρ₂,rfl,λy hy=>hy.elim (λh=>absurd h WT) id⟩⟩
  |cons _ _=>exact absurd h.symm ad
 ·cases vs with
  |nil=>exact absurd h.symm ad
  |cons v vs=>
   refine gj h λρ₁ e1 h=>?_
   have a:=ih1 e1
   have b:=ih2 h
   refine⟨λy hy=>(b.out y λq=>hy (Zs (bC p) q)).trans (a.out y λq=>hy (ZG (pE ps) q)),λρ₂=>?_⟩
   obtain⟨ρ₃,g1,g2⟩:=a.any ρ₂
   obtain⟨ρ₄,g3,g4⟩:=b.any ρ₃
   refine⟨ρ₄,?_,λy hy=>g4 y (hy.elim (λhy=>(X1.mp (show y∈bC p++pE ps from hy)).elim (λh=>.inr (g2 y (.inl h))) .inl) λhy=>.inr (g2 y (.inr hy)))⟩
   show opt (aL p v ρ₂) (bf ps vs) none=some ρ₄
   rw[g1]
   exact g3
theorem pb{p:P}{v:V}{ρ ρ':Env}(h:aL p v ρ=some ρ'):An (bC p) (aL p v) ρ ρ':=yV.1 p h
section
variable{c:Cx}{n:Nat}{ρ ρ':Env}{p q:Pt}{X:Addr->Prop}
theorem Fm.ext{W:Wd}{env:Wy}{ι:List Addr}{h:Heap}(F:Fm W env ρ ι h)(k:∀x v,aa ρ' x=some v->aa ρ x=some v):Fm W env ρ' ι h:=by
 obtain⟨m,hm,hv⟩:=F.ns
 exact⟨F.kind,⟨m,hm,λx v n a b c=>hv x v n (k x v a) b c⟩,λx v n a b c=>F.cl x v n (k x v a) b c,F.cs,F.apart,F.out,F.outc,F.glob,F.blt,F.nd⟩
theorem Cf.ext(C:Cf c n ρ p)(k:∀x v,aa ρ' x=some v->aa ρ x=some v):Cf c n ρ' p:=⟨C.gd,C.room,C.fm.ext k,C.inv,C.fx,C.nms,C.loc,C.cel⟩
inductive IB(c:Cx)(X:Addr->Prop)(p:Pt){α:Type}(r:R α)(v:Value)(s':Wp):Prop
 |mk (k:List Nat) (e:Addr):r=.exc k->v=.ref e->cx c.W c.L c.l e k s'.heap->Sm p.s s'->Xd X p.ι p.s.heap s'.heap->Dx p.ι p.s.heap s'.heap e->IB c X p r v s'
theorem Gh{α:Type}{r:R α}{v:Value}{s':Wp}{h:Heap}{E:Value->Wp->Prop}(F:Fx c.W c.A c.env c.L c.l h)(x:XP c X p r v s')(k:∀s'',IB c X p r v s''->E v s''):notedBy (model c.W.prog c.W.w) c.A c.env E v s':=by
 obtain⟨kk,e,h1,rfl,h3,h4,h5,h6⟩:=x
 obtain⟨e0,outer,hl,h0⟩:=F.top
 exact lI (hl▸F.fr) h0 F.own (hl▸h3) λh' x' d'=>k _ ⟨kk,e,h1,rfl,hl▸x',h4.trans (Sm.heap s' h'),h5.then d',h6.then d'⟩
end
section
variable{A:X7}{env:Wy}{ι:List Addr}{W:Wd}
theorem Ev.ofList{X:Addr->Prop}{h h':Heap}{a:Addr}{vs ws:Array Value}{n m:Nat}(hX:X a)(hs:WY a h h')(hl:IsL h a vs n)(hl':IsL h' a ws m):Ev X ι h ι h':=by
 refine⟨λ_ _ e=>e,λb p hb _ hnX=>(hs.2 b λq=>hnX (q▸hX)).trans hb,λ_ ha=>.inl ha,?_,λb p hb=>?_⟩
 ·rintro t us hn ⟨p,hp,hc,n,hd⟩
  refine⟨hn,p,(hs.2 t λq=>?_).trans hp,hc,n,hd⟩
  subst q
  rw[hl]at hp;cases hp
  simp at hc
 ·by_cases q:b=a
  ·subst q
   rw[hl]at hb;cases hb
   exact⟨_,hl',λes n q=>(by cases q),λ⟨x,y,q⟩=>(by have:=congrArg Obj.cls q;simp at this)⟩
  ·exact⟨p,(hs.2 b q).trans hb,λes n d=>⟨es,n,d⟩,id⟩
theorem nq.ev{own:List Addr}{h h':Heap}(O:du W own ι h)(O':du W own ι h')(x:nq own ι h h'):Ev (· ∈own) ι h ι h':=by
 refine⟨λ_ _ e=>e,λa o e hn hX=>x.keep a o hX hn e,λ_ ha=>.inl ha,λa vs hn ⟨o,ho,hc,n,hd⟩=>?_,λa o e=>?_⟩
 ·refine⟨hn,o,x.keep a o (λhm=>?_) hn ho,hc,n,hd⟩
  obtain⟨_,_,o',ho',hr⟩:=O a hm
  rw[ho]at ho';cases ho'
  exact hr.seq hd
 ·by_cases q:a∈own
  ·obtain⟨_,_,o1,ho1,hr1⟩:=O a q
   obtain⟨_,_,o2,ho2,hr2⟩:=O' a q
   rw[e]at ho1;cases ho1
   exact⟨o2,ho2,λes n d=>(hr1.dict d).elim,λ⟨x,y,z⟩=>(by subst z;exact(hr1.seq rfl).elim)⟩
  ·exact x.there a o q e
theorem qu{prog:Yz}{w:World}{R:Result->Wp->Prop}{elt target iter:Wk}{ifs:List Wk}{scope:Scope}{pos:Pos}{it acc:Value}(I:Nat->Wp->Prop)
  (turn:∀n s,I n s->wpAny (model prog w) A (pyNext it) (λr s₁=>match r with
   |none=>R (.ok .next) s₁
   |some v=>wpAny (model prog w) A (letOwnedTupleGo target it v) (λ_ s₂=>wpAny (model prog w) A (assign target env v) (λ_ s₃=>wpAny (model prog w) A (allTrue .And ifs env) (λok s₄=>
     if ok=true then wpAny (model prog w) A (WG elt env) (λx s₅=>wpAny (model prog w) A (call (.builtin "list.append") [acc,x]) (λ_ s₆=>∃m,m<n/\I m s₆) (notedBy (model prog w) A env λe s'=>R (.error e) s') s₅)
      (notedBy (model prog w) A env λe s'=>R (.error e) s') s₄
     else ∃m,m<n/\I m s₄) (notedBy (model prog w) A env λe s'=>R (.error e) s') s₃) (notedBy (model prog w) A env λe s'=>R (.error e) s') s₂) (notedBy (model prog w) A env λe s'=>R (.error e) s') s₁)
   (notedBy (model prog w) A env λe s'=>R (.error e) s') s)
  (n:Nat)(h:I n s):codeAny (model prog w) A (.compLoop (.ListComp elt [⟨target,iter,ifs,0⟩] scope pos) 0 it acc env) R s:=by
 refine codeAny_loop rfl I (λn s hI=>?_) n h
 show wpAny _ A ((compTurn (.ListComp elt [⟨target,iter,ifs,0⟩] scope pos) 0 it acc env).onRaise (λx=>do noteFrame x env;theTreesLotGoes x)) _ _ s
 refine wpAny_noted ?_
 rw[compTurn_list]
 refine Wj (Xa (Wj (WK (turn n s hI) (λr s₁ h₁=>?_) λ_ _ z=>z)))
 cases r with
 |none=>exact Ws h₁
 |some v=>
  refine Wj (WK h₁ (λ_ s₂ h₂=>Wj (WK h₂ (λ_ s₃ h₃=>?_) λ_ _ z=>z)) λ_ _ z=>z)
  refine Wj ?_
  rw[ig]
  refine WK h₃ (λok s₄ h₄=>?_) λ_ _ z=>z
  cases ok with
  |false=>exact Ws ⟨rfl,h₄⟩
  |true=>exact Wj (Wj (WK h₄ (λx s₅ h₅=>Wj (WK h₅ (λ_ s₆ h₆=>Ws (Ws ⟨rfl,h₆⟩)) λ_ _ z=>z)) λ_ _ z=>z))
end
structure VM(c:Cx)(p₀ p:Pt)(own:List Addr)(D:Addr):Prop where
 ι:D∉p.ι
 h0:c.W.h0.get? D=none
 old:p₀.s.heap.get? D=none
 own:D∉own
 loc:D≠c.env.locals
 cel:∀n a,c.env.cells.lookup n=some a->D≠a
structure Cw(c:Cx)(N:Nat)(ρd:Env)(zp:Bool)(own:List Addr)(it:Value)(D:Addr)(p₀:Pt)(src:bA)(acc:List V)(p:Pt):Prop where
 cf:Cf c N ρd p
 ir:IR zp own p.ι p.s.heap it src
 ow:du c.W own p.ι p.s.heap
 nw:oG p₀.s.heap own
 lst:∃us k,IsL p.s.heap D (X0 us) k/\aB p.ι p.s.heap acc us
 len:acc.length<=100001
 out:VM c p₀ p own D
 loc:p₀.s.heap.get? c.env.locals=none
 to:To No p₀ p
section
variable{W:Wd}{ι:List Addr}
theorem Xd.nsp{ι:List Addr}{h h':Heap}{a:Addr}{m:Str->Option Value}(x:Xd No ι h h')(hn:h.Ns a m)(ha:a∉ι):h'.Ns a m:=by
 obtain⟨o,es,ep,ho,hd,r⟩:=hn
 obtain⟨o',ho',hc',hd'⟩:=x a o ho ha (λq=>q) (λvs q=>by rw[hd]at q;cases q)
 exact⟨o',es,ep,ho',hd'.trans hd,r⟩
theorem nq.tups{own:List Addr}{h h':Heap}(O:du W own ι h)(x:nq own ι h h'):hF ι h ι h':=λa vs hn ⟨o,ho,hc,n,hd⟩=>by
 refine⟨hn,o,x.keep a o (λhm=>?_) hn ho,hc,n,hd⟩
 obtain⟨_,_,o',ho',hr⟩:=O a hm
 rw[ho]at ho';cases ho'
 exact hr.seq hd
theorem du.nsp{own:List Addr}{h:Heap}{a:Addr}{m:Str->Option Value}(O:du W own ι h)(hn:h.Ns a m):a∉own:=λhm=>by
 obtain⟨o,es,ep,ho,hd,_⟩:=hn
 obtain⟨_,_,o',ho',hr⟩:=O a hm
 rw[ho]at ho';cases ho'
 exact hr.dict hd
theorem du.cellp{own:List Addr}{h:Heap}{a:Addr}{v:Option Value}(O:du W own ι h)(hn:h.IsCell a v):a∉own:=λhm=>by
 obtain⟨o,ho,hd⟩:=hn
 obtain⟨_,_,o',ho',hr⟩:=O a hm
 rw[ho]at ho';cases ho'
 exact hr.cell hd
end
theorem Heap.Ns.at{h:Heap}{a:Addr}{m:Str->Option Value}(x:h.Ns a m):∃o es ep,h.get? a=some o/\o.data=.dict es ep:=by
 obtain⟨o,es,ep,ho,hd,_⟩:=x
 exact⟨o,es,ep,ho,hd⟩
section
variable{c:Cx}{N:Nat}{ρd:Env}{zp:Bool}{own:List Addr}{it:Value}{D:Addr}{p₀ p q:Pt}{src:bA}{acc:List V}
theorem Cw.locals(w:Cw c N ρd zp own it D p₀ src acc p):∃m,p.s.heap.Ns c.env.locals m:=w.cf.fm.ns.imp λ_ z=>z.1
theorem Cw.move{X:Addr->Prop}(w:Cw c N ρd zp own it D p₀ src acc p)(C':Cf c N ρd q)(T:To X p q)(hX:∀a,X a->a=c.env.locals):Cw c N ρd zp own it D p₀ src acc q:=by
 obtain⟨m,hm⟩:=w.locals
 have hO:∀a∈own,¬ X a:=λa ha hx=>du.nsp w.ow hm (hX a hx▸ha)
 have hD: ¬ X D:=λhx=>w.out.loc (hX D hx)
 obtain⟨us,k,hl,V0⟩:=w.lst
 refine⟨C',w.ir.up w.ow T.ev hO (λx y a hp _ hx=>?_),w.ow.up T.ev hO,w.nw,⟨us,k,T.ev.keep D _ hl w.out.ι hD,V0.up T.ev⟩,w.len,⟨T.ev.out hl w.out.ι,w.out.h0,w.out.old,w.out.own,w.out.loc,w.out.cel⟩,w.loc,?_⟩
 ·rw[hX a hx]at hp
  obtain⟨o,es,ep,ho,hd⟩:=Heap.Ns.at hm
  rw[hp]at ho;cases ho;cases hd
 ·exact⟨((w.to.ev.mono (Y:=X) λ_ q=>q.elim).trans T.ev).drop λa hx=>.inr (hX a hx▸w.loc),w.to.sm.trans T.sm⟩
theorem Cw.next{src':bA}{h':Heap}{tk:Tok}(w:Cw c N ρd zp own it D p₀ src acc p)(I':ay c.W p.ι p.σ h')(S':nq own p.ι p.s.heap h')(O':du c.W own p.ι h')(R':IR zp own p.ι h' it src'):
  Cw c N ρd zp own it D p₀ src' acc ⟨p.ι,p.σ,{p.s with heap:=h',toks:=tk}⟩:=by
 obtain⟨m,hm⟩:=w.locals
 have e:=nq.ev w.ow O' S'
 obtain⟨us,k,hl,V0⟩:=w.lst
 refine⟨⟨w.cf.gd,w.cf.room,w.cf.fm.up e (du.nsp w.ow hm) (λn q hq=>?_),I',w.cf.fx.up e,w.cf.nms,w.cf.loc,w.cf.cel⟩,R',O',w.nw,⟨us,k,e.keep D _ hl w.out.ι w.out.own,V0.up e⟩,w.len,⟨w.out.ι,w.out.h0,w.out.old,w.out.own,w.out.loc,w.out.cel⟩,w.loc,?_⟩
 ·exact(w.cf.fm.outc n q hq).is.elim λv hv=>du.cellp w.ow hv
 ·exact⟨((w.to.ev.mono (Y:=(· ∈own)) λ_ q=>q.elim).trans e).drop λa hx=>.inr (w.nw a hx),w.to.sm.trans (Sm.mk' p.s h' tk)⟩
theorem Cw.push{x:V}{u:Value}(w:Cw c N ρd zp own it D p₀ src acc p)(V0:VR p.ι p.s.heap x u)(hf:aU acc.length=true):
  Cw c N ρd zp own it D p₀ src (acc++[x]) ⟨p.ι,p.σ,{p.s with heap:=p.s.heap.update D (YW λy=>y.push u)}⟩:=by
 obtain⟨us,k,hl,Va⟩:=w.lst
 obtain⟨k',hu⟩:∃k',IsL (p.s.heap.update D (YW λy=>y.push u)) D (us++[u]).toArray k':=by
  have e1: (us++[u]).toArray=us.toArray.push u:=by simp
  rw[e1];exact⟨_,hl.update (λy=>y.push u)⟩
 have hs:=XQ p.s.heap D (YW λy=>y.push u)
 have e:Ev (λa=>a=D) p.ι p.s.heap p.ι (p.s.heap.update D (YW λy=>y.push u)):=Ev.ofList rfl hs hl hu
 have hO:∀a∈own,¬ (a=D):=λa ha hx=>w.out.own (hx▸ha)
 refine⟨⟨w.cf.gd,w.cf.room,w.cf.fm.up e (λq=>w.out.loc q.symm) (λn q hq hx=>w.out.cel n q hq hx.symm),w.cf.inv.ofSame w.out.ι w.out.h0 hs e.tup,w.cf.fx.up e,w.cf.nms,w.cf.loc,w.cf.cel⟩,w.ir.up w.ow e hO (λx y a hp _ hx=>?_),w.ow.up e hO,w.nw,⟨us++[u],k',hu,(Va.up e).append (ys:=[x]) (XM (V0.up e) trivial)⟩,?_,⟨w.out.ι,w.out.h0,w.out.old,w.out.own,w.out.loc,w.out.cel⟩,w.loc,?_⟩
 ·subst hx
  have:=congrArg Obj.cls (Wn (hl.symm.trans hp))
  exact absurd this (by simp)
 ·rw[Wu]
  exact XV (aN hf)
 ·exact⟨((w.to.ev.mono (Y:=λa=>a=D) λ_ q=>q.elim).trans e).drop λa hx=>.inr (hx▸w.out.old),w.to.sm.trans (Sm.heap p.s _)⟩
end
structure Ub(c:Cx)(p₀:Pt)(D:Addr)(acc:List V)(q:Pt):Prop where
 inv:ay c.W q.ι q.σ q.s.heap
 to:To No p₀ q
 lst:∃us k,IsL q.s.heap D (X0 us) k/\aB q.ι q.s.heap acc us
 len:acc.length<=100001
 out:D∉q.ι
 loc:c.env.locals∉q.ι
 ns:∃m,q.s.heap.Ns c.env.locals m
structure T7(c:Cx)(p₀:Pt){α:Type}(r:R α)(e:Value)(s':Wp):Prop where
 x:IB c No p₀ r e s'
 ns:∃m,s'.heap.Ns c.env.locals m
 dc:∀e' oe d,e=.ref e'->s'.heap.get? e'=some oe->oe.dict=some d->d≠c.env.locals
structure Cp where
 c:Cx
 N:Nat
 elt:E
 t:P
 ifs:List E
 x:Wk
 tg:Wk
 fs:List Wk
 ns₀:Nms
 ρ:Env
 ρd:Env
 zp:Bool
 own:List Addr
 it:Value
 D:Addr
 p₀:Pt
 r:R (List V)
 Rr:Result->Wp->Prop
structure pz(K:Cp):Prop where
 S:∀k,k<K.N->ce k
 me:mE K.c.W K.c.ns K.elt K.x=true
 mf:lW K.c.W K.c.ns K.ifs K.fs=true
 mp:mP K.c.W K.ns₀ K.t K.tg=true
 T0:qH K.c.W K.c.env K.ns₀ (λa=>a=K.c.env.locals)
 hz:K.zp=true->∃elts x pos,K.tg=.Tuple elts x pos
 hrel:∀y,y∉bC K.t->aa K.ρd y=aa K.ρ y
 hrel2:∀y,y∈bC K.t->aa K.ρd y=none
 hne:K.r≠.bad
 hok:∀(q:Pt) acc,.ok acc q.σ=K.r->Ub K.c K.p₀ K.D acc q->K.Rr (.ok .next) q.s
 hex:∀e s',T7 K.c K.p₀ K.r e s'->K.Rr (.error e) s'
section
variable(K:Cp)
noncomputable abbrev Cp.wp{α:Type}(t:Sem α)(Q:α->Wp->Prop)(s:Wp):Prop:=wpAny (model K.c.W.prog K.c.W.w) K.c.A t Q (notedBy (model K.c.W.prog K.c.W.w) K.c.A K.c.env λe s'=>K.Rr (.error e) s') s
noncomputable abbrev Cp.Cw(src:bA)(acc:List V)(p:Pt):Prop:=Mine.Cw K.c K.N K.ρd K.zp K.own K.it K.D K.p₀ src acc p
inductive Cp.I(k:Nat)(s:Wp):Prop
 |mk (src:bA) (acc:List V) (ι:List Addr) (σ:St):comp K.c.Γ k K.elt K.t src K.ifs K.ρ σ acc=K.r->k<=K.N->K.Cw src acc ⟨ι,σ,s⟩->Cp.I k s
noncomputable def Cp.take(k:Nat)(ok:Bool)(s:Wp):Prop:=if ok=true then K.wp (WG K.x K.c.env) (λx s₅=>K.wp (call (.builtin "list.append") [.ref K.D,x]) (λ_ s₆=>∃m,m<k+1/\K.I m s₆) s₅) s else ∃m,m<k+1/\K.I m s
noncomputable def Cp.item(k:Nat)(v:Value)(s:Wp):Prop:=K.wp (assign K.tg K.c.env v) (λ_ s₃=>K.wp (allTrue .And K.fs K.c.env) (K.take k) s₃) s
end
section
variable{K:Cp}{k:Nat}{src:bA}{acc:List V}{q:Pt}
theorem pz.exc(H:pz K){α:Type}{r':R α}{e:Value}{s'':Wp}(hr:∀k,r'=.exc k->K.r=.exc k)(w':K.Cw src acc q)(z:XP K.c No q r' e s''):notedBy (model K.c.W.prog K.c.W.w) K.c.A K.c.env (λe s'=>K.Rr (.error e) s') e s'':=by
 refine w'.locals.elim λm hm=>Gh w'.cf.fx z λs3 z3=>?_
 cases z3 with |mk kk e' h1 h2 h3 h4 h5 h6=>
 refine H.hex e s3 ⟨⟨kk,e',hr kk h1,h2,h3,w'.to.sm.trans h4,Xd.after w'.to.ev h5,Dx.after w'.to.ev h6⟩,⟨m,Xd.nsp h5 hm w'.cf.fm.out⟩,λe2 oe d he ho hd=>?_⟩
 cases h2.symm.trans he
 obtain⟨o,es,ep,hob,_⟩:=Heap.Ns.at hm
 exact h6 _ o hob w'.cf.fm.out oe d ho hd
theorem pz.take(H:pz K){ρ':Env}{ok:Bool}(hk:k+1<=K.N)(w:K.Cw src acc q)(C:Cf K.c K.N ρ' q)
  (he:tf ok ((ev K.c.Γ k K.elt ρ' q.σ).bind λy σ=>gd (aU acc.length) (comp K.c.Γ k K.elt K.t src K.ifs K.ρ σ (acc++[y]))) (comp K.c.Γ k K.elt K.t src K.ifs K.ρ q.σ acc)=K.r):K.take k ok q.s:=by
 cases ok with
 |false=>
  unfold Cp.take
  rw[if_neg Ww]
  exact⟨k,XB k,src,acc,q.ι,q.σ,he,WR hk,w⟩
 |true=>
  unfold Cp.take
  rw[if_pos rfl]
  refine WK ((H.S k hk).ev (C.less (WR hk)) H.me (aE he H.hne)) (λy s4 z=>?_) λe s4 z=>H.exc (b8 he) w z
  cases z with |mk x4 σ4 ι4 e4 I4 ev4 sm4 V4=>
  have c4:K.Cw src acc ⟨ι4,σ4,s4⟩:=w.move (X:=No) (w.cf.up I4 ev4) ⟨ev4,sm4⟩ λ_ q=>q.elim
  refine am (bind_ok e4 he) H.hne λhf he=>?_
  obtain⟨us,kc,hl,Va⟩:=c4.lst
  exact Zd a0d ⟨_,hl,rfl⟩ F.entry_list_append (F.args_list_append_2 _ _) (list_append K.D us.toArray kc y (yW (by rw[WX,<-Va.len];exact Wz (aN hf) (by decide)))) ⟨hl,k,XB k,src,acc++[x4],ι4,σ4,he,WR hk,c4.push V4 hf⟩
theorem pz.item(H:pz K){v:V}{u:Value}(hk:k+1<=K.N)(w:K.Cw src acc q)(V0:VR q.ι q.s.heap v u)
  (he:opt (aL K.t v K.ρ) (λρ'=>(trAnd K.c.Γ k K.ifs ρ' q.σ).bind λo σ=>tf o ((ev K.c.Γ k K.elt ρ' σ).bind λy σ=>gd (aU acc.length) (comp K.c.Γ k K.elt K.t src K.ifs K.ρ σ (acc++[y]))) (comp K.c.Γ k K.elt K.t src K.ifs K.ρ σ acc)) .bad=K.r):K.item k u q.s:=by
 refine a8 he H.hne λρ' hb he=>?_
 have g:=pb hb
 obtain⟨ρd',g3,g4⟩:=g.any K.ρd
 have agree:∀y,aa ρ' y=aa ρd' y:=λy=>(YA (y∈bC K.t)).elim (λhy=>g4 y (.inl hy)) λhy=>g4 y (.inr (H.hrel y hy).symm)
 have back:∀y w,aa K.ρd y=some w->aa ρd' y=some w:=λy w hw=>(YA (y∈bC K.t)).elim (λhy=>ka (H.hrel2 y hy) hw) λhy=>((pb g3).out y hy).trans hw
 refine fw H.T0 K.t w.cf H.mp V0 g3 λs2 C2 T2=>?_
 have c2:K.Cw src acc ⟨q.ι,q.σ,s2⟩:=w.move (C2.ext back) T2 λ_ q=>q
 have C2':Cf K.c K.N ρ' ⟨q.ι,q.σ,s2⟩:=C2.ext λy w hw=>(agree y).symm.trans hw
 refine WK ((H.S k hk).trAnd (C2'.less (WR hk)) H.mf (aE he H.hne)) (λok s3 z=>?_) λe s3 z=>H.exc (b8 he) c2 z
 cases z with |mk o σ3 ι3 e3 I3 ev3 sm3 hq=>
 cases hq
 exact H.take (q:=⟨ι3,σ3,s3⟩) hk (c2.move (X:=No) (c2.cf.up I3 ev3) ⟨ev3,sm3⟩ λ_ q=>q.elim) (C2'.up I3 ev3) (bind_ok e3 he)
theorem pz.fin(H:pz K){h':Heap}{tk:Tok}(w:K.Cw src acc q)(he: .ok acc q.σ=K.r)(I':ay K.c.W q.ι q.σ h')(S':nq K.own q.ι q.s.heap h'):K.Rr (.ok .next) {q.s with heap:=h',toks:=tk}:=by
 obtain⟨us,kc,hl,V0⟩:=w.lst
 refine w.locals.elim λm hm=>H.hok ⟨q.ι,q.σ,{q.s with heap:=h',toks:=tk}⟩ acc he ⟨I',⟨w.to.ev.stp S' λa ha=>⟨(w.ow a ha).1,w.nw a ha⟩,w.to.sm.trans (Sm.mk' q.s h' tk)⟩,⟨us,kc,S'.keep K.D _ w.out.own w.out.ι hl,V0.mono (λ_ _ e=>e) (S'.tups w.ow)⟩,w.len,w.out.ι,w.cf.fm.out,m,?_⟩
 have hno:=du.nsp w.ow hm
 obtain⟨o,es,ep,ho,rr⟩:=hm
 exact⟨o,es,ep,S'.keep _ _ hno w.cf.fm.out ho,rr⟩
theorem xp(H:pz K){iter:Wk}{sc:Scope}{pos:Pos}(he:comp K.c.Γ K.N K.elt K.t src K.ifs K.ρ q.σ acc=K.r)(c₀:K.Cw src acc q):
  codeAny (model K.c.W.prog K.c.W.w) K.c.A (.compLoop (.ListComp K.x [⟨K.tg,iter,K.fs,0⟩] sc pos) 0 K.it (.ref K.D) K.c.env) K.Rr q.s:=by
 refine qu (I:=K.I) (λk s hI=>?_) K.N ⟨src,acc,q.ι,q.σ,he,WO _,c₀⟩
 cases hI with |mk src acc ι σ he hk w=>
 cases k with
 |zero=>exact(H.hne he.symm).elim
 |succ k=>
  refine a8 he H.hne λrr hn he=>?_
  refine WK (IR.next (target:=K.tg) (Q:=λo s₁=>opt o (λv=>K.item k v s₁) (K.Rr (.ok .next) s₁)) (E:=notedBy (model K.c.W.prog K.c.W.w) K.c.A K.c.env λe s'=>K.Rr (.error e) s') w.cf.room.hh w.cf.inv w.ow w.ir H.hz hn ?_ ?_) (λo s₁ z=>by cases o<;>exact z) λ_ _ z=>z
  ·exact λhrr=>⟨λh' tk I' S'=>H.fin (q:=⟨ι,σ,s⟩) w (by rw[hrr]at he;exact he) I' S'⟩
  ·exact λv src' hrr=>⟨λu h' tk I' S' V0 O' R'=>H.item (q:=⟨ι,σ,{s with heap:=h',toks:=tk}⟩) hk (w.next (tk:=tk) I' S' O' R') V0 (by rw[hrr]at he;exact he)⟩
end
section
variable{W:Wd}{Γ:bU}{n:Nat}{A:X7}{env:Wy}{ns:Nms}{L:Addr}{l:List Wy}{ρ:Env}{ι:List Addr}{σ:St}{s:Wp}
theorem Cy{base h h':Heap}{C:Addr}(hs:WY C h h'):∀{l:List Wy},h.FunFrames base l->(∀e∈l,e.frame≠some C)->h'.FunFrames base l
 | [],_,_=>trivial
 |e::r,⟨a,⟨L,o,b,c,d,f⟩,k⟩,hn=>⟨a,⟨L,o,b,c,(hs.2 L λq=>hn e Xr (q▸b)).trans d,f⟩,Cy hs k λe' he=>hn e' (WZ _ he)⟩
theorem Bv{h h':Heap}{C e:Addr}{k:List Nat}{m:Str->Option Value}(x:cx W L l e k h)(hs:WY C h h')(hC:h.Ns C m)(h0:W.h0.get? C=none)(hf:∀e∈l,e.frame≠some C)(hd:∀oe d,h.get? e=some oe->oe.dict=some d->d≠C):cx W L l e k h':=by
 obtain⟨b,n,f,oe,vs,d,kvs,tk,h1,h2,h3,h4,h5,h6,h7,h8,T,oT,ts,y,t1,t2,t3,t4,t5,t6,t7⟩:=x
 obtain⟨oC,esC,epC,hoC,hdC,_⟩:=hC
 have rcd:∀{a:Addr} {o:Obj} {vs:Array Value},h.get? a=some o->o.data=.fields vs->a≠C:=λha hda q=>by
  subst q;rw[hoC]at ha;cases ha;rw[hdC]at hda;cases hda
 refine⟨λa o ha=>(hs.2 a λq=>by rw[q,h0]at ha;cases ha).trans (b a o ha),n,Cy hs f hf,oe,vs,d,kvs,tk,(hs.2 e (rcd h1 h4)).trans h1,h2,h3,h4,h5,?_,h7,h8,T,oT,ts,y,t1,t2,t3,(hs.2 T (rcd t4 t5)).trans t4,t5,t6,t7⟩
 obtain⟨o,es,ep,ho,r⟩:=h6
 exact⟨o,es,ep,(hs.2 d (hd oe d h1 h3)).trans ho,r⟩
theorem oE{sc:Scope}(h:gx ns sc=true):sc.kind=.function/\∀y∈sc.names,y.2≠.cell/\(y.2=.local->sc.names.lookup y.1=some .local)/\(y.2=.free->ns.lookup y.1=some .cell):=by
 unfold gx at h
 simp only[a0x,Xi,beq_iff_eq]at h
 refine⟨h.1,λy hy=>?_⟩
 have:=h.2 y hy
 simp only[Yq,bne_iff_ne,beq_iff_eq]at this
 exact⟨this.1.1,λq=>this.1.2.resolve_left λz=>z q,λq=>this.2.resolve_left λz=>z q⟩
theorem sS{p:P}{sc:Scope}(h:dQ W p sc=true): (sc.names.map (·.1)).Nodup/\∀y∈sc.names,y.2=.local->(∃x∈bC p,W.nm[x]?=some y.1)\/y.1∉W.nm:=by
 unfold dQ at h
 simp only[a0x,Xi,decide_eq_true_eq]at h
 refine⟨h.2,λy hy q=>?_⟩
 have:=h.1 y hy
 simp only[Yq,bne_iff_ne,List.any_eq_true,beq_iff_eq,Bool.not_eq_true',List.contains_eq_mem,decide_eq_false_iff_not]at this
 rcases this with(z|z)|z
 ·exact absurd q z
 ·exact .inl z
 ·exact .inr z
noncomputable def fT(p:P)(ρ:Env):Env:=@WB (Nat × V) (λ_=>Env) [] (λq _ ih=>tf ((bC p).contains q.1) ih (q::ih)) ρ
theorem mY{p:P}{q:Nat × V}{r:Env}:fT p (q::r)=tf ((bC p).contains q.1) (fT p r) (q::fT p r):=rfl
theorem dZ{q:Nat × V}{r:Env}{y:Nat}:aa (q::r) y=tf (Wm q.1 y) (some q.2) (aa r y):=rfl
theorem rb{p:P}{y:Nat}(hy:y∈bC p):∀{ρ:Env},aa (fT p ρ) y=none:=by
 intro ρ
 induction ρ with
 |nil=>rfl
 |cons q r ih=>
  rw[mY]
  cases h: (bC p).contains q.1 with
  |true=>exact ih
  |false=>
   show aa (q::fT p r) y=none
   rw[dZ,ih,jz (a:=q.1) (b:=y) λe=>Ww (h.symm.trans (List.contains_iff_mem.mpr (e▸hy)))]
   rfl
theorem pi{p:P}{y:Nat}(hy:y∉bC p):∀{ρ:Env},aa (fT p ρ) y=aa ρ y:=by
 intro ρ
 induction ρ with
 |nil=>rfl
 |cons q r ih=>
  rw[mY]
  cases h: (bC p).contains q.1 with
  |true=>
   show aa (fT p r) y=_
   rw[dZ,ih,jz (a:=q.1) (b:=y) λe=>hy (e▸List.contains_iff_mem.mp h)]
   rfl
  |false=>exact(dZ.trans (congrArg _ ih)).trans dZ.symm
theorem oq{p:P}{y:Nat}{v:V}{ρ:Env}(h:aa (fT p ρ) y=some v):aa ρ y=some v/\y∉bC p:=
 (YA (y∈bC p)).elim (λq=>ka (rb q) h) λq=>⟨(pi q).symm.trans h,q⟩
theorem Fm.comp{sc:Scope}{p:P}{C:Addr}{h:Heap}{m:Str->Option Value}(F:Fm W env ρ ι h)(ok:gx env.scope.names sc=true)(lo:dQ W p sc=true)(hC:h.Ns C m)(hout:C∉ι)(hne:∀n c,env.cells.lookup n=some c->c≠C):
  Fm W (compEnvC sc (bY env.cells sc.names []) C env) (fT p ρ) ι h:=by
 obtain⟨k1,k2⟩:=oE ok
 obtain⟨k3,k4⟩:=sS lo
 have kd:∀n k,(compEnvC sc (bY env.cells sc.names []) C env).kindOf n=some k->∃k',sc.names.lookup n=some k'/\SK env.scope.names n k k':=λn k hk=>
  qw ((congrArg (·.lookup n) (hU F.kind)).symm.trans hk)
 have cell:∀n,(compEnvC sc (bY env.cells sc.names []) C env).kindOf n=some .cell->env.kindOf n=some .cell/\(n,YK)∈sc.names:=λn hk=>
  (kd n .cell hk).elim λk' q=>q.2.elim (λz=>⟨z.2.1,z.1▸bQ q.1⟩) λz=>absurd z.symm (k2 _ (bQ q.1)).1
 have same:∀n c,env.cells.lookup n=some c->(n,YK)∈sc.names->(bY env.cells sc.names []).lookup n=some c:=λn c hc hm=>
  (kj (jb hc hm (acc:=[]))).elim λd hd=>hd.trans ((dM hd).1.symm.trans hc)
 refine⟨k1,⟨m,hC,λx v n a b c=>?_⟩,λx v n a b c=>?_,λn a=>?_,dY F.apart k3 (λp hp=>absurd hp WT) .nil,hout,λn c hc=>?_,F.glob,F.blt,F.nd⟩
 ·have a:=oq a
  refine(kd n .local c).elim λk' q=>q.2.elim (λz=>nomatch z.2.2) λz=>?_
  refine(k4 _ (bQ q.1) z.symm).elim (λz=>z.elim λx' hx'=>?_) λhn'=>absurd (WN b) hn'
  obtain⟨a1,a2⟩:=Wv.mp b
  obtain⟨b1,b2⟩:=Wv.mp hx'.2
  exact absurd (eY F.nd a1 b1 (a2.trans b2.symm)▸hx'.1) a.2
 ·have g:=cell n c
  cases F.cl x v n (oq a).1 b g.1 with |mk d u g1 g2 g3=>exact⟨d,u,same n d g1 g.2,g2,g3⟩
 ·have g:=cell n a
  cases F.cs n g.1 with |mk d v g1 g2=>exact⟨d,v,same n d g1 g.2,g2⟩
 ·have g:=F.outc n c (dM hc).1
  exact⟨g.id,hne n c (dM hc).1,g.is⟩
end
section
variable{n:Nat}{c:Cx}{ρ:Env}{p q:Pt}{a:Wk}{r:R V}
theorem iX{i:Wk}{env:Wy}(h:lT i=true)(x:Value):foldedSetIterable i env x=pure x:=
 ao (motive:=λi=>foldedSetIterable i env x=pure x) h (λ_ _ _=>rfl) (λ_ _ _ _=>rfl) (λ_ _ _=>rfl) (λ_ _ _ _=>rfl) (λ_ _ _ _ _=>rfl) (λ_ _ _ _=>rfl) (λ_ _ _ _=>rfl) (λ_ _ _ _ _=>rfl) (λ_ _ _ _ _=>rfl) (λ_ _ _ _=>rfl) (λ_ _ _ _=>rfl) (λ_ _ _ _ _=>rfl) (λ_ _ _ _ _=>rfl) (λ_ _ _ _ _=>rfl) (λ_ _ _ _=>rfl)
noncomputable abbrev wg(Γ:bU)(n:Nat)(elt:E)(p:P)(it:E)(ifs:List E)(ρ:Env)(σ:St):R V:=
 (evIt Γ n it ρ σ).bind λsrc σ=>(comp Γ n elt p src ifs ρ σ []).bind λvs σ=>newL σ vs
structure Cd(c:Cx)(p:Pt)(r:R V)(D C:Addr)(x:V)(q:Pt):Prop where
 e: .ok x q.σ=r
 inv:ay c.W q.ι q.σ q.s.heap
 to:To No p q
 v:VR q.ι q.s.heap x (.ref D)
 out:C∉q.ι
 ns:∃m,q.s.heap.Ns C m
 new:p.s.heap.get? C=none
 new0:c.W.h0.get? C=none
structure BV(c:Cx)(elt:E)(t:P)(it:E)(ifs:List E)(x tg i:Wk)(fs:List Wk)(sc:Scope):Prop where
 ok:gx c.ns sc=true
 lo:dQ c.W t sc=true
 mp:mP c.W sc.names t tg=true
 ns:lT i=true
 zp: (!cU it||ik tg)=true
 it:mE c.W c.ns it i=true
 el:mE c.W (bD c.ns sc.names) elt x=true
 fs:lW c.W (bD c.ns sc.names) ifs fs=true
theorem BS{it:E}{tg:Wk}(h: (!cU it||ik tg)=true)(z:cU it=true):∃elts x pos,tg=.Tuple elts x pos:=by
 rw[z]at h
 exact eX (a:=tg) (motive:=λtg=>∃elts x pos,tg=.Tuple elts x pos) h λ_ _ _ _=>⟨_,_,_,rfl⟩
theorem rT{elt:E}{t:P}{it:E}{ifs:List E}{motive:Wk->Prop}(m:mE c.W c.ns (.comp elt t it ifs) a=true)(k:∀x tg i fs sc pos,BV c elt t it ifs x tg i fs sc->motive (.ListComp x [⟨tg,i,fs,0⟩] sc pos)):motive a:=by
 refine oW m λx gs sc pos m=>?_
 refine d5 (motive:=λgs=>motive (.ListComp x gs sc pos)) m λg m=>?_
 refine xQ (motive:=λg=>motive (.ListComp x [g] sc pos)) m λtg i fs m=>?_
 have m1:=ac m
 have m2:=ac m1.2
 have m3:=ac m2.2
 have m4:=ac m3.2
 have m5:=ac m4.2
 have m6:=ac m5.2
 have m7:=ac m6.2
 exact k x tg i fs sc pos ⟨m1.1,m2.1,m3.1,m4.1,m5.1,m6.1,m7.1,m7.2⟩
theorem pM{cc:Cx}{Cn:Addr}{e:Value}{s':Wp}{β:Type}{rl:R β}{pw:Pt}(C:Cf c (n+1) ρ p)(hl:cc.l=c.l)(hW:cc.W=c.W)(hL:cc.L=c.L)(hloc:cc.env.locals=Cn)(sC:p.s.heap.get? Cn=none)(nC:c.W.h0.get? Cn=none)(hpw:pw=p)(hr:∀k,rl=.exc k->r=.exc k)(z:T7 cc pw rl e s'):
  ∃m,s'.heap.Ns Cn m/\∀h',WY Cn s'.heap h'->∀cenv:Wy,cenv.locals=Cn->wpAny (model c.W.prog c.W.w) c.A (passOn "comprehension.variables-let-go" e cenv:Sem Value) (λ_ _=>False) (XP c No p r) {s' with heap:=h'}:=by
 subst hpw
 obtain⟨⟨kk,e',h1,rfl,hx,sm',xd,dx⟩,⟨mm,hmm⟩,hd⟩:=z
 rw[hloc]at hmm
 rw[hl,hW,hL]at hx
 refine⟨mm,hmm,λh' hs' cenv _=>?_⟩
 have hfr:∀ev∈c.l,ev.frame≠some Cn:=λev hev q=>by
  obtain⟨o,ho⟩:=C.fx.ffd.mem ev hev _ q
  rw[sC]at ho;cases ho
 have hx':=Bv hx hs' hmm nC hfr λoe d ho hdd=>hloc▸hd e' oe d rfl ho hdd
 refine z6 c.L hx' λh'' x'' d''=>⟨kk,e',hr kk h1,rfl,x'',sm'.trans (Sm.heap s' h''),Xd.then (λa o ha hn hX nf=>?_) d'',Dx.then (λa o ha hn oe d ho hdd=>?_) d''⟩
 ·obtain⟨o',ho',c',dd'⟩:=xd a o ha hn hX nf
  exact⟨o',(hs'.2 a λq=>by rw[q,sC]at ha;cases ha).trans ho',c',dd'⟩
 ·obtain⟨b,n0,f,oe0,vs,d0,kvs,tk,g1,g2,g3,g4,_⟩:=hx
  have hne:e'≠Cn:=λq=>by
   obtain⟨oC,esC,epC,hoC,hdC⟩:=Heap.Ns.at hmm
   rw[q,hoC]at g1;cases g1;rw[hdC]at g4;cases g4
  exact dx a o ha hn oe d ((hs'.2 e' hne).symm.trans ho) hdd
theorem oP(S:∀k,k<=n->ce k){elt:E}{t:P}{it:E}{ifs:List E}{x tg i:Wk}{fs:List Wk}{sc:Scope}{pos:Pos}(C:Cf c (n+1) ρ p)
  (M:BV c elt t it ifs x tg i fs sc)(hr:wg c.Γ n elt t it ifs ρ p.σ=r)(hb:r≠.bad){use:Option (Value->Sem Unit)}{Q:Value->Wp->Prop}{pos':Pos}
  (hQ:∀D Cn x (q:Pt),Cd c p r D Cn x q->compPost (model c.W.prog c.W.w) c.A (XP c No p r) use Q (.ref D) Cn (.ok .next) q.s):
  wpAny (model c.W.prog c.W.w) c.A (comprehension (.ListComp x [⟨tg,i,fs,0⟩] sc pos) sc c.env pos' (newList []) false (WG i c.env) use) Q (XP c No p r) p.s:=by
 have C':=C
 obtain⟨k1,k2⟩:=oE M.ok
 have hcells:∀y∈sc.names,y.2=.free->∃b,c.env.cells.lookup y.1=some b:=λy hy q=>by
  cases C.fm.cs y.1 (C.kd ((k2 y hy).2.2 q))with |mk b v hc _=>exact⟨b,hc⟩
 refine wpAny_comprehension_free (g:=⟨tg,i,fs,0⟩) (gs:=[]) rfl (iX M.ns) (nT hcells) k1 (λy hy q=>(k2 y hy).2.1 q) ?_
 refine Mine.use ((S n (WO n)).evIt C.down M.it) C hr hb To.refl λ{src p₁ xv} e₁ hr C T _ R₁=>?_
 refine lK C.inv (λb o eb=>(T.ev.there b o eb).imp λ_ q=>q.1) R₁ λitv own h₂ I₂ ev₂ R₂ O₂ N₂=>?_
 refine a0p ?_ (Xu _)
 refine wpAny_newFunctionEnv (λy hy=>(k2 y hy).1) (λy hy=>absurd hy WT) (λh₃ hns₃ hsb₃=>?_) k1
 have hD: (h₂.push {cls:= .type "list",data:= .seq ([]:List Value).toArray}).objs.size=h₂.objs.size+1:=Y1 ..
 dsimp only at hns₃ hsb₃ ⊢
 rw[hD]at hns₃ hsb₃ ⊢
 have ne:∀{b o},h₂.get? b=some o->b≠h₂.objs.size+1:=λe=>XA (Y4 (XO e))
 have keep:∀b o,h₂.get? b=some o->h₃.get? b=some o:=λb o e=>(hsb₃.2 b (ne e)).trans (Wr _ (Wr _ e))
 have hlst:IsL h₃ h₂.objs.size ([]:List Value).toArray 0:=(hsb₃.2 _ (XA (XB _))).trans (Wr _ (WA _ rfl))
 have hnD:h₂.get? h₂.objs.size=none:=aw _
 have hnC:h₂.get? (h₂.objs.size+1)=none:=YU (ZD _)
 have T₂:To No p ⟨p₁.ι,p₁.σ,{p₁.s with heap:=h₂}⟩:=T.on ev₂
 have ev₃:Ev No p₁.ι h₂ p₁.ι h₃:=Ev.keeps No p₁.ι keep
 have T₃:To No p ⟨p₁.ι,p₁.σ,{p₁.s with heap:=h₃,toks:=p₁.s.toks+([]:List (Str × Value)).length}⟩:=T.on (ev₂.trans ev₃)
 have I₃:=I₂.keeps keep
 have C₃:Cf c (n+1) ρ ⟨p₁.ι,p₁.σ,{p₁.s with heap:=h₃,toks:=p₁.s.toks+([]:List (Str × Value)).length}⟩:=C.up I₃ (ev₂.trans ev₃)
 have sC:p.s.heap.get? (h₂.objs.size+1)=none:=T₂.ev.gone hnC
 have sD:p.s.heap.get? h₂.objs.size=none:=T₂.ev.gone hnD
 have cellNe:∀q a,c.env.cells.lookup q=some a->a≠h₂.objs.size+1/\a≠h₂.objs.size:=λq a hc=>by
  obtain⟨v,o,ho,_⟩:=((C.fm.upN ev₂).outc q a hc).is
  exact⟨ne ho,XA (XO ho)⟩
 have hok:gx c.env.scope.names sc=true:=C.nms.symm▸M.ok
 let cc:Cx:=⟨c.W,c.Γ,c.A,compEnvC sc (bY c.env.cells sc.names []) (h₂.objs.size+1) c.env,bD c.ns sc.names,c.L,c.l⟩
 have Cc:Cf cc n (fT t ρ) ⟨p₁.ι,p₁.σ,{p₁.s with heap:=h₃,toks:=p₁.s.toks+([]:List (Str × Value)).length}⟩:=
  ⟨C.gd,C.room.less (ZD n),C₃.fm.comp hok M.lo hns₃ (I₂.out hnC) λq a hc=>(cellNe q a hc).1,I₃,⟨C₃.fx.own,C₃.fx.fr,C₃.fx.top,C₃.fx.ffd⟩,(hU C.fm.kind).trans (congrArg (λl=>bD l sc.names) C.nms),I₂.free hnC,λq a hc=>C.cel q a (dM hc).1⟩
 have T0:qH cc.W cc.env sc.names (λa=>a=h₂.objs.size+1):=⟨rfl,λy q hv=>
  .inl ((dF hv).kd.elim lookup_relabel_local λq2=>absurd rfl (k2 _ (bQ q2)).1)⟩
 have hnO:h₂.objs.size∉own:=λhm=>by
  obtain⟨_,_,o,ho,_⟩:=O₂ _ hm
  rw[hnD]at ho
  cases ho
 have w:Cw cc n (fT t ρ) (cU it) own itv h₂.objs.size p src [] ⟨p₁.ι,p₁.σ,{p₁.s with heap:=h₃,toks:=p₁.s.toks+([]:List (Str × Value)).length}⟩:=
  ⟨Cc,R₂.up O₂ ev₃ (λ_ _ q=>q) λ_ _ _ _ _ q=>q,du.up O₂ ev₃ λ_ _ q=>q,N₂,⟨[],0,hlst,trivial⟩,Xu _,⟨I₂.out hnD,I₂.free hnD,sD,hnO,XA (XB _),λq a hc=>((cellNe q a (dM hc).1).2).symm⟩,sC,T₃⟩
 have loop:codeAny (model c.W.prog c.W.w) c.A (.compLoop (.ListComp x [⟨tg,i,fs,0⟩] sc pos) 0 itv (.ref h₂.objs.size) cc.env)
   (compPost (model c.W.prog c.W.w) c.A (XP c No p r) use Q (.ref h₂.objs.size) (h₂.objs.size+1)) {p₁.s with heap:=h₃,toks:=p₁.s.toks+([]:List (Str × Value)).length}:=by
  refine xp (K:=⟨cc,n,elt,t,ifs,x,tg,fs,sc.names,ρ,fT t ρ,cU it,own,itv,h₂.objs.size,p,_,compPost (model c.W.prog c.W.w) c.A (XP c No p r) use Q (.ref h₂.objs.size) (h₂.objs.size+1)⟩) (q:=⟨p₁.ι,p₁.σ,{p₁.s with heap:=h₃,toks:=p₁.s.toks+([]:List (Str × Value)).length}⟩) (src:=src) (acc:=[]) ⟨λk hk=>S k (Y0 hk),M.el,M.fs,M.mp,T0,BS M.zp,λy hy=>pi hy,λy hy=>rb hy,aE hr hb,λq acc he z=>?_,λe s' z=>?_⟩ rfl w
  ·
   obtain⟨us,kc,hl',V'⟩:=z.lst
   have hnt:∀vs,¬ q.s.heap.IsTuple h₂.objs.size vs:=λvs z=>by
    obtain⟨o,ho,hc,_⟩:=z
    rw[hl']at ho;cases ho;exact absurd hc (by simp)
   have e9:R.ok (V.ref q.σ.length) (q.σ++[O.lst acc])=r:=bind_ok (f:=λvs σ=>R.ok (V.ref σ.length) (σ++[O.lst vs])) he.symm hr
   refine hQ _ _ (.ref q.σ.length) ⟨q.ι++[h₂.objs.size],q.σ++[.lst acc],q.s⟩ ⟨e9,z.inv.adopt (o:= .lst acc) hnt z.out (I₂.free hnD) (.refl ..) ⟨z.len,us,kc,hl',V'.adopt hnt (.refl ..)⟩,⟨z.to.ev.adopt sD (.refl ..),z.to.sm⟩,⟨_,rfl,z.inv.len▸aP _ _⟩,λhm=>?_,z.ns,sC,I₂.free hnC⟩
   rcases X1.mp hm with hm|hm
   ·exact z.loc hm
   ·exact absurd (WF.mp hm) (Nat.succ_ne_self _)
  ·
   have fin:=pM (cc:=cc) (Cn:=h₂.objs.size+1) (r:=r) (p:=p) C' rfl rfl rfl rfl sC (I₂.free hnC) rfl (b8 hr) z
   cases use with
   |none=>exact fin
   |some u=>exact fin
 exact codeAny_compStart_list loop (IR.self w.ir loop)
end
section
variable{n:Nat}{c:Cx}{ρ:Env}{p q:Pt}{a:Wk}{r:R V}
theorem Ns.tups{ι:List Addr}{h h':Heap}{C:Addr}{m:Str->Option Value}(hn:h.Ns C m)(hs:WY C h h'):hF ι h ι h':=λa vs ha z=>by
 obtain⟨o,ho,hc,k,hd⟩:=z
 refine⟨ha,o,(hs.2 a λq=>?_).trans ho,hc,k,hd⟩
 subst q
 obtain⟨o',es,ep,ho',hd'⟩:=Heap.Ns.at hn
 rw[ho]at ho';cases ho';rw[hd]at hd';cases hd'
structure RY(c:Cx)(p q:Pt)(h':Heap)(X:Addr->Prop):Prop where
 inv:ay c.W q.ι q.σ h'
 to:To X p ⟨q.ι,q.σ,{q.s with heap:=h'}⟩
 tup:hF q.ι q.s.heap q.ι h'
theorem gone{X:Addr->Prop}{C:Addr}{m:Str->Option Value}{h':Heap}(I:ay c.W q.ι q.σ q.s.heap)(T:To X p q)(hm:q.s.heap.Ns C m)(ho:C∉q.ι)(hn:p.s.heap.get? C=none)(h0:c.W.h0.get? C=none)(hs:WY C q.s.heap h'):RY c p q h' X:=by
 have ht:hF q.ι q.s.heap q.ι h':=Ns.tups hm hs
 refine⟨I.ofSame ho h0 hs ht,⟨T.ev.stp (own:=[C]) (nq.of λb o hn eo=>(hs.2 b λq=>hn (q▸ .head _)).trans eo) λa ha=>?_,T.sm.trans (Sm.heap q.s h')⟩,ht⟩
 cases WF.mp ha
 exact⟨ho,hn⟩
theorem Ei(S:∀k,k<=n->ce k){elt:E}{t:P}{it:E}{ifs:List E}(C:Cf c (n+1) ρ p)(m:mE c.W c.ns (.comp elt t it ifs) a=true)(hr:wg c.Γ n elt t it ifs ρ p.σ=r)(hb:r≠.bad):Ok c No p r VR (WG a c.env):=by
 refine rT (motive:=λa=>Ok c No p r VR (WG a c.env)) m λx tg i fs sc pos M=>?_
 rw[PySem.eval_ListComp]
 refine oP S C M hr hb λD Cn x q z=>?_
 obtain⟨mm,hm⟩:=z.ns
 exact⟨mm,hm,λh' hs'=>have g:=gone z.inv z.to hm z.out z.new z.new0 hs';val z.e g.inv g.to (z.v.mono (λ_ _ e=>e) g.tup)⟩
theorem DN(S:∀k,k<=n->ce k){e:E}(C:Cf c (n+1) ρ p)(m:mE c.W c.ns e a=true)(hr:ev c.Γ (n+1) e ρ p.σ=r)(hb:r≠.bad):Ok c No p r VR (WG a c.env):=by
 have Sn:=S n (WO n)
 cases e with
 |any=>exact absurd hr.symm hb
 |c v=>exact Rk C m hr
 |loc x=>exact Mh C m hr hb
 |tup es=>exact Hh Sn C m hr hb
 |lst es=>exact Nh Sn C m hr hb
 |dct ks es=>exact Hm S C m hr hb
 |bin op x y=>exact HQ Sn C m hr hb
 |neg x=>exact Ka Sn C m hr hb
 |not x=>exact Lc Sn C m hr hb
 |and es=>exact IY Sn C m hr hb
 |or es=>exact Pw Sn C m hr hb
 |cmp op x y=>exact M0 Sn C m hr hb
 |ite t x y=>exact NS Sn C m hr hb
 |attr o n=>exact Dm Sn C m hr hb
 |idx x y=>exact Ko Sn C m hr hb
 |slice x lo hi=>exact Br Sn C m hr hb
 |call f es=>exact Fc Sn C m hr hb
 |new c es=>exact IO Sn C m hr hb
 |meth o m' es=>exact EA Sn C m hr hb
 |bi b es=>exact P4 Sn C m hr hb
 |isi k x=>exact Nd Sn C m hr hb
 |comp elt p it ifs=>exact Ei S C m hr hb
end
section
variable{d n:Nat}{c:Cx}{ρ:Env}{p q:Pt}{r:R (F × Env)}
theorem vC{n:Nat}{r:R (F × Env)}{d:Nat}{m:List Nat}{v:V}{G:Prop}(C:Cf c n ρ q)(hr:PV q.σ d m v ρ=r)(hb:r≠.bad)
  (k:∀es,a6 q.σ d=some (.sd es)->aU es.length=true-> .ok (.next,ρ) (az q.σ d (.sd (bw es m v)))=r->G):G:=lp hr hb λes hd hr=>am hr hb λhf hr=>k es hd hf hr
theorem v5{n:Nat}{r:R (F × Env)}{m:List Nat}{x v:V}{ou u:Value}(C:Cf c n ρ q)(hr:OB q.σ x m v ρ=r)(hb:r≠.bad)(hm:m∈c.W.an)(V₁:VR q.ι q.s.heap x ou)(V₂:VR q.ι q.s.heap v u){Q:Unit->Wp->Prop}{E:Value->Wp->Prop}
  (done:∀{σ':St} {ι':List Addr} {h':Heap} {tk:Tok},.ok (.next,ρ) σ'=r->ay c.W ι' σ' h'->Ev No q.ι q.s.heap ι' h'->Q () {q.s with heap:=h',toks:=tk}):wpAny (model c.W.prog c.W.w) c.A (setAttr ou (af m) u) Q E q.s:=by
 refine aM hr hb λi ei hr=>a8 hr hb λo hx hr=>?_
 subst ei
 cases o with
 |inst k d=>
  obtain⟨_,_,_,K⟩:=C.gd.known k (C.inv.known hx)
  exact vC C hr hb λes hd hf hr=>Cz C.kin K hm C.inv hx hd hf V₁ V₂ λh' tk I' ev'=>done hr I' ev'
 |exc d=>
  obtain⟨k,_,K⟩:=C.gd.exc
  cases d with
  |some d=>exact vC C hr hb λes hd hf hr=>DG K hm C.inv hx hd hf V₁ V₂ λh' tk I' ev'=>done hr I' ev'
  |none=>exact zt K hm C.inv hx V₁ V₂ λh' tk ι' I' ev'=>done hr I' ev'
 |_=>exact(hb hr.symm).elim
theorem ug(S:ce n){t:T}{a:Wk}{v:V}{u:Value}(C:Cf c (n+1) ρ p)(m:mT c.W c.ns t a=true)(V0:VR p.ι p.s.heap v u)(hr:store c.Γ (n+1) t v ρ p.σ=r)(hb:r≠.bad):Ok c (Xf c.env) p r (RU c.W c.env) (assign a c.env u):=by
 cases t with
 |pat t=>exact a8 hr hb λρ' hρ hr=>fw C.turns t C m V0 hρ λs' C' T'=>val hr C'.inv T' ⟨rfl,C'.fm⟩
 |attr o mm=>
  refine dw m λy nm pos m=>?_
  have m:=ac m
  cases beq_iff_eq.mp m.1
  have m:=ac m.2
  rw[arm_assign_Attribute]
  refine Wj (X3 (use (S.ev C.down m.2) C hr hb To.refl λ{x q ov} _ hr C T t V₁=>?_))
  exact Wj (Xa (Wj (X3 (v5 C hr hb (zG m.1) V₁ (V0.up t.ev) λhr I' ev'=>wpAny_release (val hr I' (T.onN ev') ⟨rfl,C.fm.upN ev'⟩)))))
 |sub o i=>
  refine cW m λy z pos m=>?_
  have m:=ac m
  have m2:=ac m.2
  rw[arm_assign_Subscript]
  refine Wj (X3 (use (S.ev C.down m2.1) C hr hb To.refl λ_ hr C T t V₁=>?_))
  refine Wj (X3 (use (S.ev C.down m2.2) C hr hb T λ_ hr C T t₂ V₂=>?_))
  exact Wj (Xa (Wj (X3 (oy C.inv (V₁.up t₂.ev) V₂ ((V0.up t.ev).up t₂.ev) rfl (aE hr hb) λσ' h' tk e I' ev'=>have z:=bind_ok e.symm hr;wpAny_release (val (x:=(F.next,ρ)) z I' (T.onN ev') ⟨rfl,C.fm.upN ev'⟩)))))
theorem oQ{env:Wy}{b:List Stmt}:∀(a:List Stmt),execs (a++b) env=(execs a env >>= λf=>match f with | .next=>execs b env|f=>pure f)
 | []=>(Zj _ _).symm
 |s::a=>by
  show(exec s env >>= λf=>match f with | .next=>execs (a++b) env|f=>pure f)=((exec s env >>= λf=>match f with | .next=>execs a env|f=>pure f) >>= λf=>match f with | .next=>execs b env|f=>pure f)
  rw[bind_assoc]
  congr 1
  funext f
  cases f<;>first|exact oQ a|exact(Zj _ _).symm
theorem DM{P:Prop}{s:Mine.S}{k:Nat->Bool}{b:Bool}(h:S0 s k b=true)(f:∀i,s=.mk i->k i=true->P)(g:b=true->P):P:=by
 cases s<;>first|exact f _ rfl h|exact g h
theorem exB_cons(Sn:ce n){t:Mine.S}{ts:List Mine.S}{x:Sem Flow}{as:List Stmt}(C:Cf c (n+1) ρ p)(hr:exB c.Γ (n+1) (t::ts) ρ p.σ=r)(hb:r≠.bad)(m:mB c.W (lz c.W c.Γ d) c.ns ts as=true)
  (h1:ex c.Γ n t ρ p.σ≠.bad->Ok c (Xf c.env) p (ex c.Γ n t ρ p.σ) (RF c.W c.env) x):Ok c (Xf c.env) p r (RF c.W c.env) (x >>= λf=>match f with | .next=>execs as c.env|f=>pure f):=by
 refine Wj (WK (h1 (aE hr hb)) (λfl s₁ z=>?_) λ_ _ z=>z.of (b8 hr))
 cases z with |mk q σ₁ ι₁ e₁ I₁ ev₁ sm₁ hz=>
 have hr:=bind_ok e₁ hr
 have T:To (Xf c.env) p ⟨ι₁,σ₁,s₁⟩:=⟨ev₁,sm₁⟩
 have hf:=hz.fl
 cases q with |mk q1 q2=>
 cases q1 with
 |next=>
  cases hf
  exact tail (p:=p) (Sn.exB (p:=⟨ι₁,σ₁,s₁⟩) (C.down.set I₁ hz.fm ev₁) m) hr hb T
 |ret v=>
  refine WS hf λu hu=>?_
  have e:=hu.1
  subst e
  exact Ws (val hr I₁ T ⟨⟨u,rfl,hu.2⟩,hz.fm⟩)
 |_=>cases hf;exact Ws (val hr I₁ T ⟨rfl,hz.fm⟩)
theorem Q1(S:∀k,k<=n->ce k){i:Nat}{as:List Stmt}(C:Cf c n ρ p)(m:lz c.W c.Γ d i c.ns as=true)(hb:ex c.Γ n (.mk i) ρ p.σ≠.bad):Ok c (Xf c.env) p (ex c.Γ n (.mk i) ρ p.σ) (RF c.W c.env) (execs as c.env):=by
 cases n with
 |zero=>exact(hb rfl).elim
 |succ n=>
  cases d with
  |zero=>exact fnt m
  |succ d=>
   refine a8 (o:=c.Γ.mks[i]?) (k:=λb=>mB c.W (lz c.W c.Γ d) c.ns b as) m aV λb eb mb=>?_
   have e:ex c.Γ (n+1) (.mk i) ρ p.σ=exB c.Γ n b ρ p.σ:=congrArg (λo=>opt o (λb=>exB c.Γ n b ρ p.σ) .bad) eb
   rw[e]at hb ⊢
   exact(S n (ZD n)).exB C.down mb hb
theorem BD(S:∀k,k<=n->ce k){ts:List Mine.S}{as:List Stmt}(C:Cf c (n+1) ρ p)(m:mB c.W (lz c.W c.Γ d) c.ns ts as=true)(hr:exB c.Γ (n+1) ts ρ p.σ=r)(hb:r≠.bad):Ok c (Xf c.env) p r (RF c.W c.env) (execs as c.env):=by
 have Sn:=S n (WO n)
 cases ts with
 |nil=>
  cases X6.mp m
  exact YF (val hr C.inv To.refl ⟨rfl,C.fm⟩)
 |cons t ts=>
  refine DM m (λi ei m1=>?_) λm=>?_
  ·have m1:=ac m1
   rw[<-Zq (ru i) as,oQ]
   subst ei
   exact exB_cons Sn C hr hb m1.2 λh=>Q1 S C.down m1.1 h
  ·cases as with
   |nil=>exact fnt m
   |cons a as=>exact exB_cons Sn C hr hb (ac m).2 λh=>Sn.ex C.down (ac m).1 h
theorem DW(S:ce n){e:E}{a:Stmt}(C:Cf c (n+1) ρ p)(m:mS c.W (lz c.W c.Γ d) c.ns (.expr e) a=true)(hr:ex c.Γ (n+1) (.expr e) ρ p.σ=r)(hb:r≠.bad):Ok c (Xf c.env) p r (RF c.W c.env) (exec a c.env):=by
 refine pg m λx pos m=>?_
 have m:=ac m
 have hi:interactive c.env=false:=by unfold interactive;rw[C.fm.kind];rfl
 have hs:swapsWith x none pos.line c.env=pure false:=
  ao (motive:=λx=>swapsWith x none pos.line c.env=pure false) m.1 (λ_ _ _=>rfl) (λ_ _ _ _=>rfl) (λ_ _ _=>rfl) (λ_ _ _ _=>rfl) (λ_ _ _ _ _=>rfl) (λ_ _ _ _=>rfl) (λ_ _ _ _=>rfl) (λ_ _ _ _ _=>rfl) (λ_ _ _ _ _=>rfl) (λ_ _ _ _=>rfl) (λ_ _ _ _=>rfl) (λ_ _ _ _ _=>rfl) (λ_ _ _ _ _=>rfl) aC (λ_ _ _ _=>rfl)
 exact wpAny_Expr_any (use (S.ev C.down m.2) C hr hb To.refl λ_ hr C T _ V=>val hr C.inv T ⟨rfl,C.fm⟩) hi hs
theorem MP(S:ce n){t:E}{x y:List Mine.S}{a:Stmt}(C:Cf c (n+1) ρ p)(m:mS c.W (lz c.W c.Γ d) c.ns (.ite t x y) a=true)(hr:ex c.Γ (n+1) (.ite t x y) ρ p.σ=r)(hb:r≠.bad):Ok c (Xf c.env) p r (RF c.W c.env) (exec a c.env):=by
 refine vq m λu y z pos m=>?_
 have m:=ac m
 have m2:=ac m.2
 refine wpAny_If (use (S.tr C.down m.1) C hr hb To.refl λ{b _ _} _ hr C T _ V=>?_)
 cases V
 cases b with
 |true=>exact tail (S.exB C.down m2.1) hr hb T
 |false=>exact tail (S.exB C.down m2.2) hr hb T
theorem NA(S:ce n){e:Option E}{a:Stmt}(C:Cf c (n+1) ρ p)(m:mS c.W (lz c.W c.Γ d) c.ns (.ret e) a=true)(hr:ex c.Γ (n+1) (.ret e) ρ p.σ=r)(hb:r≠.bad):Ok c (Xf c.env) p r (RF c.W c.env) (exec a c.env):=by
 refine qM m λx pos m=>?_
 cases e with
 |none=>
  cases Xo.mp m
  exact wpAny_Return_none (val hr C.inv To.refl ⟨⟨_,rfl,rfl⟩,C.fm⟩)
 |some e=>exact iC (motive:=λx=>Ok c (Xf c.env) p r (RF c.W c.env) (exec (.Return x pos) c.env)) m λa m=>wpAny_Return_some (use (S.ev C.down m) C hr hb To.refl λ_ hr C T _ V=>val hr C.inv T ⟨⟨_,rfl,V⟩,C.fm⟩)
theorem Eo(S:ce n){x:Nat}{e:E}{a:Stmt}(C:Cf c (n+1) ρ p)(m:mS c.W (lz c.W c.Γ d) c.ns (.augN x e) a=true)(hr:ex c.Γ (n+1) (.augN x e) ρ p.σ=r)(hb:r≠.bad):Ok c (Xf c.env) p r (RF c.W c.env) (exec a c.env):=by
 refine sx m λy o x pos m=>?_
 have m:=ac m
 cases beq_iff_eq.mp m.1
 have m:=ac m.2
 refine be (motive:=λy=>Ok c (Xf c.env) p r (RF c.W c.env) (exec (.AugAssign y .Add x pos) c.env)) m.1 λnm np m0=>?_
 have n0:=dF m0
 have hk:=n0.kd.imp C.kd C.kd
 refine jM rfl (aE hr hb) λold hold e=>wpAny_AugAssign_Name (C.fm.load hold n0.nm hk λou V0=>use (S.ev C.down m.2) C (bind_ok e.symm hr) hb To.refl λ_ hr C T t V₁=>?_)
 refine use (λhb=>lS C.inv (V0.up t.ev) V₁ rfl hb) C hr hb T λ_ hr C T _ V₂=>?_
 exact Fm.store (X:=Xf c.env) C.inv C.fm V₂ n0.nm C.loc C.cel hk (.inl rfl) (λ_ b hc=>.inr ⟨nm,hc⟩) λh' tk I₃ F₃ ev₃=>val hr I₃ (T.on ev₃) ⟨rfl,F₃⟩
theorem rY{z:Wk}(h:dq z=true){o i v:Value}:augStore z o i v=(do
    holding [v,o,i] (setItem o i v)
    release [v,o,i] []
    pure .next):=by cases z<;>first|rfl|exact fnt h
theorem Ec(S:ce n){o i e:E}{a:Stmt}(C:Cf c (n+1) ρ p)(m:mS c.W (lz c.W c.Γ d) c.ns (.augS o i e) a=true)(hr:ex c.Γ (n+1) (.augS o i e) ρ p.σ=r)(hb:r≠.bad):Ok c (Xf c.env) p r (RF c.W c.env) (exec a c.env):=by
 refine sx m λy o x pos m=>?_
 have m:=ac m
 cases beq_iff_eq.mp m.1
 have m:=ac m.2
 refine cW (motive:=λy=>Ok c (Xf c.env) p r (RF c.W c.env) (exec (.AugAssign y .Add x pos) c.env)) m.1 λyo z yp m0=>?_
 have m0:=ac m0
 have m1:=ac m0.2
 rw[arm_exec_AugAssign_3]
 refine Wj (Xa (Wj (use (S.ev C.down m1.1) C hr hb To.refl λ{ov p₁ ou} _ hr C T t₁ V₁=>?_)))
 refine Wj (X3 (use (S.ev C.down m1.2) C hr hb T λ{iv p₂ iu} _ hr C T t₂ V₂=>?_))
 refine Wj (X3 (Wj (Xa (Wj ?_))))
 refine(lM C.inv (V₁.up t₂.ev) V₂ rfl (aE hr hb) λold zu tk e Vz=>?_).2
 have hr:=bind_ok e.symm hr
 refine Wj (X3 (use (q:=⟨p₂.ι,p₂.σ,{p₂.s with toks:=tk}⟩) (S.ev C.tk.down m.2) C.tk hr hb T.tk λ{_ p₃ _} _ hr C T t₃ V₃=>?_))
 refine Wj (Xa (wpAny_operating (use (λhb=>lS C.inv (Vz.up t₃.ev) V₃ rfl hb) C hr hb T λ{_ p₄ nu} _ hr C T t₄ V₄=>?_)))
 refine Wj (Xa ?_)
 rw[rY m0.1]
 exact Wj (X3 (oy C.inv (((V₁.up t₂.ev).up t₃.ev).up t₄.ev) ((V₂.up t₃.ev).up t₄.ev) V₄ rfl (aE hr hb) λσ' h' tk' e I' ev'=>have z:=bind_ok e.symm hr;Wj (wpAny_release (Ws (val (x:=(F.next,ρ)) z I' (T.onN ev') ⟨rfl,C.fm.upN ev'⟩)))))
end
section
variable{d n:Nat}{c:Cx}{ρ:Env}{p q:Pt}{r:R (F × Env)}
theorem gI{W:Wd}{ns:Nms}{t:T}{a:Wk}{env:Wy}(h:mT W ns t a=true): (assignEach [a] env).map (·.2)=[assign a env]:=by
 cases t with
 |pat t=>rw[zd h env];rfl
 |attr o n=>exact dw (motive:=λa=>(assignEach [a] env).map (·.2)=[assign a env]) h λ_ _ _ _=>rfl
 |sub o i=>exact cW (motive:=λa=>(assignEach [a] env).map (·.2)=[assign a env]) h λ_ _ _ _=>rfl
theorem yi{tg x:Wk}{env:Wy}(h:pW tg x=true):swappedStores [tg] x env=pure none:=by
 refine ao (motive:=λtg=>swappedStores [tg] x env=pure none) h (λ_ _ _=>rfl) (λts k p h=>?_) cR (λ_ _ _ _=>rfl) (λ_ _ _ _ _=>rfl) (λ_ _ _ _=>rfl) (λ_ _ _ _=>rfl) (λ_ _ _ _ _=>rfl) (λ_ _ _ _ _=>rfl) (λ_ _ _ _=>rfl) (λ_ _ _ _=>rfl) (λ_ _ _ _ _=>rfl) (λ_ _ _ _ _=>rfl) (λ_ _ _ _ _=>rfl) (λ_ _ _ _=>rfl)
 have two:∀{vs k' p'},4<=ts.length->swappedStores [.Tuple ts k p] (.Tuple vs k' p') env=pure none:=λ{vs k' p'} h4=>by
  have h2: (ts.length==2)=false:=by simp;omega
  have h3: (ts.length==3)=false:=by simp;omega
  have e: (!(ts.length==2||ts.length==3)||vs.length != ts.length||env.blockKind != .function)=true:=by rw[h2,h3];rfl
  exact if_pos e
 rcases ZT.mp h with h|h
 ·have h:=ac h
  exact ao (motive:=λx=>swappedStores [.Tuple ts k p] x env=pure none) h.2 (λ_ _ _=>rfl) (λ_ _ _ _=>two (Wl h.1)) (λ_ _ _=>rfl) (λ_ _ _ _=>rfl) (λ_ _ _ _ _=>rfl) (λ_ _ _ _=>rfl) (λ_ _ _ _=>rfl) (λ_ _ _ _ _=>rfl) (λ_ _ _ _ _=>rfl) (λ_ _ _ _=>rfl) (λ_ _ _ _=>rfl) (λ_ _ _ _ _=>rfl) (λ_ _ _ _ _=>rfl) (λ_ _ _ _ _=>rfl) (λ_ _ _ _=>rfl)
 ·exact ao (motive:=λx=>swappedStores [.Tuple ts k p] x env=pure none) h (λ_ _ _=>rfl) aD (λ_ _ _=>rfl) (λ_ _ _ _=>rfl) (λ_ _ _ _ _=>rfl) (λ_ _ _ _=>rfl) (λ_ _ _ _=>rfl) (λ_ _ _ _ _=>rfl) (λ_ _ _ _ _=>rfl) (λ_ _ _ _=>rfl) (λ_ _ _ _=>rfl) (λ_ _ _ _ _=>rfl) (λ_ _ _ _ _=>rfl) (λ_ _ _ _ _=>rfl) (λ_ _ _ _=>rfl)
theorem sV{tg x:Wk}{l:Nat}{env:Wy}(h:iI x=true):swapsWith x (some tg) l env=pure false:=
 ao (motive:=λx=>swapsWith x (some tg) l env=pure false) h (λ_ _ _=>rfl) (λ_ _ _ _=>rfl) (λ_ _ _=>rfl) (λ_ _ _ _=>rfl) (λ_ _ _ _ _=>rfl) (λ_ _ _ _=>rfl) (λ_ _ _ _=>rfl) (λ_ _ _ _ _=>rfl) (λ_ _ _ _ _=>rfl) (λ_ _ _ _=>rfl) (λ_ _ _ _=>rfl) (λ_ _ _ _ _=>rfl) (λ_ _ _ _ _=>rfl) aC (λ_ _ _ _=>rfl)
theorem kW(S:ce n){t:T}{e:E}{tg x:Wk}{pos:Pos}(C:Cf c (n+1) ρ p)(mt:mT c.W c.ns t tg=true)(me:mE c.W c.ns e x=true)(mn:pW tg x=true)(hr:ex c.Γ (n+1) (a0G t e) ρ p.σ=r)(hb:r≠.bad)
  (hs:swapsWith x (some tg) pos.line c.env=pure false):Ok c (Xf c.env) p r (RF c.W c.env) (exec (.Assign [tg] x pos) c.env):=by
 rw[arm_exec_Assign]
 refine Wj (Xa (Wj (Y2 (show swapsWithSole [tg] x pos.line c.env=pure false from hs) ?_)))
 rw[if_neg Ww]
 refine Wj (use (S.ev C.down me) C hr hb To.refl λ_ hr C T _ V=>?_)
 refine Wj (Y2 (yi mn) ?_)
 unfold assignStores
 rw[gI mt]
 refine Wj (WK (tail (S.store C.down mt V) hr hb T) (λ_ s₂ z=>?_) λ_ _ z=>z)
 obtain⟨q,σ₂,ι₂,e₂,I₂,ev₂,sm₂,hq⟩:=z
 exact Ws ⟨q,σ₂,ι₂,e₂,I₂,ev₂,sm₂,hq.fl▸rfl,hq.fm⟩
theorem Fm.keep{W:Wd}{env:Wy}{ι:List Addr}{h h':Heap}(F:Fm W env ρ ι h)(k:∀b o,Xf env b->h.get? b=some o->h'.get? b=some o)(ht:hF ι h ι h'):Fm W env ρ ι h':=by
 have cell:∀{q b v},env.cells.lookup q=some b->h.IsCell b v->h'.IsCell b v:=λ{q b v} hq z=>by
  obtain⟨o,ho,r⟩:=z
  exact⟨o,k _ _ (.inr ⟨q,hq⟩) ho,r⟩
 refine F.ns.elim λm z=>?_
 obtain⟨⟨oL,es,ep,hoL,rL⟩,hv⟩:=z
 refine⟨F.kind,⟨m,⟨oL,es,ep,k _ _ (.inl rfl) hoL,rL⟩,λy w nm' a b c=>?_⟩,λy w nm' a b c=>?_,λnm' a=>?_,F.apart,F.out,λnm' b hp=>?_,F.glob,F.blt,F.nd⟩
 ·cases hv y w nm' a b c with |mk u h1 h2=>exact⟨u,h1,h2.mono (λ_ _ e=>e) ht⟩
 ·cases F.cl y w nm' a b c with |mk d u h1 h2 h3=>exact⟨d,u,h1,cell h1 h2,h3.mono (λ_ _ e=>e) ht⟩
 ·cases F.cs nm' a with |mk d w h1 h2=>exact⟨d,w,h1,cell h1 h2⟩
 ·have g:=F.outc nm' b hp
  exact⟨g.id,g.loc,g.is.elim λw h3=>⟨w,cell hp h3⟩⟩
theorem Fm.gone{W:Wd}{env:Wy}{ι:List Addr}{h h':Heap}{Cn:Addr}(F:Fm W env ρ ι h)(hnX: ¬ Xf env Cn)(hs:WY Cn h h')(ht:hF ι h ι h'):Fm W env ρ ι h':=
 F.keep (λb o x e=>(hs.2 b λq=>hnX (q▸x)).trans e) ht
theorem MR{W:Wd}{env:Wy}{ι:List Addr}{h:Heap}{Cn:Addr}(F:Fm W env ρ ι h)(z:h.get? Cn=none): ¬ Xf env Cn:=λhx=>
 hx.elim (λhx=>F.ns.elim λml w=>by
  obtain⟨o,es,ep,ho,_⟩:=w.1
  exact ka (hx▸z) ho) λhx=>hx.elim λq hq=>(F.outc q Cn hq).is.elim λv w=>by
  obtain⟨o,ho,_⟩:=w
  exact ka z ho
theorem mQ(S:∀k,k<=n->ce k){t:T}{elt:E}{pp:P}{it:E}{ifs:List E}{x i tg:Wk}{fs:List Wk}{sc:Scope}{cp:Pos}{nm:Str}{np:Pos}{pos:Pos}(C:Cf c (n+1) ρ p)(mt:mT c.W c.ns t (.Name nm np)=true)
  (M:BV c elt pp it ifs x tg i fs sc)(hr:ex c.Γ (n+1) (a0G t (.comp elt pp it ifs)) ρ p.σ=r)(hb:r≠.bad)(hs:swapsWith (.ListComp x [⟨tg,i,fs,0⟩] sc cp) (some (.Name nm np)) pos.line c.env=pure true):
  Ok c (Xf c.env) p r (RF c.W c.env) (exec (.Assign [.Name nm np] (.ListComp x [⟨tg,i,fs,0⟩] sc cp) pos) c.env):=by
 cases n with
 |zero=>exact absurd rfl (aE (r:=ev c.Γ 0 (.comp elt pp it ifs) ρ p.σ) (f:=λv σ=>store c.Γ 0 t v ρ σ) hr hb)
 |succ n=>
 cases t with
 |attr o n=>exact absurd mt Ww
 |sub o i=>exact absurd mt Ww
 |pat t=>
 have hr: (wg c.Γ n elt pp it ifs ρ p.σ).bind (λv σ=>opt (aL t v ρ) (λρ'=>R.ok (.next,ρ') σ) .bad)=r:=hr
 rw[arm_exec_Assign]
 refine Wj (Xa (Wj (Y2 (show swapsWithSole [.Name nm np] (.ListComp x [⟨tg,i,fs,0⟩] sc cp) pos.line c.env=pure true from hs) ?_)))
 rw[if_pos rfl]
 refine Wj ?_
 rw[arm_evalThenUse_ListComp]
 refine Wj ?_
 have E':wpAny (model c.W.prog c.W.w) c.A (comprehension (.ListComp x [⟨tg,i,fs,0⟩] sc cp) sc c.env (firstIterPos [⟨tg,i,fs,0⟩] cp) (newList []) false (WG i c.env) (some λv=>assignAll v ((assignEach [Wk.Name nm np] c.env).map (·.2))))
   (λ_ s'=>EP c.W (Xf c.env) p.ι p.s r (RF c.W c.env) .next s') (XP c No p (wg c.Γ n elt pp it ifs ρ p.σ)) p.s:=by
  refine oP (λk hk=>S k (X8 hk)) C.down M rfl (aE hr hb) λD Cn v q z=>?_
  obtain⟨mm,hm⟩:=z.ns
  rw[gI mt]
  refine a8 (bind_ok z.e.symm hr) hb λρ' hρ hr=>fw C.turns t (C.up z.inv z.to.ev) mt z.v hρ λs'' C'' T''=>?_
  have hnX:=MR C.fm z.new
  obtain⟨o,es,ep,ho,rr⟩:=hm
  have hm'':s''.heap.Ns Cn mm:=⟨o,es,ep,T''.ev.keep Cn o ho z.out hnX,rr⟩
  refine⟨mm,hm'',λh' hs'=>?_⟩
  have g:=gone (X:=Xf c.env) C''.inv (z.to.wide.trans T'') hm'' z.out z.new z.new0 hs'
  exact val hr g.inv g.to ⟨rfl,C''.fm.gone hnX hs' g.tup⟩
 exact WK E' (λ_ s' z=>Ws (Ws z)) λ_ _ z=>z.wide.of (b8 hr)
theorem uC(elt:Wk)(gens:List YJ)(sc:Scope)(cp:Pos)(nm:Str)(np:Pos)(line:Nat)(env:Wy):∃b,swapsWith (.ListComp elt gens sc cp) (some (.Name nm np)) line env=pure b:=⟨_,rfl⟩
theorem ry(S:∀k,k<=n->ce k){t:T}{elt:E}{pp:P}{it:E}{ifs:List E}{tg x:Wk}{pos:Pos}(C:Cf c (n+1) ρ p)(mt:mT c.W c.ns t tg=true)(m:mE c.W c.ns (.comp elt pp it ifs) x=true)
  (hr:ex c.Γ (n+1) (a0G t (.comp elt pp it ifs)) ρ p.σ=r)(hb:r≠.bad): (swapsWith x (some tg) pos.line c.env=pure false->Ok c (Xf c.env) p r (RF c.W c.env) (exec (.Assign [tg] x pos) c.env))->Ok c (Xf c.env) p r (RF c.W c.env) (exec (.Assign [tg] x pos) c.env):=by
 refine rT (motive:=λx=>(swapsWith x (some tg) pos.line c.env=pure false->Ok c (Xf c.env) p r (RF c.W c.env) (exec (.Assign [tg] x pos) c.env))->Ok c (Xf c.env) p r (RF c.W c.env) (exec (.Assign [tg] x pos) c.env)) m λx tg' i fs sc cp M=>?_
 cases t with
 |attr o k=>exact dw mt λ_ _ _ _ k=>k rfl
 |sub o k=>exact cW mt λ_ _ _ _ k=>k rfl
 |pat t=>
  cases t with
  |tup ps=>exact eX (a:=tg) mt λ_ _ _ _ k=>k rfl
  |name v=>
   refine be mt λnm np mv plain=>(uC x [⟨tg',i,fs,0⟩] sc cp nm np pos.line c.env).elim λb hbb=>?_
   cases b with
   |false=>exact plain hbb
   |true=>exact mQ S (t:= a0I (.name v)) C mv M hr hb hbb
theorem x8(S:∀k,k<=n->ce k){t:T}{e:E}{a:Stmt}(C:Cf c (n+1) ρ p)(m:mS c.W (lz c.W c.Γ d) c.ns (a0G t e) a=true)(hr:ex c.Γ (n+1) (a0G t e) ρ p.σ=r)(hb:r≠.bad):Ok c (Xf c.env) p r (RF c.W c.env) (exec a c.env):=by
 refine Cg m λts x pos m=>?_
 refine d5 (motive:=λts=>Ok c (Xf c.env) p r (RF c.W c.env) (exec (.Assign ts x pos) c.env)) m λtg m=>?_
 have m:=ac m
 have m2:=ac m.2
 have m3:=ac m2.2
 have Sn:=S n (WO n)
 have plain:=λhs=>kW Sn (pos:=pos) C m.1 m2.1 m3.1 hr hb hs
 rcases ZT.mp m3.2 with hc|hc
 ·cases e with
  |comp elt pp it ifs=>exact ry S C m.1 m2.1 hr hb plain
  |_=>exact fnt hc
 ·exact plain (sV hc)
end
section
variable{d n:Nat}{c:Cx}{ρ:Env}{p q:Pt}{r:R (F × Env)}{X:Addr->Prop}
theorem tP{α β:Type}{r:R α}{r':R β}{v:Value}{s':Wp}{h:Heap}{E:Value->Wp->Prop}(F:Fx c.W c.A c.env c.L c.l h)(hr:∀k,r'=.exc k->r=.exc k)(T:To X p q)(x:XP c X q r' v s')(k:∀s'',IB c X p r v s''->E v s''):notedBy (model c.W.prog c.W.w) c.A c.env E v s':=
 Gh F x λs3 z=>k s3 <| by cases z with |mk kk e' h1 h2 h3 h4 h5 h6=>exact⟨kk,e',hr kk h1,h2,h3,T.sm.trans h4,Xd.after T.ev h5,Dx.after T.ev h6⟩
theorem du.xf{W:Wd}{env:Wy}{ι:List Addr}{own:List Addr}{h:Heap}(O:du W own ι h)(F:Fm W env ρ ι h):∀a∈own,¬ Xf env a:=λa ha hx=>
 hx.elim (λq=>F.ns.elim λm z=>du.nsp O (q▸z.1) ha) λq=>q.elim λn hq=>(F.outc n a hq).is.elim λv hv=>du.cellp O hv ha
theorem Fm.noPair{W:Wd}{env:Wy}{ι:List Addr}{h:Heap}(F:Fm W env ρ ι h):∀x y a,Yx h a x y->a∉ι->¬ Xf env a:=λx y a hp _ hx=>
 hx.elim (λq=>F.ns.elim λm z=>by
  obtain⟨o,es,ep,ho,hd⟩:=Heap.Ns.at z.1
  cases(q▸hp).symm.trans ho
  cases hd) λq=>q.elim λn hq=>(F.outc n a hq).is.elim λv hv=>by
  obtain⟨o,ho,hd⟩:=hv
  cases hp.symm.trans ho
  cases hd
theorem Fm.xout{W:Wd}{env:Wy}{ι:List Addr}{h:Heap}{b:Addr}(F:Fm W env ρ ι h)(x:Xf env b):b∉ι:=x.elim (λq=>q▸F.out) λq=>q.elim λn hq=>(F.outc n b hq).id
theorem Fm.step{W:Wd}{env:Wy}{ι own:List Addr}{h h':Heap}(F:Fm W env ρ ι h)(O:du W own ι h)(S':nq own ι h h'):Fm W env ρ ι h':=
 F.keep (λb o x e=>S'.keep b o (λhm=>du.xf O F b hm x) (F.xout x) e) (S'.tups O)
structure Lw(c:Cx)(N:Nat)(zp:Bool)(own:List Addr)(it:Value)(p₀:Pt)(src:bA)(ρ:Env)(p:Pt):Prop where
 cf:Cf c N ρ p
 ir:IR zp own p.ι p.s.heap it src
 ow:du c.W own p.ι p.s.heap
 nw:oG p₀.s.heap own
 to:To (Xf c.env) p₀ p
theorem Lw.move{N:Nat}{zp:Bool}{own:List Addr}{it:Value}{p₀:Pt}{src:bA}{ρ':Env}(w:Lw c N zp own it p₀ src ρ p)(C:Cf c N ρ' q)(T:To (Xf c.env) p q):Lw c N zp own it p₀ src ρ' q:=
 have xo:=du.xf w.ow w.cf.fm
 ⟨C,w.ir.up w.ow T.ev xo w.cf.fm.noPair,du.up w.ow T.ev xo,w.nw,w.to.trans T⟩
theorem Lw.next{N:Nat}{zp:Bool}{own:List Addr}{it:Value}{p₀:Pt}{src src':bA}{h':Heap}{tk:Tok}(w:Lw c N zp own it p₀ src ρ p)(I':ay c.W p.ι p.σ h')(S':nq own p.ι p.s.heap h')(O':du c.W own p.ι h')(R':IR zp own p.ι h' it src'):
  Lw c N zp own it p₀ src' ρ ⟨p.ι,p.σ,{p.s with heap:=h',toks:=tk}⟩:=by
 have e1:=nq.ev w.ow O' S'
 refine⟨⟨w.cf.gd,w.cf.room,w.cf.fm.up e1 (λhm=>du.xf w.ow w.cf.fm _ hm (.inl rfl)) (λq d hq hm=>du.xf w.ow w.cf.fm _ hm (.inr ⟨q,hq⟩)),I',w.cf.fx.up e1,w.cf.nms,w.cf.loc,w.cf.cel⟩,R',O',w.nw,?_,w.to.sm.trans (Sm.mk' p.s h' tk)⟩
 exact((w.to.ev.mono (Y:=λa=>Xf c.env a\/a∈own) λ_ q=>.inl q).trans (e1.mono λ_ q=>.inr q)).drop λa ha=>ha.imp id λq=>w.nw a q
noncomputable abbrev LK(I:Nat->Wp->Prop)(Rr:Result->Wp->Prop)(k:Nat)(f:Flow)(s:Wp):Prop:=@Flow.casesOn (λ_=>Prop) f (∃m,m<k+1/\I m s) (Rr (.ok .next) s) (∃m,m<k+1/\I m s) λv=>Rr (.ok (.ret v)) s
theorem tj{I:Nat->Wp->Prop}{Rr:Result->Wp->Prop}{k:Nat}{f:Env->R (F × Env)}{q:F × Env}{fl:Flow}{s:Wp}{ι:List Addr}{σ:St}(hr:eS q σ f=r)(z:RF c.W c.env ι s.heap q fl)(J:ay c.W ι σ s.heap)(T:To (Xf c.env) p ⟨ι,σ,s⟩)
  (h1:f q.2=r->Fm c.W c.env q.2 ι s.heap->I k s)(h2:∀fl s',EP c.W (Xf c.env) p.ι p.s r (RF c.W c.env) fl s'->Rr (.ok fl) s'):LK I Rr k fl s:=by
 have hf:=z.fl
 have F:=z.fm
 cases q with |mk q1 q2=>
 cases q1 with
 |ret w=>
  refine WS hf λu hu=>?_
  have e:=hu.1
  subst e
  exact h2 _ _ (val hr J T ⟨⟨u,rfl,hu.2⟩,F⟩)
 |brk=>cases hf;exact h2 _ _ (val hr J T ⟨rfl,F⟩)
 |_=>cases hf;exact⟨k,XB k,h1 hr F⟩
structure Lp where
 c:Cx
 N:Nat
 d:Nat
 t:P
 b:List S
 tg:Wk
 body:List Stmt
 zp:Bool
 own:List Addr
 it:Value
 p₀:Pt
 r:R (F × Env)
 Rr:Result->Wp->Prop
structure Jc(K:Lp):Prop where
 S:∀k,k<K.N->ce k
 mp:mP K.c.W K.c.ns K.t K.tg=true
 mb:mB K.c.W (lz K.c.W K.c.Γ K.d) K.c.ns K.b K.body=true
 hz:K.zp=true->∃elts x pos,K.tg=.Tuple elts x pos
 hne:K.r≠.bad
 hok:∀fl s',EP K.c.W (Xf K.c.env) K.p₀.ι K.p₀.s K.r (RF K.c.W K.c.env) fl s'->K.Rr (.ok fl) s'
 hex:∀e s',IB K.c (Xf K.c.env) K.p₀ K.r e s'->K.Rr (.error e) s'
noncomputable abbrev Lp.Lw(K:Lp)(src:bA)(ρ:Env)(p:Pt):Prop:=Mine.Lw K.c K.N K.zp K.own K.it K.p₀ src ρ p
inductive Lp.I(K:Lp)(k:Nat)(s:Wp):Prop
 |mk (src:bA) (ρ:Env) (ι:List Addr) (σ:St):loopF K.c.Γ k K.t src K.b ρ σ=K.r->k<=K.N->K.Lw src ρ ⟨ι,σ,s⟩->Lp.I K k s
noncomputable abbrev Lp.wp(K:Lp){α:Type}(t:Sem α)(Q:α->Wp->Prop)(s:Wp):Prop:=wpAny (model K.c.W.prog K.c.W.w) K.c.A t Q (notedBy (model K.c.W.prog K.c.W.w) K.c.A K.c.env λe s'=>K.Rr (.error e) s') s
noncomputable abbrev Lp.item(K:Lp)(k:Nat)(v:Value)(s:Wp):Prop:=K.wp (assign K.tg K.c.env v) (λ_ s₂=>K.wp (execs K.body K.c.env) (LK K.I K.Rr k) s₂) s
theorem Jc.item{K:Lp}(H:Jc K){k:Nat}{src:bA}{v:V}{u:Value}(hk:k+1<=K.N)(w:K.Lw src ρ q)(V0:VR q.ι q.s.heap v u)
  (he:opt (aL K.t v ρ) (λρ'=>(exB K.c.Γ k K.b ρ' q.σ).bind λo σ=>eS o σ λρ=>loopF K.c.Γ k K.t src K.b ρ σ) .bad=K.r):K.item k u q.s:=by
 refine a8 he H.hne λρ' hρ he=>fw w.cf.turns K.t w.cf H.mp V0 hρ λs2 C2 T2=>?_
 have w2:=w.move C2 T2
 refine WK ((H.S k hk).exB (C2.less (WR hk)) H.mb (aE he H.hne)) (λfl s3 z=>?_) λe s3 z=>tP C2.fx (b8 he) w2.to z λs'' z=>H.hex _ s'' z
 cases z with |mk o σ3 ι3 e3 I3 ev3 sm3 hz=>
 have T3:To (Xf K.c.env) ⟨q.ι,q.σ,s2⟩ ⟨ι3,σ3,s3⟩:=⟨ev3,sm3⟩
 exact tj (bind_ok e3 he) hz I3 (w2.to.trans T3) (λhe F3=>⟨src,o.2,ι3,σ3,he,WR hk,w2.move (C2.set I3 F3 ev3) T3⟩) H.hok
theorem qR{K:Lp}(H:Jc K){src:bA}(he:loopF K.c.Γ K.N K.t src K.b ρ p.σ=K.r)(c₀:K.Lw src ρ p):codeAny (model K.c.W.prog K.c.W.w) K.c.A (.forLoop K.tg K.it K.body [] K.c.env) K.Rr p.s:=by
 refine codeAny_forLoop_any (I:=K.I) (λk s hI=>?_) K.N ⟨src,ρ,p.ι,p.σ,he,WO _,c₀⟩
 cases hI with |mk src ρ ι σ he hk w=>
 cases k with
 |zero=>exact(H.hne he.symm).elim
 |succ k=>
  refine a8 he H.hne λrr hn he=>?_
  refine WK (IR.next (E:=notedBy (model K.c.W.prog K.c.W.w) K.c.A K.c.env λe s'=>K.Rr (.error e) s') (target:=K.tg) w.cf.room.hh w.cf.inv w.ow w.ir H.hz hn (Q:=λo s₁=>opt o (λv=>K.item k v s₁) (K.Rr (.ok .next) s₁)) ?_ ?_) (λo s₁ z=>?_) λ_ _ z=>z
  ·refine λhrr=>⟨λh' tk I' S'=>?_⟩
   subst hrr
   exact H.hok .next _ (val (ι':=ι) (σ':=σ) he I' ⟨w.to.ev.stp S' λa ha=>⟨(w.ow a ha).1,w.nw a ha⟩,w.to.sm.trans (Sm.mk' s h' tk)⟩ ⟨rfl,w.cf.fm.step w.ow S'⟩)
  ·refine λv src' hrr=>⟨λu h' tk I' S' V0 O' R'=>?_⟩
   subst hrr
   exact H.item (q:=⟨ι,σ,{s with heap:=h',toks:=tk}⟩) hk (w.next (tk:=tk) I' S' O' R') V0 he
  ·cases o with
   |none=>exact YF z
   |some u=>exact WK z (λ_ _ z=>WK z (λ_ _ z=>WK z (λf _ z=>by cases f<;>exact z) λ_ _ z=>z) λ_ _ z=>z) λ_ _ z=>z
end
section
variable{d n:Nat}{c:Cx}{ρ:Env}{p q:Pt}{r:R (F × Env)}{X:Addr->Prop}
noncomputable def O9(c:Cx)(X:Addr->Prop)(p:Pt)(r:R (F × Env))(q:Result)(s':Wp):Prop:=@Except.casesOn Value Flow (λ_=>Prop) q (λe=>cameBackBy (model c.W.prog c.W.w) c.A c.env (XP c X p r) e s') λf=>EP c.W X p.ι p.s r (RF c.W c.env) f s'
theorem O9.ex(own:c.env.frame=some c.L){e:Value}{s':Wp}(x:IB c X p r e s'):O9 c X p r (.error e) s':=by
 cases x with |mk k e h1 h2 h3 h4 h5 h6=>
 subst h2
 exact Ac own h3 λh' x' d'=>⟨k,e,h1,rfl,x'.any,h4.trans (Sm.heap s' h'),h5.then d',h6.then d'⟩
inductive WI(c:Cx)(N:Nat)(t:E)(b:List Mine.S)(p₀:Pt)(r:R (F × Env))(k:Nat)(s:Wp):Prop
 |mk (ρ:Env) (ι:List Addr) (σ:St):loopW c.Γ k t b ρ σ=r->k<=N->Cf c N ρ ⟨ι,σ,s⟩->To (Xf c.env) p₀ ⟨ι,σ,s⟩->WI c N t b p₀ r k s
theorem rh{N:Nat}(S:∀k,k<N->ce k){t:E}{b:List Mine.S}{test:Wk}{body:List Stmt}{p₀:Pt}{Rr:Result->Wp->Prop}
  (mt:mE c.W c.ns t test=true)(mb:mB c.W (lz c.W c.Γ d) c.ns b body=true)(hb:r≠.bad)(hok:∀fl s',EP c.W (Xf c.env) p₀.ι p₀.s r (RF c.W c.env) fl s'->Rr (.ok fl) s')
  (hex:∀e s',IB c (Xf c.env) p₀ r e s'->Rr (.error e) s')(he:loopW c.Γ N t b ρ p.σ=r)(C₀:Cf c N ρ p)(T₀:To (Xf c.env) p₀ p):
  codeAny (model c.W.prog c.W.w) c.A (.whileLoop test body [] c.env) Rr p.s:=by
 refine codeAny_whileLoop (I:=WI c N t b p₀ r) (λk s hI=>?_) N ⟨ρ,p.ι,p.σ,he,WO _,C₀,T₀⟩
 cases hI with |mk ρ ι σ he hk C T=>
 cases k with
 |zero=>exact(hb he.symm).elim
 |succ k=>
  have Sk:=S k (Nat.lt_of_succ_le hk)
  refine WK (Sk.tr (C.less (WR hk)) mt (aE he hb)) (λq s1 z=>?_) λe s1 z=>tP C.fx (b8 he) T z.wide λs'' z=>hex _ s'' z
  cases z with |mk q' σ1 ι1 e1 I1 ev1 sm1 hq=>
  cases hq
  have he:=bind_ok e1 he
  have T1:To (Xf c.env) p₀ ⟨ι1,σ1,s1⟩:=T.then ⟨ev1,sm1⟩
  have C1:Cf c N ρ ⟨ι1,σ1,s1⟩:=C.up I1 ev1
  cases q with
  |false=>
   rw[if_neg Ww]
   exact YF (hok .next _ (val he I1 T1 ⟨rfl,C1.fm⟩))
  |true=>
   rw[if_pos rfl]
   refine WK (Sk.exB (C1.less (WR hk)) mb (aE he hb)) (λfl s3 z=>?_) λe s3 z=>tP C1.fx (b8 he) T1 z λs'' z=>hex _ s'' z
   cases z with |mk q σ3 ι3 e3 I3 ev3 sm3 hz=>
   have T3:To (Xf c.env) p₀ ⟨ι3,σ3,s3⟩:=T1.trans ⟨ev3,sm3⟩
   have z:=tj (I:=WI c N t b p₀ r) (k:=k) (bind_ok e3 he) hz I3 T3 (λhe F3=>⟨q.2,ι3,σ3,he,WR hk,C1.set I3 F3 ev3,T3⟩) hok
   cases fl<;>exact z
theorem Bb(S:∀k,k<=n->ce k){t:E}{b:List Mine.S}{a:Stmt}(C:Cf c (n+1) ρ p)(m:mS c.W (lz c.W c.Γ d) c.ns (.while t b) a=true)(hr:ex c.Γ (n+1) (.while t b) ρ p.σ=r)(hb:r≠.bad):Ok c (Xf c.env) p r (RF c.W c.env) (exec a c.env):=by
 refine EQ m λu body e pos m=>?_
 have m:=ac m
 cases X6.mp m.1
 have m:=ac m.2
 refine wpAny_While (YE (rh (N:=n) (r:=r) (Rr:=O9 c (Xf c.env) p r) (λk hk=>S k (Y0 hk)) m.1 m.2 hb (λfl s' z=>z) (λe s' z=>O9.ex C.fx.own z) hr C.down To.refl) λr s' z=>?_)
 cases r<;>exact z
theorem JW(S:∀k,k<=n->ce k){t:P}{it:E}{b:List Mine.S}{a:Stmt}(C:Cf c (n+1) ρ p)(m:mS c.W (lz c.W c.Γ d) c.ns (.for_ t it b) a=true)(hr:ex c.Γ (n+1) (.for_ t it b) ρ p.σ=r)(hb:r≠.bad):Ok c (Xf c.env) p r (RF c.W c.env) (exec a c.env):=by
 refine C7 m λtg i body e pos m=>?_
 have m:=ac m
 cases X6.mp m.1
 have m:=ac m.2
 have m2:=ac m.2
 have m3:=ac m2.2
 have m4:=ac m3.2
 refine wpAny_For (use ((S n (WO n)).evIt C.down m4.1) C hr hb To.refl λ{src q xv} _ hr C T tt R₁=>?_) (iX m2.1)
 refine lK C.inv (λb o eb=>(tt.ev.there b o eb).imp λ_ q=>q.1) R₁ λitv own h₂ I₂ ev₂ R₂ O₂ N₂=>?_
 have C₂:Cf c (n+1) ρ ⟨q.ι,q.σ,{q.s with heap:=h₂}⟩:=C.up I₂ ev₂
 refine YE (qR (K:=⟨c,n,d,t,b,tg,body,cU it,own,itv,p,r,O9 c (Xf c.env) p r⟩) (p:=⟨q.ι,q.σ,{q.s with heap:=h₂}⟩) ⟨λk hk=>S k (Y0 hk),m.1,m4.2,BS m3.1,hb,λfl s' z=>z,λe s' z=>O9.ex C.fx.own z⟩ hr ⟨C₂.down,R₂,O₂,N₂,T.onN ev₂⟩) λr s' z=>?_
 cases r<;>exact z
theorem Ea{a:Stmt}(C:Cf c (n+1) ρ p)(m:mS c.W (lz c.W c.Γ d) c.ns .pass a=true)(hr: .ok (.next,ρ) p.σ=r):Ok c (Xf c.env) p r (RF c.W c.env) (exec a c.env):=
 wY (motive:=λa=>Ok c (Xf c.env) p r (RF c.W c.env) (exec a c.env)) m λ_=>wpAny_Pass (val hr C.inv To.refl ⟨rfl,C.fm⟩)
theorem DO{a:Stmt}(C:Cf c (n+1) ρ p)(m:mS c.W (lz c.W c.Γ d) c.ns .cont a=true)(hr: .ok (.cont,ρ) p.σ=r):Ok c (Xf c.env) p r (RF c.W c.env) (exec a c.env):=by
 refine xZ m λpos=>?_
 rw[arm_exec_Continue]
 exact Wj (Xa (Ws (val hr C.inv To.refl ⟨rfl,C.fm⟩)))
theorem Hq{a:Stmt}(C:Cf c (n+1) ρ p)(m:mS c.W (lz c.W c.Γ d) c.ns .brk a=true)(hr: .ok (.brk,ρ) p.σ=r):Ok c (Xf c.env) p r (RF c.W c.env) (exec a c.env):=by
 refine zw m λpos=>?_
 rw[arm_exec_Break]
 exact Wj (Xa (Ws (val hr C.inv To.refl ⟨rfl,C.fm⟩)))
end
section
variable{d n:Nat}{c:Cx}{ρ:Env}{p q:Pt}{r:R (F × Env)}{X:Addr->Prop}
inductive RT(W:Wd)(E:Value->Wp->Prop)(v:Value)(s:Wp):Prop
 |mk (e:Addr) (oe:Obj) (t:Addr):v=.ref e->W.h0.StaysIn s.heap->s.heap.get? e=some oe->oe.cls=.ref (W.ca 2)->oe.data=.fields #[.ref t,.none,.none,.none,.bool false,.none]->E (.ref e) s->RT W E v s
theorem xi{W:Wd}{A:X7}{E:Value->Wp->Prop}{env:Wy}{s:Wp}{as:List (List Nat)}{init:Nat}{x:Sem Value}{Q:Flow->Wp->Prop}(X:rR W as init)(hh:A.handled=none)
  (h:wpAny (model W.prog W.w) A x (RT W E) E s):wpAny (model W.prog W.w) A (raiseStmt env (some x) none) Q E s:=by
 obtain⟨bm,hC0,b1,b2,b3,b4,b5,pass⟩:=X.cls
 have hcB: (Xn (W.ca 2)::bm).contains (.type "BaseException")=true:=by rw[XW,b5,ZZ]
 unfold raiseStmt
 refine Wj (WK h (λv s₁ h₁=>?_) λ_ _ x=>x)
 obtain⟨e,oe,t,rfl,hb,he,hc,hd,hE⟩:=h₁
 have hC:=hb _ _ hC0
 obtain⟨hp,g,d,tk,os⟩:=s₁
 obtain⟨oc,odi,oda,osl⟩:=oe
 dsimp only at hc hd he hC
 subst hc hd
 repeat (first|with_reducible refine Y7 he ?_|with_reducible refine Y7 hC ?_| (with_reducible refine Z3 hC ?_;rw[hcB])|wp_step)
 exact wpAny_raiseNew_none hh hE
structure G3(c:Cx)(p:Pt)(O:Addr)(q:Pt):Prop where
 inv:ay c.W q.ι q.σ q.s.heap
 to:To No p q
 at_:q.ι[p.σ.length]?=some O
 ι:q.ι=p.ι++[O]
theorem xu{us:List Value}(I:ay c.W p.ι p.σ p.s.heap):G3 c p (p.s.heap.objs.size+1) ⟨p.ι++[p.s.heap.objs.size+1],p.σ++[.exc none],{p.s with heap:=(p.s.heap.push {cls:= .type "tuple",data:= .seq us.toArray}).push (cZ (c.W.ca 2) p.s.heap.objs.size)}⟩:=by
 have k1:=aq p.s.heap {cls:= .type "tuple",data:= .seq us.toArray}
 have hsz: (p.s.heap.push {cls:= .type "tuple",data:= .seq us.toArray}).objs.size=p.s.heap.objs.size+1:=Y1 ..
 have k2:=aq (p.s.heap.push {cls:= .type "tuple",data:= .seq us.toArray}) (cZ (c.W.ca 2) p.s.heap.objs.size)
 have hn2: (p.s.heap.push {cls:= .type "tuple",data:= .seq us.toArray}).get? (p.s.heap.objs.size+1)=none:=by rw[<-hsz];exact aw _
 have hin: ((p.s.heap.push {cls:= .type "tuple",data:= .seq us.toArray}).push (cZ (c.W.ca 2) p.s.heap.objs.size)).get? (p.s.heap.objs.size+1)=some (cZ (c.W.ca 2) p.s.heap.objs.size):=by rw[<-hsz];exact WA _ rfl
 exact⟨(I.keeps k1).new k2 hn2 (o:= .exc none) (XR.mk _ _ hin rfl rfl rfl),⟨(Ev.keeps No p.ι k1).trans (Ev.new No _ k2 hn2),Sm.heap p.s _⟩,I.len▸aP _ _,rfl⟩
inductive Ky(σ:St)(n:Nat)(k:List Nat):Prop
 |mk (d:Nat) (es:List (List Nat × V)):a6 σ n=some (.exc (some d))->WD n d=true->a6 σ d=some (.sd es)->ax es [107,105,110,100]=some (.str k)->Ky σ n k
theorem R3{α:Type}{r:R α}{n:Nat}{x:V}{σ:St}{P:Prop}(hr:ql n x σ=r)(hb:r≠.bad)(f:∀k,x=.none->Ky σ n k->R.exc k=r->P):P:=
 e8 hr hb λex hr=>a8 hr hb λ_ hx hr=>CZ hr hb λ_ eo hr=>a8 hr hb λd ed hr=>am hr hb λhl hr=>lp hr hb λes hd hr=>a8 hr hb λv hk hr=>cS hr hb λk ek hr=>
  f k ex ⟨d,es,ed▸eo▸hx,hl,hd,ek▸hk⟩ hr
theorem zQ{p₀ p q₃ q:Pt}{O:Addr}{k:List Nat}(M:G3 c p O q₃)(I:ay c.W p.ι p.σ p.s.heap)(T:To No p₀ p)(F0:tB c.W q₃.s.heap c.l)(I':ay c.W q.ι q.σ q.s.heap)(T':To No q₃ q)(B:Ky q.σ p.σ.length k)(hr:r=.exc k):RT c.W (XP c X p₀ r) (.ref O) q.s:=by
 cases B with |mk d es hx hle hd hk=>
 have ha:q.ι[p.σ.length]?=some O:=T'.ev.pre _ _ M.at_
 cases I'.obj _ _ _ hx ha with |mk o tt ho hoc hod ex=>
 refine WS ex λbx z=>?_
 have hbx:=z.1
 have hbi:=z.2
 cases I'.obj _ _ _ hd hbi with |mk ws D R=>
 refine ly R hk λvk hvk vr=>?_
 obtain⟨tk,rfl⟩:=vr
 have evA:Ev No p₀.ι p₀.s.heap q₃.ι q₃.s.heap:=T.ev.trans M.to.ev
 have hbn:∀a o,p₀.s.heap.get? a=some o->a∉p₀.ι->a≠bx:=λa o e0 hn q=>by
  exact(evA.there a o e0).elim λo' z=>T'.ev.out z.1 (evA.out e0 hn) (q▸WN hbi)
 have hfree:∀a o,q₃.s.heap.get? a=some o->a≠bx:=λa o e0 q=>by
  subst q
  by_cases hm:a∈q₃.ι
  ·obtain⟨j,hj,hja⟩:=ZB.mp hm
   have h1:=T'.ev.pre _ _ ((Wt hj).trans (congrArg some hja))
   obtain⟨g1,g2⟩:=Wv.mp h1
   obtain⟨g3,g4⟩:=Wv.mp hbi
   have h2:j=d:=eY I'.nd g1 g3 (g2.trans g4.symm)
   subst h2
   rw[M.ι,Wu,List.length_singleton,I.len]at hj
   have h4:j=p.σ.length:=Nat.le_antisymm (Nat.le_of_lt_succ hj) (Wl hle)
   rw[h4,hx]at hd
   cases hd
  ·exact T'.ev.out e0 hm (WN hbi)
 refine⟨O,o,tt,rfl,I'.base,ho,hoc,hod,k,O,hr,rfl,⟨I'.base,I'.up _ _ _ hx ha (λl z=>nomatch z),(F0.up T'.ev).ff,o,_,bx,_,tk,ho,hoc,hbx,hod,rfl,D,hvk,λenv' hm' hq=>?_,.inl rfl⟩,T.sm.trans (M.to.sm.trans T'.sm),λa o0 e0 hn hX nf=>⟨o0,(evA.trans T'.ev).keep a o0 e0 hn (λq=>q.elim),rfl,rfl⟩,λa o0 e0 hn oe d' he' hd'=>?_⟩
 ·obtain⟨o',ho'⟩:=tB.mem F0 env' hm' bx hq
  exact hfree bx o' ho' rfl
 ·rw[ho]at he'
  cases he'
  rw[hbx]at hd'
  cases hd'
  exact YQ (hbn a o0 e0 hn)
theorem Ab(S:ce n){es:List E}{a:Stmt}(C:Cf c (n+1) ρ p)(m:mS c.W (lz c.W c.Γ d) c.ns (.raise es) a=true)(hr:ex c.Γ (n+1) (.raise es) ρ p.σ=r)(hb:r≠.bad):Ok c (Xf c.env) p r (RF c.W c.env) (exec a c.env):=by
 refine zR m λx y pos m=>?_
 have m:=ac m
 cases Xo.mp m.1
 refine iC (motive:=λx=>Ok c (Xf c.env) p r (RF c.W c.env) (exec (.Raise x none pos) c.env)) m.2 λx m=>?_
 refine cN (motive:=λx=>Ok c (Xf c.env) p r (RF c.W c.env) (exec (.Raise (some x) none pos) c.env)) m λg gp as pos2 m=>?_
 have m:=ac m
 have m2:=ac m.2
 have m3:=ac m2.2
 obtain⟨kx,hkx,X⟩:=C.gd.exc
 refine(show Ok c (Xf c.env) p r (RF c.W c.env) (do standAt pos;raiseStmt c.env (some (do let v<-WG (.Call (.Name g gp) as [] pos2) c.env;standAt pos;pure v)) none)from ?_)
 refine Wj (Xa (xi X C.room.hh (Wj (WK ?_ (λv s₃ h₃=>Wj (Xa (Ws h₃))) λ_ _ x=>x))))
 refine Zw (js C m.1 (c6 C.gd.kin (.k m2.1) (dI m3.1) ?_))
 refine use (S.evs C.down m3.1) C hr hb To.refl λ{vs q us} ee hr C T t V=>⟨C.inv.base,a8 hr hb λk' hk' hr=>?_⟩
 cases hk'.symm.trans hkx
 obtain⟨bm,hC0,b1,b2,b3,b4,b5,pass⟩:=X.cls
 have hC:=C.inv.base _ _ hC0
 have M:=xu (us:=us) C.inv
 obtain⟨oI,hoI,hfc⟩:=YC.mp (show(c.W.K.lookup (c.W.fa kx.init)).map (·.cls)=some (.type "function")from X.ini.2)
 refine A0 PySem.F.excBase_Exception b1 b2 b3 hC (a00 C.kin X.ini.1) (C.kin _ _ hoI) hfc (yW (Wz (Y0 (ux m3.1 m3.2 ee V)) (by decide))) (a0a ?_)
 have F:=C.fx.up M.to.ev
 refine YE (S.callF (c:={c with A:=c.A.under (.builtin "type.__call__" ⟨.ref (c.W.ca 2)::us,[]⟩)}) (vs:= .ref q.σ.length::vs) C.gd C.room.make M.inv ⟨F.own,F.fr,F.top,F.ffd⟩ (XM ⟨_,rfl,M.at_⟩ (V.up M.to.ev)) (aE hr hb)) λy s₂ z=>?_
 cases y with
 |error e=>
  cases z with |mk k e h1 h2 h3 h4 h5 h6=>
  exact XP.wide (XP.after (t.trans M.to) ⟨k,e,b8 hr k h1,h2,h3,h4,h5,h6⟩)
 |ok fl=>
  cases fl with
  |ret v=>
   cases z with |mk x σ₂ ι₂ e₂ I₂ ev₂ sm₂ V₂=>
   refine R3 (bind_ok e₂ hr) hb λk ex B hk=>?_
   subst ex
   cases V₂
   exact⟨rfl,zQ (q:=⟨ι₂,σ₂,s₂⟩) M C.inv t F.ffd I₂ ⟨ev₂,sm₂⟩ B hk.symm⟩
  |_=>exact z.elim
end
theorem EF{d n:Nat}{c:Cx}{ρ:Env}{p:Pt}{r:R (F × Env)}(S:∀k,k<=n->ce k){t:Mine.S}{a:Stmt}(C:Cf c (n+1) ρ p)(m:mS c.W (lz c.W c.Γ d) c.ns t a=true)(hr:ex c.Γ (n+1) t ρ p.σ=r)(hb:r≠.bad):Ok c (Xf c.env) p r (RF c.W c.env) (exec a c.env):=by
 have Sn:=S n (WO n)
 cases t with
 |any=>exact absurd hr.symm hb
 |pass=>exact Ea C m hr
 |cont=>exact DO C m hr
 |brk=>exact Hq C m hr
 |expr e=>exact DW Sn C m hr hb
 |assign t e=>exact x8 S C m hr hb
 |augN x e=>exact Eo Sn C m hr hb
 |augS o i e=>exact Ec Sn C m hr hb
 |ite t x y=>exact MP Sn C m hr hb
 |for_ p it b=>exact JW S C m hr hb
 |«while» t b=>exact Bb S C m hr hb
 |ret e=>exact NA Sn C m hr hb
 |raise es=>exact Ab Sn C m hr hb
 |try_ e m' z=>exact absurd hr.symm hb
 |mk i=>exact absurd m Ww
theorem z0:ce 0 where
 ev:=λ_ _ hb=>absurd rfl hb
 evs:=λ_ _ hb=>absurd rfl hb
 evO:=λ_ _ hb=>absurd rfl hb
 evAnd:=λ_ _ hb=>absurd rfl hb
 evOr:=λ_ _ hb=>absurd rfl hb
 evIt:=λ_ _ hb=>absurd rfl hb
 tr:=λ_ _ hb=>absurd rfl hb
 trAnd:=λ_ _ hb=>absurd rfl hb
 trOr:=λ_ _ hb=>absurd rfl hb
 callF:=λ_ _ _ _ _ hb=>absurd rfl hb
 ex:=λ_ _ hb=>absurd rfl hb
 exB:=λ_ _ hb=>absurd rfl hb
 store:=λ_ _ _ hb=>absurd rfl hb
theorem zr{n:Nat}(S:∀k,k<=n->ce k):ce (n+1):=
 have Sn:=S n (WO n)
 ⟨λC m hb=>DN S C m rfl hb,λC m hb=>zN Sn C m rfl hb,λC m hb=>BY Sn C m rfl hb,λC m hb=>uq Sn C m rfl hb,λC m hb=>xx Sn C m rfl hb,λC m hb=>yv Sn C m rfl hb,λC m hb=>D8 Sn C m rfl hb,
  λC m hb=>ud Sn C m rfl hb,λC m hb=>yM Sn C m rfl hb,λG R I F V hb=>tO Sn G R I F V rfl hb,λC m hb=>EF S C m rfl hb,λC m hb=>BD S C m rfl hb,λC m V hb=>ug Sn C m V rfl hb⟩
theorem snd(n:Nat):ce n:=by
 induction n using Nat.strongRecOn with
 |ind n ih=>
  cases n with
  |zero=>exact z0
  |succ n=>exact zr λk hk=>ih k (Nat.lt_succ_of_le hk)
end Mine
end
section
open PySem PySem.W PyProof.Rows PySem.SeqAt
namespace Mine
theorem x9{prog:Yz}{w:World}{A:X7}{E:Value->Wp->Prop}{s:Wp}{K:Frag}{x C:Addr}{ox:Obj}{od:Option Obj}{name:Str}{expr:Bool}{Q:Value->Wp->Prop}{v:Value}(X:K.In s.heap)(I:InstAt s.heap x ox C od)
  (hga:findIn K (.ref C) "__getattribute__"=some (some (.builtin "BaseException.__getattribute__")))(hk:findIn K (.ref C) "__getattr__"=some none)(sub:Looks (model prog w) s.heap (isInstance (.ref x) (.type "BaseException")) true)
  (hf:findObj K C od name=some (.value v))(hh:handedIn v=true)(h:Q v {s with toks:=s.toks+1}):wpAny (model prog w) A (getAttr (.ref x) name expr) Q E s:=by
 obtain⟨hp,g,d,t,os⟩:=s
 have L0:=I.type (M:=model prog w)
 have L1:=a00 (M:=model prog w) X hga
 have L2:=a00 (M:=model prog w) X hk
 have L3:=looks_find (M:=model prog w) X I hf
 have f3:=PySem.F.attr_Exception.ga.bind (.ref x)
 have hkd:builtinKind "BaseException.__getattribute__"=some .slot:=by decide +kernel
 have hsplit:splitId "BaseException.__getattribute__"=some ("BaseException","__getattribute__"):=by decide +kernel
 have hx0: (expr&&onTheHeap (Z5 "BaseException.__getattribute__"))=false:=by cases expr<;>rfl
 have hx2: (onTheHeap (Xn C)&&Z5 "BaseException.__getattribute__"==Z5 "object.__getattribute__")=false:=by
  rw[show(Z5 "BaseException.__getattribute__"==Z5 "object.__getattribute__")=false by decide +kernel,Bool.and_false]
 unfold getAttr getAttrBy
 refine Wj (wpAny_mkText (X3 (Wj (L0.at (Wj (L1.at ?_))))))
 dsimp only
 rw[hx2]
 simp only[Ze,if_false]
 unfold getAttrByItsOwn hookBefore
 refine Wj ?_
 rw[show onTheHeap (.ref C)=true from rfl,if_pos rfl]
 refine L2.at ?_
 refine Wj (Z7 (X3 ?_))
 unfold callGetattribute
 rw[hx0]
 simp only[Ze,if_false]
 unfold boundAndCalled
 rw[f3]
 refine Wj (Ws ?_)
 refine a0a (codeAny_call_builtin PySem.F.attr_Exception.ga.plain PySem.F.entry_bexc_ga (@check_slot (model prog w) _ _ _ "BaseException.__getattribute__" "BaseException" "__getattribute__" (.ref x) [.str name t] [] _ hkd hsplit sub (PySem.F.args_bexc_ga _ _) ?_))
 unfold XD.«object.__getattribute__»
 refine Wj (Ws ?_)
 refine Wj (Ws ?_)
 refine Wj (L0.at (Wj (L3.at ?_)))
 refine Ws ?_
 show wpAny _ _ (handedOut v) _ _ _
 rw[handedOut_of hh];exact Ws h
theorem Sm.heapTok{s s':Wp}(x:Sm s s')(h:Heap)(t:Tok):Sm s {s' with heap:=h,toks:=t}:=x.trans (Sm.mk' s' h t)
theorem pD{h h':Heap}{a:Addr}{m:Str->Option Value}(hn:h.Ns a m)(k:∀o,h.get? a=some o->(∀vs,o.data≠.fields vs)->∃o',h'.get? a=some o'/\o'.cls=o.cls/\o'.data=o.data):h'.Ns a m:=by
 obtain⟨o,es,ep,ho,hd,r⟩:=hn
 obtain⟨o',ho',_,hd'⟩:=k o ho (λvs z=>by rw[hd]at z;cases z)
 exact⟨o',es,ep,ho',hd'.trans hd,r⟩
noncomputable abbrev vi(W:Wd)(l:List Wy)(e:Addr)(k:List Nat)(h:Heap):Prop:=w3 W l e k h λvs=>Tr W h e vs λ_=>True
section
variable{n:Nat}{c:Cx}{ρ:Env}{p q:Pt}
theorem rz{W:Wd}{A:X7}{s:Wp}{E:Value->Wp->Prop}{e:Addr}{k:List Nat}{l:List Wy}{Q:Unit->Wp->Prop}(x:vi W l e k s.heap)
  (h:∀h',vi W l e k h'->Ds e s.heap h'->Q () {s with heap:=h'}):wpAny (model W.prog W.w) A (setFlight (.ref e) none) Q E s:=by
 obtain⟨oe,vs,d,kvs,tk,he,hcls,hdict,hd,hsz,hD,hk,hdf,hTr⟩:=x.obj
 obtain⟨T,oT,ts,y,h1,hnT,hTe,hT,hdT,h3,hy⟩:=hTr
 have hsz3:=(Yl.mp h3).1
 unfold setFlight
 refine Wj (X2 he hd h1 ?_)
 rw[if_pos (show(Xn T != XK)=true from rfl)]
 refine YX hT hdT hsz3 (h _ ?_ ⟨λb o hb hn=>⟨o,(WL _ _ (YQ (lX hb hn hT hdT))).trans hb,rfl,rfl⟩,λoe' ho=>⟨oe',(WL _ _ hTe).symm.trans ho,rfl⟩⟩)
 have x2:w3 W l e k s.heap λvs'=>vs'=vs:=⟨x.base,x.new,x.ff,oe,vs,d,kvs,tk,he,hcls,hdict,hd,hsz,hD,hk,hdf,rfl⟩
 refine x2.turn hT hdT hTe hnT λvs' q=>?_
 subst q
 exact⟨T,_,_,XK,h1,hnT,hTe,Xw _ hT (YM (XX hdT _)),XX hdT _,by simp[hsz3],trivial⟩
structure Ended(W:Wd)(s s':Wp):Prop where
 base:∀b o,W.h0.get? b=some o->s'.heap.get? b=some o
 sm:Sm s s'
structure Q7(c:Cx)(x w y:Str)(z:Nat):Prop where
 cn:fg c.W c.ns x (.ref (c.W.ca 2))=true
 en:c.ns.lookup w=some .local
 kn:gu c.W c.ns z y=true
 kl:c.ns.lookup y=some .local
 ne:y≠w
 ed: (w==("__debug__":Str))=false
theorem Cb{A:X7}(hA:A.units+64<cLine){k:List Nat}{cn en kn:Str}{z:Nat}{e0:Addr}{s:Wp}{m:Str->Option Value}{tk':Tok}{p3 p4 p5 p6 p7:Pos}(C:Cf c n ρ p)(N:Q7 c cn en kn z)(hka:gf∈c.W.an)(hok:oK k=true)(x:vi c.W (c.env::c.l.tail) e0 k s.heap)(hf:c.env.frame=some c.env.locals)
  (hm:s.heap.Ns c.env.locals m)(hmk:m kn=some (.str (af k) tk')){E:Value->Wp->Prop}{Q:Flow->Wp->Prop}(h:∀h' tk,Ended c.W s {s with heap:=h',toks:=tk}->h'.Ns c.env.locals (λy=>if y=en then some (.ref e0)else m y)->Q (.ret (.bool true)) {s with heap:=h',toks:=tk}):
  ∀h₅ t0,h₅.Ns c.env.locals (λy=>if y=en then some (.ref e0)else m y)->WY c.env.locals s.heap h₅->wpAny (model c.W.prog c.W.w) A (execs [.Return (some (.Compare (.Attribute (.Name en p3) (af gf) p4) [.Eq] [.Name kn p5] p6)) p7] c.env) Q E {s with heap:=h₅,toks:=t0}:=by
 intro h₅ t0 n5 sb5
 obtain⟨_,_,EO⟩:=C.gd.exc
 obtain⟨bm,hC0,b1,b2,b3,b4,b5,pass⟩:=EO.cls
 obtain⟨oe,vs,d,kvs,tk,he,hcls,hdict,hd,hsz,hD,hk,hdf,hTr⟩:=x.obj
 obtain⟨oL,esL,epL,hoL,hdL⟩:=Heap.Ns.at hm
 have hLd:c.env.locals≠e0:=λq=>by
  rw[q,he]at hoL
  cases hoL
  rw[hd]at hdL
  cases hdL
 have hdn:d≠c.env.locals:=λq=>hdf c.env (.head _) (by rw[hf,q])
 have he5:h₅.get? e0=some oe:=(sb5.2 e0 (YQ hLd)).trans he
 have hD5:h₅.DictOf (sK c.W) d kvs:=by
  obtain⟨o,es,ep,ho,r⟩:=hD
  exact⟨o,es,ep,(sb5.2 d hdn).trans ho,r⟩
 have base5:∀b o,c.W.h0.get? b=some o->h₅.get? b=some o:=λb o hb=>(sb5.2 b (λq=>by rw[q,C.loc]at hb;cases hb)).trans (x.base b o hb)
 have kin5:c.W.K.In h₅:=C.gd.kin.keeps base5
 obtain⟨od,hod,hDo⟩:=Z8.mp hD5
 have hlk:=gC (n:=af gf) hDo
 obtain⟨cd,hcd,hhd⟩:=EO.kcls
 refine Zx (wpAny_Return_some (wpAny_Compare1 ?_ rfl))
 rw[arm_eval_Attribute,cO (o:= .Name en p3) rfl]
 refine Wj (wpAny_Name (ZF C.fm.kind (C.kd N.en) n5 (if_pos rfl) ?_) N.ed)
 refine Wj (Xa (Wj (X3 ?_)))
 have IA:InstAt h₅ e0 oe (c.W.ca 2) (some od):=⟨he5,hcls,by simp[notCls,hd],by rw[hdict];exact hod⟩
 have sub5:Looks (model c.W.prog c.W.w) h₅ (isInstance (.ref e0) (.type "BaseException")) true:=by
  refine(IA.type (M:=model c.W.prog c.W.w)).andThen ?_
  unfold isSubtype
  refine(((Looks.ld (part:=none) (base5 _ _ hC0)).andThen .now).andThen .now:Looks (model c.W.prog c.W.w) h₅ (mroOf (.ref (c.W.ca 2))) (.ref (c.W.ca 2)::bm)).andThen ?_
  dsimp only
  rw[if_neg (by simp),XW,b5,ZZ]
  exact .now
 refine x9 (v:= .str (af k) tk) kin5 IA EO.ga EO.hk sub5 ?_ rfl ?_
 ·unfold findObj
  rw[hcd]
  simp only[Yk,EO.att _ hka]
  unfold PySem.W.ownOf
  rw[hhd,if_pos rfl]
  simp only[hlk,hk,Yk]
 ·refine Wj (ZE (Ws ?_))
  refine wpAny_Name (ZF C.fm.kind (C.kd N.kl) n5 (v:= .str (af k) tk') ((if_neg N.ne).trans hmk) ?_) (dF N.kn).db
  have r1:∀t,Reads h₅ (.str (af k) t) (pd (.str k)) []:=λt=>VR.reads (ι:=[]) (x:= .str k) ⟨_,rfl⟩ hok
  refine compareEq_reads (r1 tk) (r1 tk') (lY hok) (lY hok) ?_ ?_
  ·rw[jj]
   exact X5 (XC (Xu 64) _) hA
  ·have:Ys (pd (.str k)) (pd (.str k))=true:=by
    rw[uE (a:= .str k) (b:= .str k) hok hok]
    rw[show ny (.str k) (.str k)=bp k k from rfl,eqN_refl]
   rw[this]
   exact h h₅ _ ⟨base5,Sm.mk' s _ _⟩ n5
theorem xj{r:R V}{Q:Flow->Wp->Prop}(S:ce n)(C:Cf c n ρ p)(hL:c.L=c.env.locals){l:List Wy}(hl:c.l=c.env::l){e:E}{x:Wk}(hx: (iI x&&mE c.W c.ns e x)=true)(hr:ev c.Γ n e ρ p.σ=r)(hb:r≠.bad)
  {cn en kn:Str}{z:Nat}(N:Q7 c cn en kn z)(hka:gf∈c.W.an)(hN:∀v s₁,EP c.W No p.ι p.s r VR v s₁->Q .next s₁)(hk:∀k,r=.exc k->oK k=true/\aa ρ z=some (.str k)/\∀s',Ended c.W p.s s'->Q (.ret (.bool true)) s'){p1 p2 p3 p4 p5 p6 p7 p8 p9:Pos}:
  wpAny (model c.W.prog c.W.w) c.A (exec (.Try [.Expr x p1] [.ExceptHandler (some (.Name cn p2)) (some en) [.Return (some (.Compare (.Attribute (.Name en p3) (af gf) p4) [.Eq] [.Name kn p5] p6)) p7] p8] [] [] p9) c.env) Q (λ_ _=>False) p.s:=by
 have hfr:c.A.frames=some (c.env::l):=hl▸C.fx.fr
 have hf:c.env.frame=some c.env.locals:=hL▸C.fx.own
 have hx:=ac hx
 have hi:interactive c.env=false:=by unfold interactive;rw[C.fm.kind];rfl
 have hs:swapsWith x none p1.line c.env=pure false:=
  ao (motive:=λx=>swapsWith x none p1.line c.env=pure false) hx.1 (λ_ _ _=>rfl) (λ_ _ _ _=>rfl) (λ_ _ _=>rfl) (λ_ _ _ _=>rfl) (λ_ _ _ _ _=>rfl) (λ_ _ _ _=>rfl) (λ_ _ _ _=>rfl) (λ_ _ _ _ _=>rfl) (λ_ _ _ _ _=>rfl) (λ_ _ _ _=>rfl) (λ_ _ _ _=>rfl) (λ_ _ _ _ _=>rfl) (λ_ _ _ _ _=>rfl) aC (λ_ _ _ _=>rfl)
 refine wpAny_Try_except (Zx (wpAny_Expr_any (WK (S.ev C hx.2 (hr▸hb)) (λv s₁ z=>YF (YF (hN v s₁ (hr▸z)))) λv s₁ z=>?_) hi hs))
 ·cases z with |mk k1 e0 h1 h2 hx1 sm1 xd dx=>
  subst h2
  have H:=hk k1 (hr.symm.trans h1)
  have hok:=H.1
  have hz:=H.2.1
  rw[hl,hL]at hx1
  refine C.fm.ns.elim λm0 zz=>?_
  obtain⟨hm0,hvars⟩:=zz
  cases hvars z _ kn hz (dF N.kn).nm (C.kd N.kl)with |mk uk hmk vk=>
  obtain⟨tk',rfl⟩:=vk
  have n1:s₁.heap.Ns c.env.locals m0:=pD hm0 λo ho hn=>xd _ o ho C.fm.out (λq=>q) hn
  refine lI hfr hf hf hx1 λh₂ x₂ d₂=>?_
  refine fG (s:={s₁ with heap:=h₂}) (fr:=none) x₂ λh₃ x₃ d₃=>?_
  have n3:h₃.Ns c.env.locals m0:=pD n1 λo ho hn=>(d₂.trans d₃).data _ o ho hn
  have x3:vi c.W (c.env::l) e0 k1 h₃:=x₃.mono λvs z=>by
   obtain⟨T,oT,ts,y,a,b,c,d,f,g,_⟩:=z
   exact⟨T,oT,ts,y,a,b,c,d,f,g,trivial⟩
  have gl:=vR N.cn
  refine wpAny_handleBy_cons (codeAny_handlers_test (a0f C.fm.kind (C.kd gl.kd) (oH (s:={s₁ with heap:=h₃}) (C.gd.kin.keeps x3.base) C.fm.glob C.fm.blt gl.gl ?_) gl.db)) (by intro q;cases q)
  obtain⟨_,_,EO⟩:=C.gd.exc
  obtain⟨bm,hC0,b1,b2,b3,b4,b5,pass⟩:=EO.cls
  obtain⟨oe,vs,d,kvs,tk,he,hcls,_⟩:=x3.obj
  show wpAny (model c.W.prog c.W.w) _ (excMatches (.ref e0) (.ref (c.W.ca 2))) _ _ ⟨h₃,s₁.gens,s₁.drawn,s₁.toks,s₁.os⟩
  refine wpAny_excMatches_sub_self (x3.base _ _ hC0) he hcls b5 (codeAny_handlers_suite_as ?_)
  refine rz (s:=⟨h₃,s₁.gens,s₁.drawn,s₁.toks,s₁.os⟩) x3 λh₄ x4 d₄=>?_
  have n4:h₄.Ns c.env.locals m0:=pD n3 λo ho hn=>d₄.data _ o ho hn
  have hp: (c.env.scope.kind== .class||(c.env.scope.kind== .module&&c.env.locals != c.env.globals))=false:=by rw[C.fm.kind];rfl
  have hl':c.env::c.l.tail=c.env::l:=by rw[hl];rfl
  refine wpAny_storeName_local (C.kd N.en) n4 (λh5 n5 sb5=>Cb (s:=⟨h₄,s₁.gens,s₁.drawn,s₁.toks,s₁.os⟩) (A:=c.A.mark (some (.ref e0))) C.room.big C N hka hok (hl'.symm▸x4) hf n4 hmk (λh₅ tk E5 n5=>?_) h5 _ n5 sb5) hp
  refine wpAny_nameGoes (C.kd N.en) n5 hp λh₆ m6 n6 sb6=>H.2.2 _ ⟨λb o hb=>(sb6.2 b (λq=>by rw[q,C.loc]at hb;cases hb)).trans (E5.base b o hb),sm1.heapTok _ _⟩
end
end Mine
end
section
open PySem PySem.W PyProof.Rows
namespace Mine
noncomputable def Rq(W:Wd)(ns:Nms)(z:Nat)(h:a0q):Bool:=@a0q.casesOn (λ_=>Bool) h λt n b _=>qS t λt=>dD t λcn=>qS n λen=>q1 b λst=>EB st λv=>qS v λv=>AT v λl os rs=>q1 os λo=>q1 rs λr=>qr l λlo ak _=>dD lo λen2=>dD r λkn=>
  o==Aa .eq&&(fg W ns cn (.ref (W.ca 2))&&(ns.lookup en==some .local&&(gu W ns z kn&&(ns.lookup kn==some .local&&(kn != en&&(!(en==("__debug__":Str))&&(en2==en&&ak==af gf)))))))
noncomputable def GZ(W:Wd)(ns:Nms)(te:E)(z:Nat)(s:Stmt):Bool:=Pj s λb hs el fin=>el.isEmpty&&(fin.isEmpty&&(q1 b λe=>ww e λx=>(iI x&&mE W ns te x)&&q1 hs (Rq W ns z)))
noncomputable def mL(W:Wd)(ns:Nms)(d:Nat):List Mine.S->List Stmt->Bool:=@XI (λ_=>List Mine.S->List Stmt->Bool) (λ_ _=>false) (λ_ ih ss as=>lc ss as.isEmpty λs r=>lc as false λa as=>
 sT s (λe _ z=>GZ W ns e z a) (λt x y=>Qn a λu p q=>mE W ns t u&&(ih x p&&ih y q)) (mS W (λ_ _ _=>false) ns s a)&&ih r as) d
noncomputable def iQ(r:R (F × Env)):Prop:=@R.rec (F × Env) (λ_=>Prop) (λq _=>q.1≠.ret (.bool false)) (λ_=>False) False r
theorem iQ.ne{r:R (F × Env)}(f:iQ r):r≠.bad:=λe=>by subst e;exact f
theorem iQ.nx{r:R (F × Env)}(f:iQ r){k:List Nat}:r≠.exc k:=λe=>by subst e;exact f
theorem iQ.not{ρ:Env}{σ:St}{r:R (F × Env)}(f:iQ r):R.ok (F.ret (.bool false),ρ) σ≠r:=λe=>by subst e;exact f rfl
theorem iQ.of{r r':R (F × Env)}{k:Env->St->R (F × Env)}(h:r.bind (λq σ=>bO q σ λρ=>k ρ σ)=r')(f:iQ r'):iQ r:=by
 subst h
 cases r with
 |ok q σ=>
  cases q with |mk q ρ=>
  cases q with
  |ret v=>exact f
  |_=>exact λe=>nomatch e
 |_=>exact f
section
variable{n N d:Nat}{c:Cx}{ρ ρ':Env}{p q:Pt}{r r':R (F × Env)}
inductive O1(c:Cx)(p:Pt)(r:R (F × Env))(fl:Flow)(s':Wp):Prop
 |go:EP c.W (Xf c.env) p.ι p.s r (RF c.W c.env) fl s'->O1 c p r fl s'
 |met (ρ:Env) (σ:St):r=.ok (.ret (.bool true),ρ) σ->fl=.ret (.bool true)->Ended c.W p.s s'->O1 c p r fl s'
noncomputable abbrev G2(c:Cx)(p:Pt)(r:R (F × Env))(t:Sem Flow):Prop:=wpAny (model c.W.prog c.W.w) c.A t (O1 c p r) (λ_ _=>False) p.s
theorem Ended.after{W:Wd}{s s₁ s':Wp}(x:Ended W s₁ s')(sm:Sm s s₁):Ended W s s':=⟨x.1,sm.trans x.2⟩
theorem O1.after{fl:Flow}{s':Wp}(T:To (Xf c.env) p q)(x:O1 c q r fl s'):O1 c p r fl s':=by
 cases x with
 |go z=>exact .go (EP.after T z)
 |met ρ σ e f z=>exact .met ρ σ e f (z.after T.sm)
theorem Bu{a:Stmt}{as:List Stmt}{k:Env->St->R (F × Env)}(C:Cf c N ρ p)(hr:r.bind (λq σ=>bO q σ λρ=>k ρ σ)=r')(h:G2 c p r (exec a c.env))(g:∀{ρ q},Cf c N ρ q->k ρ q.σ=r'->G2 c q r' (execs as c.env)):G2 c p r' (execs (a::as) c.env):=by
 refine Zx (WK h (λfl s₁ z=>?_) λ_ _ z=>z)
 cases z with
 |met ρ σ e f z=>
  subst f
  exact .met ρ σ (bind_ok e hr).symm rfl z
 |go z=>
  cases z with |mk q σ₁ ι₁ e₁ I₁ ev₁ sm₁ hz=>
  have hr:=bind_ok e₁ hr
  have T:To (Xf c.env) p ⟨ι₁,σ₁,s₁⟩:=⟨ev₁,sm₁⟩
  have hf:=hz.fl
  cases q with |mk q1 q2=>
  cases q1 with
  |next=>
   cases hf
   exact WK (g (q:=⟨ι₁,σ₁,s₁⟩) (C.set I₁ hz.fm ev₁) hr) (λ_ _ z=>z.after T) λ_ _ z=>z
  |ret v=>
   refine WS hf λu hu=>?_
   have e:=hu.1
   subst e
   exact .go (val hr I₁ T ⟨⟨u,rfl,hu.2⟩,hz.fm⟩)
  |_=>cases hf;exact .go (val hr I₁ T ⟨rfl,hz.fm⟩)
theorem ve{te:E}{z:Nat}{st:Stmt}{r:R V}{Q:Flow->Wp->Prop}(S:ce n)(m:GZ c.W c.ns te z st=true)(hka:gf∈c.W.an)(hL:c.L=c.env.locals){l:List Wy}(hl:c.l=c.env::l)(C:Cf c n ρ p)(hr:ev c.Γ n te ρ p.σ=r)(hb:r≠.bad)
  (hN:∀v s₁,EP c.W No p.ι p.s r VR v s₁->Q .next s₁)(hk:∀k,r=.exc k->oK k=true/\aa ρ z=some (.str k)/\∀s',Ended c.W p.s s'->Q (.ret (.bool true)) s'):
  wpAny (model c.W.prog c.W.w) c.A (exec st c.env) Q (λ_ _=>False) p.s:=by
 let P:Stmt->Prop:=λst=>wpAny (model c.W.prog c.W.w) c.A (exec st c.env) Q (λ_ _=>False) p.s
 refine AP (motive:=P) m λb hs el fin x0 m=>?_
 have m:=ac m
 have m2:=ac m.2
 cases X6.mp m.1
 cases X6.mp m2.1
 refine d5 (motive:=λb=>P (.Try b hs [] [] x0)) m2.2 λe m=>?_
 refine pg (motive:=λe=>P (.Try [e] hs [] [] x0)) m λx x1 m=>?_
 have m:=ac m
 have mx:=m.1
 refine d5 (motive:=λhs=>P (.Try [.Expr x x1] hs [] [] x0)) m.2 λh m=>?_
 obtain⟨t,nn,b,hp⟩:=h
 refine iC (motive:=λt=>P (.Try [.Expr x x1] [.ExceptHandler t nn b hp] [] [] x0)) m λt m=>?_
 refine be (motive:=λt=>P (.Try [.Expr x x1] [.ExceptHandler (some t) nn b hp] [] [] x0)) m λcn x2 m=>?_
 refine iC (motive:=λnn=>P (.Try [.Expr x x1] [.ExceptHandler (some (.Name cn x2)) nn b hp] [] [] x0)) m λen m=>?_
 refine d5 (motive:=λb=>P (.Try [.Expr x x1] [.ExceptHandler (some (.Name cn x2)) (some en) b hp] [] [] x0)) m λst m=>?_
 let P2:Stmt->Prop:=λst=>P (.Try [.Expr x x1] [.ExceptHandler (some (.Name cn x2)) (some en) [st] hp] [] [] x0)
 refine qM (motive:=P2) m λv x3 m=>?_
 refine iC (motive:=λv=>P2 (.Return v x3)) m λv m=>?_
 refine my (motive:=λv=>P2 (.Return (some v) x3)) m λlf os rs x4 m=>?_
 refine d5 (motive:=λos=>P2 (.Return (some (.Compare lf os rs x4)) x3)) m λo m=>?_
 refine d5 (motive:=λrs=>P2 (.Return (some (.Compare lf [o] rs x4)) x3)) m λr m=>?_
 refine dw (motive:=λlf=>P2 (.Return (some (.Compare lf [o] [r] x4)) x3)) m λlo ak x5 m=>?_
 refine be (motive:=λlo=>P2 (.Return (some (.Compare (.Attribute lo ak x5) [o] [r] x4)) x3)) m λen2 x6 m=>?_
 refine be (motive:=λr=>P2 (.Return (some (.Compare (.Attribute (.Name en2 x6) ak x5) [o] [r] x4)) x3)) m λkn x7 m=>?_
 have m:=ac m
 have m1:=ac m.2
 have m2:=ac m1.2
 have m3:=ac m2.2
 have m4:=ac m3.2
 have m5:=ac m4.2
 have m6:=ac m5.2
 have m7:=ac m6.2
 cases beq_iff_eq.mp m.1
 cases beq_iff_eq.mp m7.1
 cases beq_iff_eq.mp m7.2
 exact xj S C hL hl mx hr hb ⟨m1.1,beq_iff_eq.mp m2.1,m3.1,beq_iff_eq.mp m4.1,bne_iff_ne.mp m5.1,xY m6.1⟩ hka hN hk
theorem Pf{e:E}{m:List Nat}{z:Nat}{a:Stmt}{as:List Stmt}{k:St->R (F × Env)}(mt:GZ c.W c.ns e z a=true)(hka:gf∈c.W.an)(hL:c.L=c.env.locals){l:List Wy}(hl:c.l=c.env::l)(hn:n<=N)(C:Cf c N ρ p)(hr:u7 c.Γ n e m z ρ p.σ k=r)(f:iQ r)
  (g:∀{q},Cf c N ρ q->k q.σ=r->G2 c q r (execs as c.env)):G2 c p r (execs (a::as) c.env):=by
 have bad:ev c.Γ n e ρ p.σ≠.bad:=λe=>f.ne (hr.symm.trans (congrArg (λx=>@R.rec V (λ_=>R (F × Env)) (λ_ σ=>k σ) _ .bad x) e))
 refine Zx (ve (snd n) mt hka hL hl (C.less hn) rfl bad (λv s₁ z=>?_) λkd hk=>?_)
 ·cases z with |mk x σ₁ ι₁ e₁ I₁ ev₁ sm₁ V₁=>
  have hr:k σ₁=r:=(congrArg (λx=>@R.rec V (λ_=>R (F × Env)) (λ_ σ=>k σ) _ .bad x) e₁).symm.trans hr
  exact WK (g (q:=⟨ι₁,σ₁,s₁⟩) (C.up I₁ ev₁) hr) (λ_ _ z=>z.after (To.wide ⟨ev₁,sm₁⟩)) λ_ _ z=>z
 ·have hr:gd (bp m [107,105,110,100]) (opt (aa ρ z) (λv=>jv v (λkd'=>gd (oK kd') (.ok (.ret (.bool (bp kd kd')),ρ) p.σ)) .bad) .bad)=r:=(congrArg (λx=>@R.rec V (λ_=>R (F × Env)) (λ_ σ=>k σ) _ .bad x) hk).symm.trans hr
  refine am hr f.ne λ_ hr=>a8 hr f.ne λv hv hr=>cS hr f.ne λkd' ev hr=>am hr f.ne λhok hr=>?_
  cases q:bp kd kd' with
  |false=>exact(f.not (q▸hr)).elim
  |true=>
   have e:=eqN_eq q
   subst e
   exact⟨hok,ev▸hv,λs' z=>.met _ _ (q▸hr).symm rfl z⟩
theorem ym(hka:gf∈c.W.an)(hL:c.L=c.env.locals){l:List Wy}(hl:c.l=c.env::l):∀(n:Nat) {d:Nat} {ss:List Mine.S} {as:List Stmt} {ρ:Env} {p:Pt} {r:R (F × Env)},n<=N->Cf c N ρ p->mL c.W c.ns d ss as=true->gY c.Γ n ss ρ p.σ=r->iQ r->G2 c p r (execs as c.env):=by
 intro n
 induction n with
 |zero=>exact λ_ _ _ hr f=>(f.ne hr.symm).elim
 |succ n ih=>
  intro d ss as ρ p r hn C m hr f
  have hn:=WR hn
  cases d with
  |zero=>exact fnt m
  |succ d=>
  cases ss with
  |nil=>
   cases X6.mp m
   exact YF (.go (val hr C.inv To.refl ⟨rfl,C.fm⟩))
  |cons s ss=>
  cases as with
  |nil=>exact fnt m
  |cons a as=>
  have m:=ac m
  have next:∀{ρ q},Cf c N ρ q->gY c.Γ n ss ρ q.σ=r->G2 c q r (execs as c.env):=λC hr=>ih hn C m.2 hr f
  have plain:mS c.W (lz c.W c.Γ 0) c.ns s a=true->(ex c.Γ n s ρ p.σ).bind (λq σ=>bO q σ λρ=>gY c.Γ n ss ρ σ)=r->G2 c p r (execs (a::as) c.env):=λm1 hr=>
   Bu (k:=gY c.Γ n ss) C hr (WK ((snd n).ex (C.less hn) m1 (iQ.of hr f).ne) (λ_ _ z=>.go z) λv s₁ z=>by cases z with |mk k e h1=>exact(iQ.of hr f).nx h1) next
  cases s with
  |try_ e mm z=>exact Pf m.1 hka hL hl hn C hr f λC hr=>next C hr
  |ite t x y=>
   have m1:=m.1
   refine Bu (r:=(tr c.Γ n t ρ p.σ).bind λq σ=>tf q (gY c.Γ n x ρ σ) (gY c.Γ n y ρ σ)) (k:=gY c.Γ n ss) C hr ?_ next
   have f1:=iQ.of hr f
   refine vq m1 λu b el x0 m1=>?_
   have m1:=ac m1
   have m2:=ac m1.2
   refine wpAny_If (WK ((snd n).tr (C.less hn) m1.1 (aE rfl f1.ne)) (λb' s₃ w=>?_) λv s₃ w=>by cases w with |mk k e h1=>exact(f1.nx (b8 rfl k h1)).elim)
   cases w with |mk b'' σ' ι₃ e' I₃ ev₃ sm₃ hq=>
   cases hq
   have C₃:Cf c N ρ ⟨ι₃,σ',s₃⟩:=C.up I₃ ev₃
   have hr1:=bind_ok (f:=λq σ=>tf q (gY c.Γ n x ρ σ) (gY c.Γ n y ρ σ)) e' rfl
   have T:To (Xf c.env) p ⟨ι₃,σ',s₃⟩:=To.wide ⟨ev₃,sm₃⟩
   cases b' with
   |true=>exact WK (ih (p:=⟨ι₃,σ',s₃⟩) hn C₃ m2.1 hr1 f1) (λ_ _ z=>z.after T) λ_ _ z=>z
   |false=>exact WK (ih (p:=⟨ι₃,σ',s₃⟩) hn C₃ m2.2 hr1 f1) (λ_ _ z=>z.after T) λ_ _ z=>z
  |_=>exact plain m.1 hr
theorem yu{W:Wd}{Γ:bU}{A:X7}{s:Wp}{ι:List Addr}{σ σ':St}(G:Cs W Γ){f:Nat}{d:ae}{bd:List Stmt}{sc:Scope}{dd:Nat}(FO:zm W f d bd sc)(hka:gf∈W.an)(hlaw:mL W sc.names dd d.body bd=true){vs:List V}{vals:List Value}
  (R:hM A (N+1))(hfr:A.frames=some [])(I:ay W ι σ s.heap)(Va:aB ι s.heap vs vals)(hf:Γ.fns[f]?=some d)(run:rj Γ N f vs σ=.ok (.bool true) σ'):
  codeAny (model W.prog W.w) A (.call (.ref (W.fa f)) ⟨vals,[]⟩) (λr s'=>@Except.casesOn Value Flow (λ_=>Prop) r (λ_=>False) λf=>@Flow.casesOn (λ_=>Prop) f False False False λv=>v=.bool true/\Ended W s s') s:=by
 refine a8 run (λq=>nomatch q) λd' hd' run=>?_
 cases hd'.symm.trans hf
 refine a8 run (λq=>nomatch q) λρ hρ run=>?_
 refine YE (w1 (Q:=λv s'=>v=.bool true/\Ended W s s') (E:=λ_ _=>False) FO I hfr trivial (X5 (WC _ _) R.dp) Va hρ λenv₁ s₁ F₁ I₁ S₁ ev₁ sm₁ hsc hf hL hc=>?_) λr s' z=>by
  cases r with
  |ok f=>cases f<;>exact z
  |error e=>exact z
 have hfr1: (A.deeper env₁).frames=some [env₁]:=ZI hfr
 have hff:tB W s₁.heap [env₁]:=by
  obtain⟨_,_,h1,_,h3⟩:=S₁
  rw[hfr1]at h1
  cases h1
  exact h3
 have C₁:Cf ⟨W,Γ,A.deeper env₁,env₁,sc.names,env₁.locals,[env₁]⟩ N ρ ⟨ι,σ,s₁⟩:=
  ⟨G,R.deeper env₁,F₁,I₁,⟨hf,hfr1,⟨env₁,[],rfl,hf⟩,hff⟩,congrArg Scope.names hsc,I.free hL,λn c h=>I.free (hc n c h)⟩
 cases er:gY Γ N d.body ρ σ with
 |bad=>rw[er]at run;exact nomatch run
 |exc k=>rw[er]at run;exact nomatch run
 |ok q σ₂=>
  rw[er]at run
  cases q with |mk q ρ₂=>
  have eq:q=.ret (.bool true):=by
   cases q with
   |ret v=>exact congrArg F.ret (by cases run;rfl)
   |_=>exact nomatch run
  subst eq
  refine WK (ym (c:=⟨W,Γ,A.deeper env₁,env₁,sc.names,env₁.locals,[env₁]⟩) hka rfl rfl N (WO N) C₁ hlaw er λq=>nomatch q) (λfl s' y=>?_) λ_ _ y=>y.elim
  cases y with
  |met _ _ _ ef z=>subst ef;exact⟨rfl,z.after sm₁⟩
  |go z=>
   cases z with |mk q σ₃ ι₃ e₃ I₃ ev₃ sm₃ hz=>
   cases e₃
   refine WS hz.fl λu hu=>?_
   have e:=hu.1
   subst e
   exact⟨hu.2,I₃.base,sm₁.trans sm₃⟩
end
end Mine
end
section
namespace Mine
noncomputable def rN:List YG:=[Wi "self",Wi "kind",Wi "at",Wi "detail",Wi "w",Wi "a",Wi "b",Wi "full",Wi "v",Wi "signed",Wi "i",Wi "fill",Wi "top",Wi "signals",Wi "store",Wi "frame",Wi "now",Wi "e",Wi "ctx",Wi "tag",Wi "found",Wi "stack",Wi "node",Wi "part",Wi "keys",Wi "lv",Wi "s",Wi "parts",Wi "key",Wi "scope",Wi "entry",Wi "signal",Wi "word",Wi "width",Wi "value",Wi "where",Wi "op",Wi "number",Wi "form",Wi "msb",Wi "lsb",Wi "step",Wi "base",Wi "index",Wi "inner",Wi "left",Wi "right",Wi "one",Wi "other",Wi "both",Wi "procedural",Wi "net",Wi "made",Wi "edge",Wi "events",Wi "design",Wi "rows",Wi "subject",Wi "labels",Wi "_",Wi "label",Wi "label_width",Wi "label_signed",Wi "template",Wi "args",Wi "arg",Wi "routine",Wi "inputs",Wi "outs",Wi "port",Wi "outer",Wi "item",Wi "in_routine",Wi "name",Wi "stmts",Wi "maker",Wi "control",Wi "pair",Wi "values",Wi "first",Wi "count",Wi "then",Wi "path",Wi "is_function",Wi "automatic",Wi "parent",Wi "script",Wi "row",Wi "cell",Wi "turn",Wi "wide",Wi "world",Wi "deep",Wi "lap",Wi "types",Wi "made_one",Wi "two",Wi "made_two",Wi "pick",Wi "put",Wi "triggers",Wi "told",Wi "due",Wi "wanted",Wi "bits",Wi "spot",Wi "inside",Wi "memory",Wi "task",Wi "function",Wi "faults",Wi "way",Wi "wrong",Wi "error",Wi "statement"]
noncomputable abbrev Et:List Nat:=[]
noncomputable abbrev dG:List Nat:=[107,105,110,100]
noncomputable abbrev o6:List Nat:=[97,116]
noncomputable abbrev tn:List Nat:=[100,101,116,97,105,108]
noncomputable abbrev bc:List Nat:=[115,105,103,110,97,108,115]
noncomputable abbrev rP:List Nat:=[118,97,108,117,101,115]
noncomputable abbrev n8:List Nat:=[109,101,109,111,114,105,101,115]
noncomputable abbrev eW:List Nat:=[114,97,110,100,111,109,95,115,101,101,100]
noncomputable abbrev w6:List Nat:=[115,116,111,114,101]
noncomputable abbrev vt:List Nat:=[102,114,97,109,101]
noncomputable abbrev Fr:List Nat:=[110,111,119]
noncomputable abbrev fB:List Nat:=[99,111,110,115,116]
noncomputable abbrev cV:List Nat:=[115,105,103]
noncomputable abbrev lu:List Nat:=[108,111,99,97,108]
noncomputable abbrev i5:List Nat:=[98,105,110]
noncomputable abbrev zD:List Nat:=[117,110]
noncomputable abbrev rZ:List Nat:=[101,120,116]
noncomputable abbrev Bq:List Nat:=[119,111,114,100]
noncomputable abbrev lh:List Nat:=[115,108,105,99,101]
noncomputable abbrev jB:List Nat:=[112,105,99,107]
noncomputable abbrev FU:List Nat:=[112,111,119]
noncomputable abbrev vf:List Nat:=[99,111,110,100]
noncomputable abbrev wX:List Nat:=[99,97,116]
noncomputable abbrev cb:List Nat:=[99,97,108,108]
noncomputable abbrev hZ:List Nat:=[115,121,115]
noncomputable abbrev gv:List Nat:=[112,111,112]
noncomputable abbrev aA:List Nat:=[97,112,112,101,110,100]
noncomputable abbrev dX:List Nat:=[101,118,101,110,116]
noncomputable abbrev aO:List Nat:=[98,108,111,99,107]
noncomputable abbrev eP:List Nat:=[102,111,114,107]
noncomputable abbrev nJ:List Nat:=[105,102]
noncomputable abbrev cz:List Nat:=[99,97,115,101]
noncomputable abbrev gH:List Nat:=[102,111,114]
noncomputable abbrev cB:List Nat:=[119,104,105,108,101]
noncomputable abbrev aI:List Nat:=[100,101,108,97,121]
noncomputable abbrev aF:List Nat:=[97,119,97,105,116]
noncomputable abbrev d7:List Nat:=[119,97,105,116]
noncomputable abbrev bP:List Nat:=[114,101,112,101,97,116]
noncomputable abbrev jN:List Nat:=[102,111,114,101,118,101,114]
noncomputable abbrev bj:List Nat:=[115,101,116]
noncomputable abbrev fO:List Nat:=[110,98,97]
noncomputable abbrev zq:List Nat:=[101,120,116,101,110,100]
noncomputable abbrev bM:List Nat:=[112,97,116,104]
noncomputable abbrev aY:List Nat:=[100,101,115,105,103,110]
noncomputable abbrev cr:List Nat:=[105,115,95,109,101,109,111,114,121]
noncomputable abbrev gT:List Nat:=[119,105,100,116,104]
noncomputable abbrev j6:List Nat:=[115,105,103,110,101,100]
noncomputable abbrev zo:List Nat:=[109,115,98]
noncomputable abbrev Cv:List Nat:=[108,115,98]
noncomputable abbrev mo:List Nat:=[115,99,97,108,97,114]
noncomputable abbrev uG:List Nat:=[43]
noncomputable abbrev Gm:List Nat:=[45]
noncomputable abbrev Lr:List Nat:=[42]
noncomputable abbrev Mo:List Nat:=[47]
noncomputable abbrev Ae:List Nat:=[37]
noncomputable abbrev uv:List Nat:=[38]
noncomputable abbrev Ee:List Nat:=[124]
noncomputable abbrev Mz:List Nat:=[94]
noncomputable abbrev rd:List Nat:=[126,94]
noncomputable abbrev tQ:List Nat:=[60,60]
noncomputable abbrev ua:List Nat:=[62,62]
noncomputable abbrev lZ:List Nat:=[60,60,60]
noncomputable abbrev m9:List Nat:=[62,62,62]
noncomputable abbrev tG:List Nat:=[42,42]
noncomputable abbrev rU:List Nat:=[108,111,111,107,117,112]
noncomputable abbrev iU:List Nat:=[117,110,100,101,99,108,97,114,101,100]
noncomputable abbrev bJ:List Nat:=[105,100]
noncomputable abbrev cw:List Nat:=[105,110,100,101,120]
noncomputable abbrev v4:List Nat:=[112,97,114,116]
noncomputable abbrev Gq:List Nat:=[117,112]
noncomputable abbrev uT:List Nat:=[100,111,119,110]
noncomputable abbrev sg:List Nat:=[110,117,109]
noncomputable abbrev qQ:List Nat:=[115,116,114]
noncomputable abbrev tR:List Nat:=[38,38]
noncomputable abbrev pF:List Nat:=[124,124]
noncomputable abbrev Q6:List Nat:=[114,101,112]
noncomputable abbrev km:List Nat:=[105,115,95,110,101,116]
noncomputable abbrev cF:List Nat:=[97,115,115,105,103,110,95,116,111,95,110,101,116]
noncomputable abbrev Oj:List Nat:=[108,118]
noncomputable abbrev kG:List Nat:=[97,110,121]
noncomputable abbrev b9:List Nat:=[98,97,100,95,101,118,101,110,116]
noncomputable abbrev u5:List Nat:=[110,111,110,101]
noncomputable abbrev Qx:List Nat:=[115]
noncomputable abbrev ah:List Nat:=[115,99,111,112,101]
noncomputable abbrev Af:List Nat:=[109,101,109]
noncomputable abbrev wR:List Nat:=[107,101,121]
noncomputable abbrev xF:List Nat:=[101]
noncomputable abbrev eV:List Nat:=[114,111,117,116,105,110,101]
noncomputable abbrev bL:List Nat:=[110,117,109,98,101,114]
noncomputable abbrev di:List Nat:=[110,111,116,95,97,95,98,108,111,99,107]
noncomputable abbrev bq:List Nat:=[110,111,116,95,97,95,116,97,115,107]
noncomputable abbrev dJ:List Nat:=[114,111,117,116,105,110,101,115]
noncomputable abbrev bV:List Nat:=[105,115,95,102,117,110,99,116,105,111,110]
noncomputable abbrev fz:List Nat:=[112,111,114,116,115]
noncomputable abbrev cT:List Nat:=[119,114,111,110,103,95,97,114,103,117,109,101,110,116,115]
noncomputable abbrev rp:List Nat:=[111,117,116,112,117,116]
noncomputable abbrev qh:List Nat:=[105,110,112,117,116]
noncomputable abbrev wx:List Nat:=[99,104,105,108,100]
noncomputable abbrev aJ:List Nat:=[105,110,95,114,111,117,116,105,110,101]
noncomputable abbrev bT:List Nat:=[105,110,95,102,117,110,99,116,105,111,110]
noncomputable abbrev av:List Nat:=[116,105,109,105,110,103,95,105,110,95,102,117,110,99,116,105,111,110]
noncomputable abbrev bR:List Nat:=[110,111,95,116,105,109,105,110,103]
noncomputable abbrev cv:List Nat:=[109,97,107,101]
noncomputable abbrev bB:List Nat:=[101,110,116,114,105,101,115]
noncomputable abbrev jF:List Nat:=[99,111,110,116,114,111,108]
noncomputable abbrev ci:List Nat:=[110,98,97,95,105,110,95,102,117,110,99,116,105,111,110]
noncomputable abbrev bX:List Nat:=[110,98,97,95,101,118,101,110,116,95,99,111,110,116,114,111,108]
noncomputable abbrev fu:List Nat:=[118,97,108,117,101]
noncomputable abbrev mw:List Nat:=[115,116,97,114]
noncomputable abbrev uj:List Nat:=[115,116,101,112]
noncomputable abbrev b7:List Nat:=[116,114,105,103,103,101,114]
noncomputable abbrev b6:List Nat:=[116,97,115,107,95,105,110,95,102,117,110,99,116,105,111,110]
noncomputable abbrev iY:List Nat:=[97,115,115,105,103,110,109,101,110,116]
noncomputable abbrev i6:List Nat:=[110,111,110,98,108,111,99,107,105,110,103]
noncomputable abbrev kH:List Nat:=[115,101,108,101,99,116,105,111,110]
noncomputable abbrev zx:List Nat:=[108,111,111,112]
noncomputable abbrev oY:List Nat:=[119,97,105,116,105,110,103]
noncomputable abbrev bg:List Nat:=[100,105,115,97,98,108,101]
noncomputable abbrev pI:List Nat:=[119,105,114,101]
noncomputable abbrev P8:List Nat:=[116,114,105]
noncomputable abbrev J8:List Nat:=[119,97,110,100]
noncomputable abbrev PA:List Nat:=[119,111,114]
noncomputable abbrev JX:List Nat:=[116,114,105,48]
noncomputable abbrev KP:List Nat:=[116,114,105,49]
noncomputable abbrev zi:List Nat:=[116,114,105,114,101,103]
noncomputable abbrev yg:List Nat:=[115,117,112,112,108,121,48]
noncomputable abbrev yU:List Nat:=[115,117,112,112,108,121,49]
noncomputable abbrev lg:List Nat:=[102,105,114,115,116]
noncomputable abbrev vb:List Nat:=[108,97,115,116]
noncomputable abbrev Ar:List Nat:=[105,110,105,116]
noncomputable abbrev kJ:List Nat:=[97,117,116,111,109,97,116,105,99]
noncomputable abbrev wn:List Nat:=[115,108,111,116,115]
noncomputable abbrev yY:List Nat:=[98,111,100,121]
noncomputable abbrev rS:List Nat:=[115,111,117,114,99,101]
noncomputable abbrev dC:List Nat:=[100,105,115,97,98,108,101,95,115,99,111,112,101]
noncomputable abbrev zT:List Nat:=[109,97,100,101]
noncomputable abbrev oU:List Nat:=[97,115,115,105,103,110,115]
noncomputable abbrev wz:List Nat:=[103,97,116,101,115]
noncomputable abbrev zI:List Nat:=[117,100,112,115]
noncomputable abbrev ku:List Nat:=[112,114,111,99,101,115,115,101,115]
noncomputable abbrev j8:List Nat:=[115,99,111,112,101,115]
noncomputable abbrev zh:List Nat:=[116,111,112,115]
noncomputable abbrev vJ:List Nat:=[109,97,107,101,114]
noncomputable abbrev fD:List Nat:=[98,121,95,112,97,116,104]
noncomputable abbrev uV:List Nat:=[110,97,109,101]
noncomputable abbrev iR:List Nat:=[112,97,114,101,110,116]
noncomputable abbrev eU:List Nat:=[110,101,116,116,121,112,101]
noncomputable abbrev cK:List Nat:=[109,111,100,117,108,101,95,110,97,109,101]
noncomputable abbrev HO:List Nat:=[46]
noncomputable abbrev gJ:List Nat:=[97,100,100,95,115,99,111,112,101]
noncomputable abbrev ch:List Nat:=[100,101,99,108,97,114,101]
noncomputable abbrev qU:List Nat:=[109,111,100,117,108,101]
noncomputable abbrev jE:List Nat:=[114,101,118,101,114,115,101]
noncomputable abbrev n7:List Nat:=[97,98,99,100]
noncomputable abbrev iE:List Nat:=[61,61]
noncomputable abbrev bF:List Nat:=[114,101,97,100,115]
noncomputable abbrev qY:List Nat:=[112,111,115]
noncomputable abbrev wj:List Nat:=[99,97,115,101,122]
noncomputable abbrev wT:List Nat:=[99,97,115,101,120]
noncomputable abbrev c8:List Nat:=[36,100,105,115,112,108,97,121]
noncomputable abbrev QS:List Nat:=[120]
noncomputable abbrev RN:List Nat:=[109]
noncomputable abbrev PD:List Nat:=[116]
noncomputable abbrev Vd:List Nat:=[110]
noncomputable abbrev fC:List Nat:=[110,97,109,101,100]
noncomputable abbrev jc:List Nat:=[110,101,103]
noncomputable abbrev kC:List Nat:=[116,111,112]
noncomputable abbrev bv:List Nat:=[97,100,100,95,115,105,103,110,97,108]
noncomputable abbrev xb:List Nat:=[116,111,112,46]
noncomputable abbrev Fp:List Nat:=[114,101,103]
noncomputable abbrev uA:List Nat:=[116,111,112,46,119]
noncomputable abbrev TD:List Nat:=[119]
noncomputable abbrev u6:List Nat:=[116,111,112,46,109]
noncomputable abbrev uc:List Nat:=[116,111,112,46,101]
noncomputable abbrev cJ:List Nat:=[97,100,100,95,114,111,117,116,105,110,101]
noncomputable abbrev v3:List Nat:=[116,111,112,46,116]
noncomputable abbrev tJ:List Nat:=[116,111,112,46,102]
noncomputable abbrev TJ:List Nat:=[102]
noncomputable abbrev FT:List Nat:=[97]
noncomputable abbrev Ud:List Nat:=[98]
noncomputable abbrev W8:List Nat:=[122]
noncomputable def eJ:ae:=⟨[0,1,2,3],[.int (-1),.str Et],[a0G (.attr (a0F 0) dG) (a0F 1),a0G (.attr (a0F 0) o6) (a0F 2),a0G (.attr (a0F 0) tn) (a0F 3)]⟩
noncomputable def LG:ae:=⟨[4],[],[.ret (some (.bin .sub (.bin .shl (.c (.int 1)) (a0F 4)) (.c (.int 1))))]⟩
noncomputable def Ow:ae:=⟨[4,5,6],[.int 0],[a0G (a0I (.name 7)) (.call 1 [a0F 4]),.ret (some (.tup [a0F 4,.bin .band (a0F 5) (a0F 7),.bin .band (a0F 6) (a0F 7)]))]⟩
noncomputable def AC:ae:=⟨[8,9],[],[a0G (a0I (.tup [.name 4,.name 5,.name 6])) (a0F 8),.ite (a0H .ne (a0F 6) (.c (.int 0))) [.any] [],.ite (.and [a0F 9,a0H .eq (.bin .shr (a0F 5) (.bin .sub (a0F 4) (.c (.int 1)))) (.c (.int 1))]) [.ret (some (.bin .sub (a0F 5) (.bin .shl (.c (.int 1)) (a0F 4))))] [],.ret (some (a0F 5))]⟩
noncomputable def JG:ae:=⟨[8,10],[],[.ret (some (.bin .add (.bin .band (.bin .shr (.idx (a0F 8) (.c (.int 1))) (a0F 10)) (.c (.int 1))) (.bin .mul (.c (.int 2)) (.bin .band (.bin .shr (.idx (a0F 8) (.c (.int 2))) (a0F 10)) (.c (.int 1))))))]⟩
noncomputable def BH:ae:=⟨[8,4,9],[],[.ite (a0H .le (a0F 4) (.idx (a0F 8) (.c (.int 0)))) [.ret (some (.call 2 [a0F 4,.idx (a0F 8) (.c (.int 1)),.idx (a0F 8) (.c (.int 2))]))] [],.ite (.not (a0F 9)) [.ret (some (.tup [a0F 4,.idx (a0F 8) (.c (.int 1)),.idx (a0F 8) (.c (.int 2))]))] [],a0G (a0I (.name 11)) (.bin .bxor (.call 1 [a0F 4]) (.call 1 [.idx (a0F 8) (.c (.int 0))])),a0G (a0I (.name 12)) (.call 4 [a0F 8,.bin .sub (.idx (a0F 8) (.c (.int 0))) (.c (.int 1))]),a0G (a0I (.name 5)) (.bin .bor (.idx (a0F 8) (.c (.int 1))) (.ite (.bin .band (a0F 12) (.c (.int 1))) (a0F 11) (.c (.int 0)))),a0G (a0I (.name 6)) (.bin .bor (.idx (a0F 8) (.c (.int 2))) (.ite (.bin .band (a0F 12) (.c (.int 2))) (a0F 11) (.c (.int 0)))),.ret (some (.tup [a0F 4,a0F 5,a0F 6]))]⟩
noncomputable def jL:ae:=⟨[0,13],[],[a0G (.attr (a0F 0) bc) (a0F 13),a0G (.attr (a0F 0) rP) (.dct [] []),a0G (.attr (a0F 0) n8) (.dct [] []),a0G (.attr (a0F 0) eW) (.c (.int 1))]⟩
noncomputable def iL:ae:=⟨[0,14,15,16],[.int 0],[a0G (.attr (a0F 0) w6) (a0F 14),a0G (.attr (a0F 0) vt) (a0F 15),a0G (.attr (a0F 0) Fr) (a0F 16)]⟩
noncomputable def uw:ae:=⟨[17,18],[],[a0G (a0I (.name 19)) (.idx (a0F 17) (.c (.int 0))),.ite (a0H .eq (a0F 19) (.c (.str fB))) [.ret (some (.tup [.idx (a0F 17) (.c (.int 1)),.idx (a0F 17) (.c (.int 2)),.idx (a0F 17) (.c (.int 3))]))] [],.ite (a0H .eq (a0F 19) (.c (.str cV))) [.any] [],.ite (a0H .eq (a0F 19) (.c (.str lu))) [.any] [],.ite (a0H .eq (a0F 19) (.c (.str i5))) [.any] [],.ite (a0H .eq (a0F 19) (.c (.str zD))) [.any] [],.ite (a0H .eq (a0F 19) (.c (.str rZ))) [.ret (some (.call 5 [.call 8 [.idx (a0F 17) (.c (.int 2)),a0F 18],.idx (a0F 17) (.c (.int 1)),.idx (a0F 17) (.c (.int 3))]))] [],.any,.any,.any,.any,.any,.any,.any,.any,.any]⟩
noncomputable def ui:ae:=⟨[17],[],[a0G (a0I (.name 19)) (.idx (a0F 17) (.c (.int 0))),.ite (a0H .eq (a0F 19) (.c (.str Bq))) [.any] [],.ite (.or [a0H .eq (a0F 19) (.c (.str lh)),a0H .eq (a0F 19) (.c (.str rZ))]) [.ret (some (.tup [.idx (a0F 17) (.c (.int 2))]))] [],.ite (.or [a0H .eq (a0F 19) (.c (.str jB)),a0H .eq (a0F 19) (.c (.str FU))]) [.any] [],.ite (a0H .eq (a0F 19) (.c (.str zD))) [.any] [],.ite (a0H .eq (a0F 19) (.c (.str i5))) [.ret (some (.tup [.idx (a0F 17) (.c (.int 3)),.idx (a0F 17) (.c (.int 4))]))] [],.ite (a0H .eq (a0F 19) (.c (.str vf))) [.any] [],.ite (a0H .eq (a0F 19) (.c (.str wX))) [.any] [],.ite (.or [a0H .eq (a0F 19) (.c (.str cb)),a0H .eq (a0F 19) (.c (.str hZ))]) [.any] [],.ret (some (.tup []))]⟩
noncomputable def jV:ae:=⟨[17],[],[a0G (a0I (.name 20)) (.lst []),a0G (a0I (.name 21)) (.lst [a0F 17]),.while (a0F 21) [a0G (a0I (.name 22)) (a0J (a0F 21) gv []),.expr (a0J (a0F 20) aA [a0F 22]),.for_ (.name 23) (.bi .reversed [.call 9 [a0F 22]]) [.expr (a0J (a0F 21) aA [a0F 23])]],.ret (some (a0F 20))]⟩
noncomputable def qc:ae:=⟨[17],[],[a0G (a0I (.name 24)) (.dct [] []),.for_ (.name 22) (.call 10 [a0F 17]) [.ite (.or [a0H .eq (.idx (a0F 22) (.c (.int 0))) (.c (.str cV)),a0H .eq (.idx (a0F 22) (.c (.int 0))) (.c (.str Bq)),a0H .eq (.idx (a0F 22) (.c (.int 0))) (.c (.str dX))]) [a0G (.sub (a0F 24) (.idx (a0F 22) (.c (.int 2)))) (.c (.bool true))] []],.ret (some (.bi .sorted [a0F 24]))]⟩
noncomputable def jC:ae:=⟨[25],[],[a0G (a0I (.name 20)) (.lst []),.for_ (.name 23) (.idx (a0F 25) (.c (.int 2))) [.ite (a0H .isnot (.idx (a0F 23) (.c (.int 3))) (.c .none)) [.any] [],.ite (a0H .eq (.idx (.idx (a0F 23) (.c (.int 4))) (.c (.int 0))) (.c (.str jB))) [.expr (a0J (a0F 20) aA [.idx (.idx (a0F 23) (.c (.int 4))) (.c (.int 1))])] []],.ret (some (a0F 20))]⟩
noncomputable def qo:ae:=⟨[26],[],[a0G (a0I (.name 19)) (.idx (a0F 26) (.c (.int 0))),a0G (a0I (.name 27)) (.lst []),.ite (.or [a0H .eq (a0F 19) (.c (.str aO)),a0H .eq (a0F 19) (.c (.str eP))]) [.any] [.ite (a0H .eq (a0F 19) (.c (.str nJ))) [.any] [.ite (a0H .eq (a0F 19) (.c (.str cz))) [.any] [.ite (a0H .eq (a0F 19) (.c (.str gH))) [.any] [.ite (a0H .in_ (a0F 19) (.tup [.c (.str cB),.c (.str aI),.c (.str aF),.c (.str d7)])) [.any] [.ite (a0H .eq (a0F 19) (.c (.str bP))) [.any] [.ite (a0H .eq (a0F 19) (.c (.str jN))) [.any] []]]]]]],.ret (some (.comp (a0F 23) (.name 23) (a0F 27) [a0H .isnot (a0F 23) (.c .none)]))]⟩
noncomputable def kZ:ae:=⟨[26],[],[a0G (a0I (.name 20)) (.lst []),a0G (a0I (.name 21)) (.lst []),.ite (a0H .isnot (a0F 26) (.c .none)) [.expr (a0J (a0F 21) aA [a0F 26])] [],.while (a0F 21) [a0G (a0I (.name 22)) (a0J (a0F 21) gv []),.expr (a0J (a0F 20) aA [a0F 22]),.for_ (.name 23) (.bi .reversed [.call 13 [a0F 22]]) [.any]],.ret (some (a0F 20))]⟩
noncomputable def mJ:ae:=⟨[26],[],[.ite (.or [a0H .eq (.idx (a0F 26) (.c (.int 0))) (.c (.str bj)),a0H .eq (.idx (a0F 26) (.c (.int 0))) (.c (.str fO))]) [.ret (some (.lst [.idx (a0F 26) (.c (.int 1))]))] [],.any,.any]⟩
noncomputable def pC:ae:=⟨[26],[],[a0G (a0I (.name 19)) (.idx (a0F 26) (.c (.int 0))),a0G (a0I (.name 20)) (.lst []),.ite (.or [a0H .eq (a0F 19) (.c (.str bj)),a0H .eq (a0F 19) (.c (.str fO))]) [.expr (a0J (a0F 20) aA [.idx (a0F 26) (.c (.int 2))]),.ite (.and [a0H .isnot (.idx (a0F 26) (.c (.int 3))) (.c .none),a0H .eq (.idx (.idx (a0F 26) (.c (.int 3))) (.c (.int 0))) (.c (.str aI))]) [.any] []] [.any],.for_ (.name 25) (.call 15 [a0F 26]) [.expr (a0J (a0F 20) zq [.call 12 [a0F 25]])],.ret (some (a0F 20))]⟩
noncomputable def pk:ae:=⟨[26],[],[a0G (a0I (.name 24)) (.dct [] []),.for_ (.name 22) (.call 14 [a0F 26]) [.for_ (.name 17) (.call 16 [a0F 22]) [.for_ (.name 28) (.call 11 [a0F 17]) [a0G (.sub (a0F 24) (a0F 28)) (.c (.bool true))]]],.ret (some (.bi .sorted [a0F 24]))]⟩
noncomputable def nV:ae:=⟨[17],[],[.ite (.and [a0H .eq (.idx (a0F 17) (.c (.int 0))) (.c (.str bM)),a0H .isnot (.idx (.idx (.idx (a0F 17) (.c (.int 2))) (.neg (.c (.int 1)))) (.c (.int 1))) (.c .none)]) [.any,.any] [],.ret (some (a0F 17))]⟩
noncomputable def sv:ae:=⟨[29,30],[],[.ret (some (.and [a0H .eq (.idx (a0F 30) (.c (.int 0))) (.c (.str cV)),a0J (.idx (.attr (.attr (a0F 29) aY) bc) (.idx (a0F 30) (.c (.int 1)))) cr []]))]⟩
noncomputable def Ef:ae:=⟨[29,30,2],[],[.ite (a0H .eq (.idx (a0F 30) (.c (.int 0))) (.c (.str cV))) [a0G (a0I (.name 31)) (.idx (.attr (.attr (a0F 29) aY) bc) (.idx (a0F 30) (.c (.int 1)))),.ret (some (.tup [.attr (a0F 31) gT,.attr (a0F 31) j6,.attr (a0F 31) zo,.attr (a0F 31) Cv,.attr (a0F 31) mo]))] [],.any,.any,.any,.any]⟩
noncomputable def pH:ae:=⟨[29,30,32],[],[.ite (a0H .eq (.idx (a0F 30) (.c (.int 0))) (.c (.str cV))) [a0G (a0I (.name 33)) (.attr (.idx (.attr (.attr (a0F 29) aY) bc) (.idx (a0F 30) (.c (.int 1)))) gT),.ite (a0H .is_ (a0F 32) (.c .none)) [.ret (some (.tup [.c (.str cV),a0F 33,.idx (a0F 30) (.c (.int 1))]))] [],.any] [],.any,.any,.any]⟩
noncomputable def EE:ae:=⟨[17],[],[.ite (a0H .eq (.idx (a0F 17) (.c (.int 0))) (.c (.str hZ))) [.any] [],.ret (some (a0H .in_ (.idx (a0F 17) (.c (.int 0))) (.tup [.c (.str zD),.c (.str i5),.c (.str FU),.c (.str vf),.c (.str wX),.c (.str lh),.c (.str jB),.c (.str rZ)])))]⟩
noncomputable def AL:ae:=⟨[17],[],[.ite (.not (.call 22 [a0F 17])) [.any] [],.for_ (.name 23) (.call 9 [a0F 17]) [.ite (a0H .ne (.idx (a0F 23) (.c (.int 0))) (.c (.str fB))) [.ret (some (a0F 17))] []],.ret (some (.bin .add (.tup [.c (.str fB)]) (.call 8 [a0F 17,.new 0 [.new 1 [.lst []],.lst []]])))]⟩
noncomputable def u4:ae:=⟨[34,33,35],[],[.ite (a0H .eq (.idx (a0F 35) (.c (.int 0))) (.c (.str o6))) [.ret (some (.call 23 [.tup [.c (.str lh),a0F 33,a0F 34,.idx (a0F 35) (.c (.int 1))]]))] [],.any]⟩
noncomputable def fW:ae:=⟨[36],[],[.ret (some (a0H .in_ (a0F 36) (.tup [.c (.str uG),.c (.str Gm),.c (.str Lr),.c (.str Mo),.c (.str Ae),.c (.str uv),.c (.str Ee),.c (.str Mz),.c (.str rd)])))]⟩
noncomputable def uL:ae:=⟨[36],[],[.ret (some (a0H .in_ (a0F 36) (.tup [.c (.str tQ),.c (.str ua),.c (.str lZ),.c (.str m9),.c (.str tG)])))]⟩
noncomputable def DH:ae:=⟨[34,4,9],[],[.ite (a0H .eq (.idx (a0F 34) (.c (.int 1))) (a0F 4)) [.ret (some (a0F 34))] [],.ret (some (.call 23 [.tup [.c (.str rZ),a0F 4,a0F 34,a0F 9]]))]⟩
noncomputable def m8:ae:=⟨[17,4,9],[],[a0G (a0I (.name 37)) (.idx (a0F 17) (.c (.int 2))),a0G (a0I (.name 11)) (.or [a0F 9,.and [.not (.idx (a0F 17) (.c (.int 4))),a0H .ge (.call 4 [a0F 37,.bin .sub (.idx (a0F 37) (.c (.int 0))) (.c (.int 1))]) (.c (.int 2))]]),.ret (some (.bin .add (.tup [.c (.str fB)]) (.call 5 [a0F 37,a0F 4,a0F 11])))]⟩
noncomputable def uS:ae:=⟨[29,17],[],[.ite (a0H .eq (.idx (a0F 17) (.c (.int 0))) (.c (.str bM))) [.any] [],a0G (a0I (.name 30)) (a0J (a0F 29) rU [.idx (a0F 17) (.c (.int 2))]),.ite (a0H .is_ (a0F 30) (.c .none)) [.raise [.c (.str iU),.idx (a0F 17) (.c (.int 1)),.idx (a0F 17) (.c (.int 2))]] [],.ret (some (a0F 30))]⟩
noncomputable def qx:ae:=⟨[29,17],[],[a0G (a0I (.name 17)) (.call 18 [a0F 17]),.ite (.or [a0H .eq (.idx (a0F 17) (.c (.int 0))) (.c (.str bJ)),a0H .eq (.idx (a0F 17) (.c (.int 0))) (.c (.str bM))]) [.ret (some (.tup [.call 29 [a0F 29,a0F 17],.c .none]))] [],.any,.any]⟩
noncomputable def lL:ae:=⟨[29,17],[],[.ite (a0H .eq (.idx (a0F 17) (.c (.int 0))) (.c (.str cw))) [.ret (some (.c (.int 1)))] [],.any,.any]⟩
noncomputable def mu:ae:=⟨[29,17,38],[],[a0G (a0I (.name 39)) (.idx (a0F 38) (.c (.int 2))),a0G (a0I (.name 40)) (.idx (a0F 38) (.c (.int 3))),.ite (.idx (a0F 38) (.c (.int 4))) [.any] [],a0G (a0I (.name 41)) (.ite (a0H .ge (a0F 39) (a0F 40)) (.c (.int 1)) (.neg (.c (.int 1)))),.ite (a0H .eq (.idx (a0F 17) (.c (.int 0))) (.c (.str v4))) [.any,.any,.any,.any] [],a0G (a0I (.name 33)) (.call 31 [a0F 29,a0F 17]),a0G (a0I (.name 42)) (a0F 40),.ite (.and [a0H .eq (.idx (a0F 17) (.c (.int 0))) (.c (.str Gq)),a0H .lt (a0F 41) (.c (.int 0))]) [.any] [],.ite (.and [a0H .eq (.idx (a0F 17) (.c (.int 0))) (.c (.str uT)),a0H .gt (a0F 41) (.c (.int 0))]) [.any] [],a0G (a0I (.tup [.name 43,.name 9])) (.call 39 [a0F 29,.idx (a0F 17) (.c (.int 3))]),.ite (.and [a0H .eq (.idx (a0F 43) (.c (.int 0))) (.c (.str fB)),a0H .eq (.idx (a0F 43) (.c (.int 3))) (.c (.int 0))]) [.ret (some (.tup [.c (.str o6),.bin .mul (.bin .sub (.call 3 [.slice (a0F 43) (some (.c (.int 1))) none,a0F 9]) (a0F 42)) (a0F 41)]))] [],.ret (some (.tup [.c (.str jB),a0F 43,a0F 9,a0F 42,a0F 41]))]⟩
noncomputable def pJ:ae:=⟨[29,17],[],[a0G (a0I (.name 17)) (.call 18 [a0F 17]),.ite (.or [a0H .eq (.idx (a0F 17) (.c (.int 0))) (.c (.str bJ)),a0H .eq (.idx (a0F 17) (.c (.int 0))) (.c (.str bM))]) [a0G (a0I (.name 30)) (.call 29 [a0F 29,a0F 17]),.ite (.call 19 [a0F 29,a0F 30]) [.any] [],.ret (some (.slice (.call 20 [a0F 29,a0F 30,.idx (a0F 17) (.c (.int 1))]) (some (.c (.int 0))) (some (.c (.int 2)))))] [],a0G (a0I (.tup [.name 30,.name 44])) (.call 30 [a0F 29,.idx (a0F 17) (.c (.int 2))]),.ite (.and [a0H .is_ (a0F 44) (.c .none),.call 19 [a0F 29,a0F 30]]) [.any,.any] [],.ret (some (.tup [.call 31 [a0F 29,a0F 17],.c (.bool false)]))]⟩
noncomputable def nK:ae:=⟨[29,17],[],[a0G (a0I (.name 17)) (.call 18 [a0F 17]),.ite (.or [a0H .eq (.idx (a0F 17) (.c (.int 0))) (.c (.str bJ)),a0H .eq (.idx (a0F 17) (.c (.int 0))) (.c (.str bM))]) [a0G (a0I (.name 30)) (.call 29 [a0F 29,a0F 17]),.ite (.call 19 [a0F 29,a0F 30]) [.any] [],.expr (.call 20 [a0F 29,a0F 30,.idx (a0F 17) (.c (.int 1))]),.ret (some (.call 21 [a0F 29,a0F 30,.c .none]))] [],a0G (a0I (.tup [.name 30,.name 44])) (.call 30 [a0F 29,.idx (a0F 17) (.c (.int 2))]),a0G (a0I (.name 38)) (.call 20 [a0F 29,a0F 30,.idx (a0F 17) (.c (.int 1))]),a0G (a0I (.name 32)) (.c .none),.ite (a0H .isnot (a0F 44) (.c .none)) [.any] [.ite (.call 19 [a0F 29,a0F 30]) [.any,.any] []],a0G (a0I (.name 35)) (.call 32 [a0F 29,a0F 17,a0F 38]),.ret (some (.call 24 [.call 21 [a0F 29,a0F 30,a0F 32],.call 31 [a0F 29,a0F 17],a0F 35]))]⟩
noncomputable def pX:ae:=⟨[29,45,46],[],[a0G (a0I (.name 47)) (.call 36 [a0F 29,a0F 45]),a0G (a0I (.name 48)) (.call 36 [a0F 29,a0F 46]),.ret (some (.tup [.bi .max [.idx (a0F 47) (.c (.int 0)),.idx (a0F 48) (.c (.int 0))],.and [.idx (a0F 47) (.c (.int 1)),.idx (a0F 48) (.c (.int 1))]]))]⟩
noncomputable def sQ:ae:=⟨[29,17],[],[a0G (a0I (.name 19)) (.idx (a0F 17) (.c (.int 0))),.ite (a0H .eq (a0F 19) (.c (.str sg))) [.ret (some (.tup [.idx (.idx (a0F 17) (.c (.int 2))) (.c (.int 0)),.idx (a0F 17) (.c (.int 3))]))] [],.ite (a0H .eq (a0F 19) (.c (.str qQ))) [.any] [],.ite (a0H .in_ (a0F 19) (.tup [.c (.str bJ),.c (.str bM),.c (.str cw),.c (.str v4),.c (.str Gq),.c (.str uT)])) [.ret (some (.call 33 [a0F 29,a0F 17]))] [],.ite (a0H .eq (a0F 19) (.c (.str zD))) [.any,.any] [],.ite (a0H .eq (a0F 19) (.c (.str i5))) [.ite (.call 25 [.idx (a0F 17) (.c (.int 2))]) [.ret (some (.call 35 [a0F 29,.idx (a0F 17) (.c (.int 3)),.idx (a0F 17) (.c (.int 4))]))] [],.ite (.call 26 [.idx (a0F 17) (.c (.int 2))]) [.any] [],.ret (some (.tup [.c (.int 1),.c (.bool false)]))] [],.any,.any,.any,.any,.any]⟩
noncomputable def lP:ae:=⟨[29,17,4,9],[],[a0G (a0I (.name 36)) (.idx (a0F 17) (.c (.int 2))),.ite (.call 25 [a0F 36]) [a0G (a0I (.name 45)) (.call 38 [a0F 29,.idx (a0F 17) (.c (.int 3)),a0F 4,a0F 9]),.ret (some (.call 23 [.tup [.c (.str i5),a0F 4,a0F 36,a0F 45,.call 38 [a0F 29,.idx (a0F 17) (.c (.int 4)),a0F 4,a0F 9],a0F 9]]))] [],.ite (.call 26 [a0F 36]) [.any,.any,.any,.any] [],.ite (.or [a0H .eq (a0F 36) (.c (.str tR)),a0H .eq (a0F 36) (.c (.str pF))]) [.any,.any,.any] [],a0G (a0I (.tup [.name 33,.name 49])) (.call 35 [a0F 29,.idx (a0F 17) (.c (.int 3)),.idx (a0F 17) (.c (.int 4))]),a0G (a0I (.name 45)) (.call 38 [a0F 29,.idx (a0F 17) (.c (.int 3)),a0F 33,a0F 49]),a0G (a0I (.name 46)) (.call 38 [a0F 29,.idx (a0F 17) (.c (.int 4)),a0F 33,a0F 49]),.ret (some (.call 27 [.call 23 [.tup [.c (.str i5),.c (.int 1),a0F 36,a0F 45,a0F 46,a0F 49]],a0F 4,.c (.bool false)]))]⟩
noncomputable def Fd:ae:=⟨[29,17,4,9],[],[a0G (a0I (.name 19)) (.idx (a0F 17) (.c (.int 0))),.ite (a0H .eq (a0F 19) (.c (.str sg))) [.ret (some (.call 28 [a0F 17,a0F 4,a0F 9]))] [],.ite (a0H .eq (a0F 19) (.c (.str i5))) [.ret (some (.call 37 [a0F 29,a0F 17,a0F 4,a0F 9]))] [],.ite (a0H .eq (a0F 19) (.c (.str zD))) [.any] [],.ite (a0H .eq (a0F 19) (.c (.str vf))) [.any,.any,.any] [],.ite (a0H .eq (a0F 19) (.c (.str qQ))) [.any] [.ite (.or [a0H .eq (a0F 19) (.c (.str wX)),a0H .eq (a0F 19) (.c (.str Q6))]) [.any] [.ite (a0H .eq (a0F 19) (.c (.str cb))) [.any] [.ite (a0H .eq (a0F 19) (.c (.str hZ))) [.any] [a0G (a0I (.name 34)) (.call 34 [a0F 29,a0F 17])]]]],.ret (some (.call 27 [a0F 34,a0F 4,a0F 9]))]⟩
noncomputable def ja:ae:=⟨[29,17],[],[a0G (a0I (.tup [.name 33,.name 9])) (.call 36 [a0F 29,a0F 17]),.ret (some (.tup [.call 38 [a0F 29,a0F 17,a0F 33,a0F 9],a0F 9]))]⟩
noncomputable def E6:ae:=⟨[29,17,4],[],[a0G (a0I (.tup [.name 33,.name 9])) (.call 36 [a0F 29,a0F 17]),.ret (some (.call 27 [.call 38 [a0F 29,a0F 17,.bi .max [a0F 4,a0F 33],a0F 9],a0F 4,a0F 9]))]⟩
noncomputable def qi:ae:=⟨[25],[],[a0G (a0I (.name 27)) (.lst []),a0G (a0I (.name 21)) (.lst [a0F 25]),.while (a0F 21) [a0G (a0I (.name 23)) (a0J (a0F 21) gv []),.ite (a0H .eq (.idx (a0F 23) (.c (.int 0))) (.c (.str wX))) [.any] [.expr (a0J (a0F 27) aA [a0F 23])]],.ret (some (a0F 27))]⟩
noncomputable def nQ:ae:=⟨[29,30,50,2],[],[.ite (a0H .eq (.idx (a0F 30) (.c (.int 0))) (.c (.str lu))) [.any] [.ite (a0H .ne (.idx (a0F 30) (.c (.int 0))) (.c (.str cV))) [.any] [a0G (a0I (.name 51)) (a0J (.idx (.attr (.attr (a0F 29) aY) bc) (.idx (a0F 30) (.c (.int 1)))) km []),.ite (.and [a0F 50,a0F 51]) [.raise [.c (.str cF),a0F 2]] [],.ite (.and [.not (a0F 50),.not (a0F 51)]) [.any] []]]]⟩
noncomputable def nZ:ae:=⟨[29,17,50],[],[a0G (a0I (.name 17)) (.call 18 [a0F 17]),.ite (a0H .notin (.idx (a0F 17) (.c (.int 0))) (.tup [.c (.str bJ),.c (.str bM),.c (.str cw),.c (.str v4),.c (.str Gq),.c (.str uT)])) [.any] [],a0G (a0I (.name 42)) (a0F 17),.ite (.and [a0H .ne (.idx (a0F 17) (.c (.int 0))) (.c (.str bJ)),a0H .ne (.idx (a0F 17) (.c (.int 0))) (.c (.str bM))]) [a0G (a0I (.name 42)) (.idx (a0F 17) (.c (.int 2)))] [],a0G (a0I (.tup [.name 30,.name 44])) (.call 30 [a0F 29,a0F 42]),.expr (.call 42 [a0F 29,a0F 30,a0F 50,.idx (a0F 17) (.c (.int 1))]),a0G (a0I (.name 38)) (.call 20 [a0F 29,a0F 30,.idx (a0F 17) (.c (.int 1))]),a0G (a0I (.name 32)) (.c .none),.ite (a0H .isnot (a0F 44) (.c .none)) [.any] [.ite (.call 19 [a0F 29,a0F 30]) [.any,.any] []],.ite (a0H .eq (a0F 42) (a0F 17)) [.ret (some (.tup [.idx (a0F 30) (.c (.int 0)),.idx (a0F 38) (.c (.int 0)),.idx (a0F 30) (.c (.int 1)),a0F 32,.tup [.c (.str o6),.c (.int 0)]]))] [],a0G (a0I (.name 35)) (.call 32 [a0F 29,a0F 17,a0F 38]),.ite (.and [a0H .eq (.idx (a0F 35) (.c (.int 0))) (.c (.str jB)),.not (a0F 50)]) [.any] [],.ret (some (.tup [.idx (a0F 30) (.c (.int 0)),.call 31 [a0F 29,a0F 17],.idx (a0F 30) (.c (.int 1)),a0F 32,a0F 35]))]⟩
noncomputable def Cj:ae:=⟨[29,25,50],[],[a0G (a0I (.name 27)) (.lst []),a0G (a0I (.name 33)) (.c (.int 0)),.for_ (.name 23) (.call 41 [a0F 25]) [a0G (a0I (.name 52)) (.call 43 [a0F 29,a0F 23,a0F 50]),.expr (a0J (a0F 27) aA [a0F 52]),.augN 33 (.idx (a0F 52) (.c (.int 1)))],.ite (a0H .eq (a0F 33) (.c (.int 0))) [.any] [],.ret (some (.tup [.c (.str Oj),a0F 33,.bi .tuple [a0F 27]]))]⟩
noncomputable def xa:ae:=⟨[17],[],[.ret (some (.or [a0H .eq (.idx (a0F 17) (.c (.int 0))) (.c (.str bJ)),a0H .eq (.idx (a0F 17) (.c (.int 0))) (.c (.str bM))]))]⟩
noncomputable def kQ:ae:=⟨[29,53,17],[],[.ite (.call 45 [a0F 17]) [a0G (a0I (.name 30)) (.call 29 [a0F 29,a0F 17]),.ite (a0H .eq (.idx (a0F 30) (.c (.int 0))) (.c (.str dX))) [.ite (a0H .ne (a0F 53) (.c (.str kG))) [.raise [.c (.str b9),.idx (a0F 17) (.c (.int 1))]] [],.ret (some (.tup [a0F 53,.tup [.c (.str dX),.c (.int 1),.idx (a0F 30) (.c (.int 1))]]))] []] [],.ret (some (.tup [a0F 53,.idx (.call 39 [a0F 29,a0F 17]) (.c (.int 0))]))]⟩
noncomputable def jU:ae:=⟨[29,54],[],[.ret (some (.bi .tuple [.comp (.call 46 [a0F 29,a0F 53,a0F 17]) (.tup [.name 53,.name 17]) (a0F 54) []]))]⟩
noncomputable def kT:ae:=⟨[55,26],[],[a0G (a0I (.name 56)) (.lst []),.ite (a0H .is_ (a0F 26) (.c .none)) [.any] [],.for_ (.name 28) (.call 17 [a0F 26]) [a0G (a0I (.name 31)) (.idx (.attr (a0F 55) bc) (a0F 28)),.ite (.not (a0J (a0F 31) cr [])) [.expr (a0J (a0F 56) aA [.tup [.c (.str kG),.tup [.c (.str cV),.attr (a0F 31) gT,a0F 28]]])] [.any]],.ret (some (.bi .tuple [a0F 56]))]⟩
noncomputable def rn:ae:=⟨[29,57,56],[],[a0G (a0I (.tup [.name 33,.name 9])) (.call 36 [a0F 29,a0F 57]),.for_ (.tup [.name 58,.name 59]) (a0F 56) [.ite (a0H .isnot (a0F 58) (.c .none)) [.mk 0] []],.ret (some (.tup [a0F 33,a0F 9]))]⟩
noncomputable def nG:ae:=⟨[29,58,33,9],[],[.ite (a0H .is_ (a0F 58) (.c .none)) [.ret (some (.c .none))] [],.ret (some (.bi .tuple [.comp (.call 38 [a0F 29,a0F 60,a0F 33,a0F 9]) (.name 60) (a0F 58) []]))]⟩
noncomputable def jn:ae:=⟨[29,17],[],[.ite (a0H .is_ (a0F 17) (.c .none)) [.ret (some (.tup [.c (.str u5)]))] [],.ite (a0H .eq (.idx (a0F 17) (.c (.int 0))) (.c (.str qQ))) [.ret (some (.tup [.c (.str Qx),.idx (a0F 17) (.c (.int 2))]))] [],.ite (.call 45 [a0F 17]) [a0G (a0I (.name 30)) (.call 29 [a0F 29,a0F 17]),.ite (a0H .eq (.idx (a0F 30) (.c (.int 0))) (.c (.str ah))) [.any] [],.ite (a0H .eq (.idx (a0F 30) (.c (.int 0))) (.c (.str cV))) [a0G (a0I (.name 31)) (.idx (.attr (.attr (a0F 29) aY) bc) (.idx (a0F 30) (.c (.int 1)))),.ite (a0J (a0F 31) cr []) [.ret (some (.tup [.c (.str Af),.attr (a0F 31) wR]))] []] []] [],a0G (a0I (.tup [.name 34,.name 9])) (.call 39 [a0F 29,a0F 17]),.ret (some (.tup [.c (.str xF),a0F 34,a0F 9]))]⟩
noncomputable def py:ae:=⟨[63],[],[a0G (a0I (.name 2)) (.c (.int 0)),.while (a0H .lt (a0F 2) (.bi .len [a0F 63])) [.ite (a0H .ne (.idx (a0F 63) (a0F 2)) (.c (.str Ae))) [.augN 2 (.c (.int 1)),.cont] [],.any,.any,.any,.any],.ret (some (.c (.bool false)))]⟩
noncomputable def ij:ae:=⟨[29,64],[],[a0G (a0I (.name 52)) (.comp (.call 51 [a0F 29,a0F 65]) (.name 65) (a0F 64) []),.ite (.or [a0H .eq (.attr (a0F 29) dG) (.c (.str aO)),a0H .eq (.attr (a0F 29) dG) (.c (.str eV))]) [.for_ (.name 65) (a0F 52) [.ite (.and [a0H .eq (.idx (a0F 65) (.c (.int 0))) (.c (.str Qx)),.call 52 [.idx (a0F 65) (.c (.int 1))]]) [.any,.any] []]] [],.ret (some (.bi .tuple [a0F 52]))]⟩
noncomputable def ki:ae:=⟨[29,17],[],[a0G (a0I (.name 30)) (.call 29 [a0F 29,a0F 17]),.ite (.and [a0H .eq (.idx (a0F 30) (.c (.int 0))) (.c (.str ah)),a0H .eq (.attr (.idx (a0F 30) (.c (.int 1))) dG) (.c (.str aO))]) [.ret (some (.attr (.idx (a0F 30) (.c (.int 1))) bL))] [],.ite (a0H .eq (.idx (a0F 30) (.c (.int 0))) (.c (.str eV))) [.any] [],.raise [.c (.str di),.idx (a0F 17) (.c (.int 1))]]⟩
noncomputable def xG:ae:=⟨[29,17,64],[],[a0G (a0I (.name 30)) (.call 29 [a0F 29,a0F 17]),.ite (a0H .ne (.idx (a0F 30) (.c (.int 0))) (.c (.str eV))) [.raise [.c (.str bq),.idx (a0F 17) (.c (.int 1))]] [],a0G (a0I (.name 66)) (.idx (.attr (.attr (a0F 29) aY) dJ) (.idx (a0F 30) (.c (.int 1)))),.ite (.attr (a0F 66) bV) [.raise [.c (.str bq),.idx (a0F 17) (.c (.int 1))]] [],.ite (a0H .ne (.bi .len [a0F 64]) (.bi .len [.attr (a0F 66) fz])) [.raise [.c (.str cT),.idx (a0F 17) (.c (.int 1))]] [],.ret (some (a0F 66))]⟩
noncomputable def t8:ae:=⟨[29,17,64],[],[a0G (a0I (.name 66)) (.call 55 [a0F 29,a0F 17,a0F 64]),a0G (a0I (.name 67)) (.lst []),a0G (a0I (.name 68)) (.lst []),.for_ (.name 43) (.bi .range [.bi .len [a0F 64]]) [a0G (a0I (.name 69)) (.idx (.attr (a0F 66) fz) (a0F 43)),.ite (a0H .ne (.idx (a0F 69) (.c (.int 0))) (.c (.str rp))) [.expr (a0J (a0F 67) aA [.call 40 [a0F 29,.idx (a0F 64) (a0F 43),.idx (a0F 69) (.c (.int 1))]])] [],.ite (a0H .ne (.idx (a0F 69) (.c (.int 0))) (.c (.str qh))) [.expr (a0J (a0F 68) aA [.tup [.call 44 [a0F 29,.idx (a0F 64) (a0F 43),.c (.bool true)],a0F 43]])] []],.ret (some (.tup [.c (.str cb),.attr (a0F 66) bL,.bi .tuple [a0F 67],.bi .tuple [a0F 68]]))]⟩
noncomputable def gW:ae:=⟨[25,2],[],[.for_ (.name 23) (.idx (a0F 25) (.c (.int 2))) [.ite (a0H .eq (.idx (a0F 23) (.c (.int 0))) (.c (.str lu))) [.any] []]]⟩
noncomputable def iy:ae:=⟨[26],[],[a0G (a0I (.name 19)) (.idx (a0F 26) (.c (.int 0))),a0G (a0I (.name 27)) (.tup []),.ite (.or [a0H .eq (a0F 19) (.c (.str aO)),a0H .eq (a0F 19) (.c (.str eP))]) [a0G (a0I (.name 27)) (.idx (a0F 26) (.c (.int 4)))] [.ite (a0H .eq (a0F 19) (.c (.str nJ))) [.any] [.ite (a0H .eq (a0F 19) (.c (.str cz))) [.any] [.ite (a0H .eq (a0F 19) (.c (.str gH))) [.any] [.ite (a0H .in_ (a0F 19) (.tup [.c (.str cB),.c (.str bP),.c (.str aI),.c (.str aF),.c (.str d7)])) [.any] [.ite (a0H .eq (a0F 19) (.c (.str jN))) [.any] []]]]]],.ret (some (.comp (a0F 23) (.name 23) (a0F 27) [a0H .isnot (a0F 23) (.c .none)]))]⟩
noncomputable def jy:ae:=⟨[29,26,66],[.none],[a0G (a0I (.name 21)) (.lst []),.ite (a0H .isnot (a0F 26) (.c .none)) [.expr (a0J (a0F 21) aA [.tup [a0F 29,a0F 26]])] [],.while (a0H .gt (.bi .len [a0F 21]) (.c (.int 0))) [a0G (a0I (.tup [.name 70,.name 22])) (a0J (a0F 21) gv []),.mk 1,.for_ (.name 23) (.bi .reversed [.call 58 [a0F 22]]) [.expr (a0J (a0F 21) aA [.tup [a0F 70,a0F 23]])]]]⟩
noncomputable def dT:ae:=⟨[0,55,29,72],[.none],[a0G (.attr (a0F 0) aY) (a0F 55),a0G (.attr (a0F 0) ah) (a0F 29),a0G (.attr (a0F 0) aJ) (a0F 72)]⟩
noncomputable def de:ae:=⟨[0],[],[.ret (some (.and [a0H .isnot (.attr (a0F 0) aJ) (.c .none),.attr (.attr (a0F 0) aJ) bV]))]⟩
noncomputable def dH:ae:=⟨[0,2],[],[.ite (a0J (a0F 0) bT []) [.raise [.c (.str av),a0F 2]] []]⟩
noncomputable def fK:ae:=⟨[0,17],[],[.ret (some (.idx (.call 39 [.attr (a0F 0) ah,a0F 17]) (.c (.int 0))))]⟩
noncomputable def fM:ae:=⟨[0,26],[],[a0G (a0I (.tup [.name 19,.name 2,.name 73,.name 59,.name 74])) (a0F 26),.ite (a0H .eq (a0F 19) (.c (.str eP))) [.expr (a0J (a0F 0) bR [a0F 2])] [],.ite (a0H .is_ (a0F 73) (.c .none)) [.ret (some (.tup [a0F 19,.bi .tuple [.comp (a0J (a0F 0) cv [a0F 44]) (.name 44) (a0F 74) []],.neg (.c (.int 1))]))] [],.ite (a0H .notin (a0F 73) (.attr (.attr (a0F 0) ah) bB)) [.expr (.call 59 [.attr (a0F 0) ah,a0F 26,.attr (a0F 0) aJ])] [],a0G (a0I (.name 29)) (.idx (.idx (.attr (.attr (a0F 0) ah) bB) (a0F 73)) (.c (.int 1))),a0G (a0I (.name 75)) (.new 3 [.attr (a0F 0) aY,a0F 29,.attr (a0F 0) aJ]),.ret (some (.tup [a0F 19,.bi .tuple [.comp (a0J (a0F 75) cv [a0F 44]) (.name 44) (a0F 74) []],.attr (a0F 29) bL]))]⟩
noncomputable def dm:ae:=⟨[0,26],[],[a0G (a0I (.tup [.name 2,.name 45,.name 46,.name 76])) (.tup [.idx (a0F 26) (.c (.int 1)),.idx (a0F 26) (.c (.int 2)),.idx (a0F 26) (.c (.int 3)),.idx (a0F 26) (.c (.int 4))]),a0G (a0I (.name 25)) (.call 44 [.attr (a0F 0) ah,a0F 45,.c (.bool true)]),a0G (a0I (.name 52)) (.c .none),.ite (a0H .isnot (a0F 76) (.c .none)) [.expr (a0J (a0F 0) bR [a0F 2]),a0G (a0I (.name 52)) (a0J (a0F 0) jF [a0F 76,a0F 2])] [],.ret (some (.tup [.c (.str bj),a0F 25,.call 40 [.attr (a0F 0) ah,a0F 46,.idx (a0F 25) (.c (.int 1))],a0F 52]))]⟩
noncomputable def d9:ae:=⟨[0,26],[],[a0G (a0I (.tup [.name 2,.name 45,.name 46,.name 76])) (.tup [.idx (a0F 26) (.c (.int 1)),.idx (a0F 26) (.c (.int 2)),.idx (a0F 26) (.c (.int 3)),.idx (a0F 26) (.c (.int 4))]),.ite (a0J (a0F 0) bT []) [.raise [.c (.str ci),a0F 2]] [],a0G (a0I (.name 25)) (.call 44 [.attr (a0F 0) ah,a0F 45,.c (.bool true)]),.expr (.call 57 [a0F 25,a0F 2]),a0G (a0I (.name 52)) (.c .none),.ite (a0H .isnot (a0F 76) (.c .none)) [.ite (a0H .ne (.idx (a0F 76) (.c (.int 0))) (.c (.str aI))) [.raise [.c (.str bX),a0F 2]] [],a0G (a0I (.name 52)) (a0J (a0F 0) jF [a0F 76,a0F 2])] [],.ret (some (.tup [.c (.str fO),a0F 25,.call 40 [.attr (a0F 0) ah,a0F 46,.idx (a0F 25) (.c (.int 1))],a0F 52]))]⟩
noncomputable def eK:ae:=⟨[0,76,2],[],[.ite (a0H .eq (.idx (a0F 76) (.c (.int 0))) (.c (.str aI))) [.ret (some (.tup [.c (.str aI),a0J (a0F 0) fu [.idx (a0F 76) (.c (.int 1))]]))] [],.ite (a0H .eq (.idx (a0F 76) (.c (.int 1))) (.tup [.c (.str mw)])) [.raise [.c (.str b9),a0F 2]] [],.ret (some (.tup [.c (.str aF),.call 47 [.attr (a0F 0) ah,.idx (a0F 76) (.c (.int 1))]]))]⟩
noncomputable def fX:ae:=⟨[0,77],[],[a0G (a0I (.name 25)) (.call 44 [.attr (a0F 0) ah,.idx (a0F 77) (.c (.int 0)),.c (.bool true)]),.ret (some (.tup [.c (.str bj),a0F 25,.call 40 [.attr (a0F 0) ah,.idx (a0F 77) (.c (.int 1)),.idx (a0F 25) (.c (.int 1))],.c .none]))]⟩
noncomputable def dy:ae:=⟨[0,26],[],[a0G (a0I (.tup [.name 59,.name 59,.name 1,.name 57,.name 56])) (a0F 26),a0G (a0I (.tup [.name 33,.name 9])) (.call 49 [.attr (a0F 0) ah,a0F 57,a0F 56]),a0G (a0I (.name 52)) (.lst []),.for_ (.tup [.name 58,.name 44]) (a0F 56) [a0G (a0I (.name 78)) (.call 50 [.attr (a0F 0) ah,a0F 58,a0F 33,a0F 9]),.expr (a0J (a0F 52) aA [.tup [a0F 78,a0J (a0F 0) cv [a0F 44]]])],.ret (some (.tup [.c (.str cz),a0F 1,.call 38 [.attr (a0F 0) ah,a0F 57,a0F 33,a0F 9],.bi .tuple [a0F 52]]))]⟩
noncomputable def fY:ae:=⟨[0,26],[],[a0G (a0I (.name 19)) (.idx (a0F 26) (.c (.int 0))),.ite (a0H .eq (a0F 19) (.c (.str gH))) [a0G (a0I (.name 79)) (a0J (a0F 0) uj [.idx (a0F 26) (.c (.int 2))]),.ret (some (.tup [.c (.str gH),a0F 79,a0J (a0F 0) fu [.idx (a0F 26) (.c (.int 3))],a0J (a0F 0) uj [.idx (a0F 26) (.c (.int 4))],a0J (a0F 0) cv [.idx (a0F 26) (.c (.int 5))]]))] [],.ite (a0H .eq (a0F 19) (.c (.str cB))) [.ret (some (.tup [.c (.str cB),a0J (a0F 0) fu [.idx (a0F 26) (.c (.int 2))],a0J (a0F 0) cv [.idx (a0F 26) (.c (.int 3))]]))] [],.ite (a0H .eq (a0F 19) (.c (.str bP))) [a0G (a0I (.tup [.name 80,.name 9])) (.call 39 [.attr (a0F 0) ah,.idx (a0F 26) (.c (.int 2))]),.ret (some (.tup [.c (.str bP),a0F 80,a0F 9,a0J (a0F 0) cv [.idx (a0F 26) (.c (.int 3))]]))] [],.any]⟩
noncomputable def eh:ae:=⟨[0,26],[],[.expr (a0J (a0F 0) bR [.idx (a0F 26) (.c (.int 1))]),.ite (a0H .eq (.idx (a0F 26) (.c (.int 0))) (.c (.str aI))) [.ret (some (.tup [.c (.str aI),a0J (a0F 0) fu [.idx (a0F 26) (.c (.int 2))],a0J (a0F 0) cv [.idx (a0F 26) (.c (.int 3))]]))] [],.ite (a0H .eq (.idx (a0F 26) (.c (.int 0))) (.c (.str d7))) [.ret (some (.tup [.c (.str d7),a0J (a0F 0) fu [.idx (a0F 26) (.c (.int 2))],a0J (a0F 0) cv [.idx (a0F 26) (.c (.int 3))]]))] [],a0G (a0I (.name 44)) (a0J (a0F 0) cv [.idx (a0F 26) (.c (.int 3))]),.ite (a0H .eq (.idx (a0F 26) (.c (.int 2))) (.tup [.c (.str mw)])) [.ret (some (.tup [.c (.str aF),.call 48 [.attr (a0F 0) aY,a0F 44],a0F 44]))] [],.ret (some (.tup [.c (.str aF),.call 47 [.attr (a0F 0) ah,.idx (a0F 26) (.c (.int 2))],a0F 44]))]⟩
noncomputable def eG:ae:=⟨[0,26],[],[.expr (a0J (a0F 0) bR [.idx (a0F 26) (.c (.int 1))]),a0G (a0I (.name 30)) (.call 29 [.attr (a0F 0) ah,.idx (a0F 26) (.c (.int 2))]),.ite (a0H .ne (.idx (a0F 30) (.c (.int 0))) (.c (.str dX))) [.raise [.c (.str b9),.idx (a0F 26) (.c (.int 1))]] [],.ret (some (.tup [.c (.str b7),.idx (a0F 30) (.c (.int 1))]))]⟩
noncomputable def fV:ae:=⟨[0,26],[],[.ite (a0J (a0F 0) bT []) [.raise [.c (.str b6),.idx (a0F 26) (.c (.int 1))]] [],.ite (a0H .eq (.idx (a0F 26) (.c (.int 0))) (.c (.str cb))) [.ret (some (.call 56 [.attr (a0F 0) ah,.idx (a0F 26) (.c (.int 2)),.idx (a0F 26) (.c (.int 3))]))] [],.ret (some (.tup [.c (.str hZ),.idx (a0F 26) (.c (.int 2)),.call 53 [.attr (a0F 0) ah,.idx (a0F 26) (.c (.int 3))]]))]⟩
noncomputable def fU:ae:=⟨[0,26],[],[.ite (a0H .is_ (a0F 26) (.c .none)) [.ret (some (.c .none))] [],a0G (a0I (.name 19)) (.idx (a0F 26) (.c (.int 0))),.ite (.or [a0H .eq (a0F 19) (.c (.str aO)),a0H .eq (a0F 19) (.c (.str eP))]) [.ret (some (a0J (a0F 0) aO [a0F 26]))] [],.ite (a0H .eq (a0F 19) (.c (.str bj))) [.ret (some (a0J (a0F 0) iY [a0F 26]))] [],.ite (a0H .eq (a0F 19) (.c (.str fO))) [.ret (some (a0J (a0F 0) i6 [a0F 26]))] [],.ite (a0H .eq (a0F 19) (.c (.str nJ))) [a0G (a0I (.name 81)) (a0J (a0F 0) cv [.idx (a0F 26) (.c (.int 3))]),.ret (some (.tup [.c (.str nJ),a0J (a0F 0) fu [.idx (a0F 26) (.c (.int 2))],a0F 81,a0J (a0F 0) cv [.idx (a0F 26) (.c (.int 4))]]))] [],.ite (a0H .eq (a0F 19) (.c (.str cz))) [.ret (some (a0J (a0F 0) kH [a0F 26]))] [],.ite (a0H .in_ (a0F 19) (.tup [.c (.str gH),.c (.str cB),.c (.str bP),.c (.str jN)])) [.ret (some (a0J (a0F 0) zx [a0F 26]))] [],.ite (a0H .in_ (a0F 19) (.tup [.c (.str aI),.c (.str aF),.c (.str d7)])) [.ret (some (a0J (a0F 0) oY [a0F 26]))] [],.ite (a0H .eq (a0F 19) (.c (.str b7))) [.ret (some (a0J (a0F 0) b7 [a0F 26]))] [],.ite (a0H .eq (a0F 19) (.c (.str bg))) [.ret (some (.tup [.c (.str bg),.call 54 [.attr (a0F 0) ah,.idx (a0F 26) (.c (.int 2))]]))] [],.ret (some (a0J (a0F 0) cb [a0F 26]))]⟩
noncomputable def qP:ae:=⟨[],[],[.ret (some (.tup [.c (.str pI),.c (.str P8),.c (.str J8),.c (.str PA),.c (.str JX),.c (.str KP),.c (.str zi),.c (.str yg),.c (.str yU)]))]⟩
noncomputable def iS:ae:=⟨[0,28,82,1,33,9,39,40],[],[a0G (.attr (a0F 0) wR) (a0F 28),a0G (.attr (a0F 0) bM) (a0F 82),a0G (.attr (a0F 0) dG) (a0F 1),a0G (.attr (a0F 0) gT) (a0F 33),a0G (.attr (a0F 0) j6) (a0F 9),a0G (.attr (a0F 0) zo) (a0F 39),a0G (.attr (a0F 0) Cv) (a0F 40),a0G (.attr (a0F 0) lg) (.c .none),a0G (.attr (a0F 0) vb) (.c .none),a0G (.attr (a0F 0) Ar) (.c .none),a0G (.attr (a0F 0) o6) (.neg (.c (.int 1))),a0G (.attr (a0F 0) mo) (.c (.bool false))]⟩
noncomputable def kR:ae:=⟨[0],[],[.ret (some (a0H .in_ (.attr (a0F 0) dG) (.call 75 [])))]⟩
noncomputable def iD:ae:=⟨[0],[],[.ret (some (a0H .isnot (.attr (a0F 0) lg) (.c .none)))]⟩
noncomputable def ix:ae:=⟨[0,37,82,83,84,2],[],[a0G (.attr (a0F 0) bL) (a0F 37),a0G (.attr (a0F 0) bM) (a0F 82),a0G (.attr (a0F 0) bV) (a0F 83),a0G (.attr (a0F 0) kJ) (a0F 84),a0G (.attr (a0F 0) o6) (a0F 2),a0G (.attr (a0F 0) gT) (.c (.int 1)),a0G (.attr (a0F 0) j6) (.c (.bool false)),a0G (.attr (a0F 0) fz) (.lst []),a0G (.attr (a0F 0) wn) (.lst []),a0G (.attr (a0F 0) yY) (.c .none),a0G (.attr (a0F 0) rS) (.c .none),a0G (.attr (a0F 0) ah) (.c .none),a0G (.attr (a0F 0) dC) (.neg (.c (.int 1))),a0G (.attr (a0F 0) zT) (.c (.bool false))]⟩
noncomputable def iW:ae:=⟨[0],[],[a0G (.attr (a0F 0) bc) (.lst []),a0G (.attr (a0F 0) oU) (.lst []),a0G (.attr (a0F 0) wz) (.lst []),a0G (.attr (a0F 0) zI) (.lst []),a0G (.attr (a0F 0) ku) (.lst []),a0G (.attr (a0F 0) dJ) (.lst []),a0G (.attr (a0F 0) j8) (.lst []),a0G (.attr (a0F 0) zh) (.lst []),a0G (.attr (a0F 0) fz) (.lst []),a0G (.attr (a0F 0) vJ) (.c .none),a0G (.attr (a0F 0) fD) (.dct [] [])]⟩
noncomputable def gV:ae:=⟨[0,82,1,33,9,39,40,2],[],[a0G (a0I (.name 31)) (.new 4 [.bi .len [.attr (a0F 0) bc],a0F 82,a0F 1,a0F 33,a0F 9,a0F 39,a0F 40]),a0G (.attr (a0F 31) o6) (a0F 2),.expr (a0J (.attr (a0F 0) bc) aA [a0F 31]),a0G (.sub (.attr (a0F 0) fD) (a0F 82)) (.attr (a0F 31) wR),.ret (some (a0F 31))]⟩
noncomputable def io:ae:=⟨[0,82],[],[.expr (a0J (.attr (a0F 0) j8) aA [a0F 82]),.ret (some (.bin .sub (.bi .len [.attr (a0F 0) j8]) (.c (.int 1))))]⟩
noncomputable def gz:ae:=⟨[0,82,83,84,2],[],[a0G (a0I (.name 66)) (.new 5 [.bi .len [.attr (a0F 0) dJ],a0F 82,a0F 83,a0F 84,a0F 2]),.expr (a0J (.attr (a0F 0) dJ) aA [a0F 66]),.ret (some (a0F 66))]⟩
noncomputable def jW:ae:=⟨[0,55,73,85,1],[],[a0G (.attr (a0F 0) aY) (a0F 55),a0G (.attr (a0F 0) uV) (a0F 73),a0G (.attr (a0F 0) iR) (a0F 85),a0G (.attr (a0F 0) dG) (a0F 1),a0G (.attr (a0F 0) bM) (a0F 73),a0G (.attr (a0F 0) eU) (.c (.str pI)),a0G (.attr (a0F 0) cK) (.c .none),a0G (.attr (a0F 0) bB) (.dct [] []),.ite (a0H .isnot (a0F 85) (.c .none)) [a0G (.attr (a0F 0) bM) (.bin .add (.bin .add (.attr (a0F 85) bM) (.c (.str HO))) (a0F 73)),a0G (.attr (a0F 0) eU) (.attr (a0F 85) eU)] [],a0G (.attr (a0F 0) bL) (a0J (a0F 55) gJ [.attr (a0F 0) bM])]⟩
noncomputable def nH:ae:=⟨[0,73,1,2],[],[a0G (a0I (.name 44)) (.new 6 [.attr (a0F 0) aY,a0F 73,a0F 0,a0F 1]),.expr (a0J (a0F 0) ch [a0F 73,.tup [.c (.str ah),a0F 44],a0F 2]),.ret (some (a0F 44))]⟩
noncomputable def kU:ae:=⟨[0,73,30,2],[],[.ite (a0H .in_ (a0F 73) (.attr (a0F 0) bB)) [.any] [],a0G (.sub (.attr (a0F 0) bB) (a0F 73)) (a0F 30)]⟩
noncomputable def mD:ae:=⟨[0,73],[],[a0G (a0I (.name 29)) (a0F 0),.while (a0H .isnot (a0F 29) (.c .none)) [.ite (a0H .in_ (a0F 73) (.attr (a0F 29) bB)) [.ret (some (.idx (.attr (a0F 29) bB) (a0F 73)))] [],.ite (a0H .eq (.attr (a0F 29) dG) (.c (.str qU))) [.ret (some (.c .none))] [],a0G (a0I (.name 29)) (.attr (a0F 29) iR)],.any]⟩
noncomputable def um:ae:=⟨[86],[],[a0G (a0I (.name 87)) (.lst []),.for_ (.name 88) (.slice (a0F 86) none (some (.c (.int 40)))) [a0G (a0I (.name 37)) (.ite (a0H .ge (a0F 88) (.c (.int 0))) (a0F 88) (.bin .sub (.c (.int 7)) (a0F 88))),.expr (a0J (a0F 87) aA [.bin .mod (a0F 37) (.c (.int 1024))]),a0G (a0I (.name 37)) (.bin .fdiv (a0F 37) (.c (.int 1024))),.for_ (.name 89) (.bi .range [.c (.int 30)]) [.ite (a0H .gt (a0F 37) (.c (.int 0))) [.expr (a0J (a0F 87) aA [.bin .mod (a0F 37) (.c (.int 1024))]),a0G (a0I (.name 37)) (.bin .fdiv (a0F 37) (.c (.int 1024)))] []]],a0G (a0I (.name 87)) (.slice (a0F 87) none (some (.c (.int 160)))),.expr (a0J (a0F 87) jE []),.ret (some (a0F 87))]⟩
noncomputable def qO:ae:=⟨[87],[],[.ret (some (.ite (a0H .ne (a0F 87) (.lst [])) (a0J (a0F 87) gv []) (.c (.int 0))))]⟩
noncomputable def nP:ae:=⟨[87],[],[a0G (a0I (.name 90)) (.bin .add (.c (.int 1)) (.bin .mod (.call 89 [a0F 87]) (.c (.int 5)))),.ret (some (.tup [.c (.str sg),.c (.int 0),.tup [a0F 90,.bin .mod (.call 89 [a0F 87]) (.bin .pow (.c (.int 2)) (a0F 90)),.c (.int 0)],a0H .eq (.bin .mod (.call 89 [a0F 87]) (.c (.int 2))) (.c (.int 1)),.c (.bool true)]))]⟩
noncomputable def qN:ae:=⟨[87],[],[.ret (some (.tup [.c (.str bJ),.c (.int 0),.idx (.c (.str n7)) (.bin .mod (.call 89 [a0F 87]) (.c (.int 4)))]))]⟩
noncomputable def rO:ae:=⟨[87],[],[a0G (a0I (.name 1)) (.bin .mod (.call 89 [a0F 87]) (.c (.int 4))),.ite (a0H .eq (a0F 1) (.c (.int 0))) [.ret (some (.call 91 [a0F 87]))] [],.ite (a0H .eq (a0F 1) (.c (.int 1))) [.ret (some (.call 90 [a0F 87]))] [],.ite (a0H .eq (a0F 1) (.c (.int 2))) [.ret (some (.tup [.c (.str i5),.c (.int 0),.idx (.lst [.c (.str uG),.c (.str iE),.c (.str uv)]) (.bin .mod (.call 89 [a0F 87]) (.c (.int 3))),.call 91 [a0F 87],.call 90 [a0F 87]]))] [],.ret (some (.tup [.c (.str cw),.c (.int 0),.call 91 [a0F 87],.call 90 [a0F 87]]))]⟩
noncomputable def qk:ae:=⟨[17],[],[.ite (a0H .eq (.idx (a0F 17) (.c (.int 0))) (.c (.str bJ))) [.ret (some (.lst [a0J (.c (.str n7)) cw [.idx (a0F 17) (.c (.int 2))]]))] [],a0G (a0I (.name 20)) (.lst []),.for_ (.name 23) (a0F 17) [.ite (.and [.isi .tuple (a0F 23),a0H .ne (a0F 23) (.tup []),.isi .str (.idx (a0F 23) (.c (.int 0)))]) [.augN 20 (.call 93 [a0F 23])] []],.ret (some (a0F 20))]⟩
noncomputable def rW:ae:=⟨[87],[],[.ret (some (.idx (.lst [.call 91 [a0F 87],.tup [.c (.str cw),.c (.int 0),.call 91 [a0F 87],.call 91 [a0F 87]]]) (.bin .mod (.call 89 [a0F 87]) (.c (.int 2)))))]⟩
noncomputable def vg:ae:=⟨[91,17],[],[.ret (some (.idx (.call 39 [.idx (a0F 91) (.c (.str ah)),a0F 17]) (.c (.int 0))))]⟩
noncomputable def uM:ae:=⟨[91,32,45,46,76],[],[a0G (a0I (.name 25)) (.call 44 [.idx (a0F 91) (.c (.str ah)),a0F 45,.c (.bool true)]),.augS (a0F 91) (.c (.str bF)) (.bin .add (.call 93 [a0F 46]) (.ite (a0H .eq (.idx (a0F 45) (.c (.int 0))) (.c (.str cw))) (.call 93 [.idx (a0F 45) (.c (.int 3))]) (.lst []))),.ret (some (.tup [a0F 32,a0F 25,.call 40 [.idx (a0F 91) (.c (.str ah)),a0F 46,.idx (a0F 25) (.c (.int 1))],a0F 76]))]⟩
noncomputable def tY:ae:=⟨[87,91],[],[a0G (a0I (.name 45)) (.call 94 [a0F 87]),a0G (a0I (.name 46)) (.call 92 [a0F 87]),.ret (some (.tup [a0F 45,a0F 46,.call 96 [a0F 91,.c (.str bj),a0F 45,a0F 46,.c .none]]))]⟩
noncomputable def je:ae:=⟨[87,91,32],[],[a0G (a0I (.name 45)) (.call 94 [a0F 87]),a0G (a0I (.name 46)) (.call 92 [a0F 87]),a0G (a0I (.name 1)) (.bin .mod (.call 89 [a0F 87]) (.c (.int 3))),a0G (a0I (.name 76)) (.c .none),a0G (a0I (.name 52)) (.c .none),.ite (a0H .eq (a0F 1) (.c (.int 1))) [a0G (a0I (.name 17)) (.call 92 [a0F 87]),a0G (a0I (.name 76)) (.tup [.c (.str aI),a0F 17]),a0G (a0I (.name 52)) (.tup [.c (.str aI),.call 95 [a0F 91,a0F 17]]),.augS (a0F 91) (.c (.str bF)) (.call 93 [a0F 17])] [.ite (.and [a0H .eq (a0F 1) (.c (.int 2)),a0H .eq (a0F 32) (.c (.str bj))]) [a0G (a0I (.name 17)) (.call 91 [a0F 87]),a0G (a0I (.name 76)) (.tup [.c (.str aF),.tup [.tup [.c (.str qY),a0F 17],.tup [.c (.str kG),.tup [.c (.str bJ),.c (.int 0),.c (.str xF)]]]]),a0G (a0I (.name 52)) (.tup [.c (.str aF),.tup [.tup [.c (.str qY),.call 95 [a0F 91,a0F 17]],.tup [.c (.str kG),.tup [.c (.str dX),.c (.int 1),.c (.int 6)]]]])] []],.ret (some (.tup [.tup [a0F 32,.c (.int 0),a0F 45,a0F 46,a0F 76],.call 96 [a0F 91,a0F 32,a0F 45,a0F 46,a0F 52]]))]⟩
noncomputable def sJ:ae:=⟨[87,91,92],[],[.mk 4,a0G (a0I (.tup [.name 47,.name 95])) (.call 101 [a0F 87,a0F 91,.bin .sub (a0F 92) (.c (.int 1))]),a0G (a0I (.tup [.name 96,.name 97])) (.call 101 [a0F 87,a0F 91,.bin .sub (a0F 92) (.c (.int 1))]),a0G (a0I (.name 56)) (.tup [.tup [.bi .tuple [a0F 58],a0F 47],.tup [.c .none,a0F 96]]),a0G (a0I (.name 32)) (.idx (.lst [.c (.str cz),.c (.str wj),.c (.str wT)]) (.bin .mod (.call 89 [a0F 87]) (.c (.int 3)))),.augS (a0F 91) (.c (.str bF)) (.call 93 [a0F 57]),.ret (some (.tup [.tup [.c (.str cz),.c (.int 0),a0F 32,a0F 57,a0F 56],.tup [.c (.str cz),a0F 32,.tup [a0F 57,a0F 90,a0F 9],.tup [.tup [.tup [.bi .tuple [a0F 58],a0F 90,a0F 9],a0F 95],.tup [.c .none,a0F 97]]]]))]⟩
noncomputable def qF:ae:=⟨[91,17],[],[.ite (a0H .eq (.idx (a0F 17) (.c (.int 0))) (.c (.str bJ))) [a0G (a0I (.name 28)) (a0J (.c (.str n7)) cw [.idx (a0F 17) (.c (.int 2))]),.ret (some (.tup [.bin .add (a0F 28) (.c (.int 1)),a0H .eq (.bin .mod (a0F 28) (.c (.int 2))) (.c (.int 1))]))] [],.ite (a0H .eq (.idx (a0F 17) (.c (.int 0))) (.c (.str sg))) [.ret (some (.tup [.idx (.idx (a0F 17) (.c (.int 2))) (.c (.int 0)),.idx (a0F 17) (.c (.int 3))]))] [],.ite (.or [a0H .eq (.idx (a0F 17) (.c (.int 0))) (.c (.str cw)),a0H .eq (.idx (a0F 17) (.c (.int 2))) (.c (.str iE))]) [.ret (some (.tup [.c (.int 1),.c (.bool false)]))] [],a0G (a0I (.name 47)) (.call 100 [a0F 91,.idx (a0F 17) (.c (.int 3))]),a0G (a0I (.name 96)) (.call 100 [a0F 91,.idx (a0F 17) (.c (.int 4))]),.ret (some (.tup [.bi .max [.idx (a0F 47) (.c (.int 0)),.idx (a0F 96) (.c (.int 0))],.and [.idx (a0F 47) (.c (.int 1)),.idx (a0F 96) (.c (.int 1))]]))]⟩
noncomputable def bW:ae:=⟨[87,91,92],[],[a0G (a0I (.name 1)) (.bin .mod (.call 89 [a0F 87]) (.ite (a0H .gt (a0F 92) (.c (.int 0))) (.c (.int 15)) (.c (.int 5)))),.ite (a0H .eq (a0F 1) (.c (.int 0))) [a0G (a0I (.tup [.name 45,.name 46,.name 52])) (.call 97 [a0F 87,a0F 91]),.ret (some (.tup [.tup [.c (.str bj),.c (.int 0),a0F 45,a0F 46,.c .none],a0F 52]))] [],.ite (a0H .eq (a0F 1) (.c (.int 1))) [.ret (some (.tup [.c .none,.c .none]))] [],.ite (a0H .lt (a0F 1) (.c (.int 4))) [.ret (some (.call 98 [a0F 87,a0F 91,.idx (.lst [.c (.str bj),.c (.str fO)]) (.bin .sub (a0F 1) (.c (.int 2)))]))] [],.ite (a0H .eq (a0F 1) (.c (.int 4))) [a0G (a0I (.name 98)) (.bin .mod (.call 89 [a0F 87]) (.c (.int 3))),.ite (a0H .eq (a0F 98) (.c (.int 0))) [.ret (some (.tup [.tup [.c (.str b7),.c (.int 0),.tup [.c (.str bJ),.c (.int 0),.c (.str xF)]],.tup [.c (.str b7),.c (.int 6)]]))] [],.ite (a0H .eq (a0F 98) (.c (.int 1))) [a0G (a0I (.name 17)) (.call 92 [a0F 87]),.augS (a0F 91) (.c (.str bF)) (.call 93 [a0F 17]),a0G (a0I (.name 52)) (.tup [.c (.str hZ),.c (.str c8),.tup [.tup [.c (.str Qx),.c (.str QS)],.bin .add (.tup [.c (.str xF)]) (.call 39 [.idx (a0F 91) (.c (.str ah)),a0F 17]),.tup [.c (.str u5)],.tup [.c (.str Af),.c (.int 5)]]]),.ret (some (.tup [.tup [.c (.str hZ),.c (.int 0),.c (.str c8),.tup [.tup [.c (.str qQ),.c (.int 0),.c (.str QS)],a0F 17,.c .none,.tup [.c (.str bJ),.c (.int 0),.c (.str RN)]]],a0F 52]))] [],a0G (a0I (.name 47)) (.call 92 [a0F 87]),a0G (a0I (.name 96)) (.call 91 [a0F 87]),.augS (a0F 91) (.c (.str bF)) (.call 93 [a0F 47]),a0G (a0I (.name 52)) (.tup [.c (.str cb),.c (.int 0),.tup [.call 40 [.idx (a0F 91) (.c (.str ah)),a0F 47,.c (.int 3)]],.tup [.tup [.call 44 [.idx (a0F 91) (.c (.str ah)),a0F 96,.c (.bool true)],.c (.int 1)]]]),.ret (some (.tup [.tup [.c (.str cb),.c (.int 0),.tup [.c (.str bJ),.c (.int 0),.c (.str PD)],.tup [a0F 47,a0F 96]],a0F 52]))] [],.ite (a0H .eq (a0F 1) (.c (.int 5))) [.ret (some (.call 99 [a0F 87,a0F 91,a0F 92]))] [],.ite (a0H .eq (a0F 1) (.c (.int 14))) [a0G (a0I (.name 73)) (.bin .add (.c (.str Vd)) (.bi .str [.idx (a0F 91) (.c (.str fC))])),.augS (a0F 91) (.c (.str fC)) (.c (.int 1)),a0G (a0I (.tup [.name 47,.name 52])) (.call 101 [a0F 87,a0F 91,.c (.int 0)]),.ret (some (.tup [.tup [.c (.str aO),.c (.int 0),a0F 73,.tup [],.tup [a0F 47,.tup [.c (.str bg),.c (.int 0),.tup [.c (.str bJ),.c (.int 0),a0F 73]]]],.tup [.c (.str aO),.tup [a0F 52,.tup [.c (.str bg),a0F 73]],a0F 73]]))] [],a0G (a0I (.tup [.name 47,.name 52])) (.call 101 [a0F 87,a0F 91,.bin .sub (a0F 92) (.c (.int 1))]),.ite (a0H .eq (a0F 1) (.c (.int 6))) [a0G (a0I (.tup [.name 96,.name 48])) (.call 101 [a0F 87,a0F 91,.bin .sub (a0F 92) (.c (.int 1))]),a0G (a0I (.name 32)) (.idx (.lst [.c (.str aO),.c (.str eP)]) (.bin .mod (.call 89 [a0F 87]) (.c (.int 2)))),.ret (some (.tup [.tup [a0F 32,.c (.int 0),.c .none,.tup [],.tup [a0F 47,a0F 96]],.tup [a0F 32,.tup [a0F 52,a0F 48],.neg (.c (.int 1))]]))] [],a0G (a0I (.name 17)) (.call 92 [a0F 87]),.ite (.and [a0H .ne (a0F 1) (.c (.int 10)),a0H .ne (a0F 1) (.c (.int 9))]) [.augS (a0F 91) (.c (.str bF)) (.call 93 [a0F 17])] [],.ite (a0H .eq (a0F 1) (.c (.int 7))) [.ret (some (.tup [.tup [.c (.str nJ),.c (.int 0),a0F 17,a0F 47,.c .none],.tup [.c (.str nJ),.call 95 [a0F 91,a0F 17],a0F 52,.c .none]]))] [],.ite (a0H .eq (a0F 1) (.c (.int 8))) [.ret (some (.tup [.tup [.c (.str aI),.c (.int 0),a0F 17,a0F 47],.tup [.c (.str aI),.call 95 [a0F 91,a0F 17],a0F 52]]))] [],.ite (a0H .eq (a0F 1) (.c (.int 9))) [.ret (some (.tup [.tup [.c (.str d7),.c (.int 0),a0F 17,a0F 47],.tup [.c (.str d7),.call 95 [a0F 91,a0F 17],a0F 52]]))] [],.ite (a0H .eq (a0F 1) (.c (.int 10))) [.ite (a0H .eq (.bin .mod (.call 89 [a0F 87]) (.c (.int 2))) (.c (.int 0))) [.ret (some (.tup [.tup [.c (.str aF),.c (.int 0),.tup [.tup [.c (.str jc),a0F 17]],a0F 47],.tup [.c (.str aF),.tup [.tup [.c (.str jc),.call 95 [a0F 91,a0F 17]]],a0F 52]]))] [],.mk 5,.ret (some (.tup [.tup [.c (.str aF),.c (.int 0),.tup [.c (.str mw)],.tup [.c (.str bj),.c (.int 0),a0F 45,a0F 46,.c .none]],.tup [.c (.str aF),a0F 100,a0F 99]]))] [],.ite (a0H .eq (a0F 1) (.c (.int 11))) [.ret (some (.tup [.tup [.c (.str cB),.c (.int 0),a0F 17,a0F 47],.tup [.c (.str cB),.call 95 [a0F 91,a0F 17],a0F 52]]))] [],.ite (a0H .eq (a0F 1) (.c (.int 12))) [a0G (a0I (.tup [.name 80,.name 9])) (.call 39 [.idx (a0F 91) (.c (.str ah)),a0F 17]),.ret (some (.tup [.tup [.c (.str bP),.c (.int 0),a0F 17,a0F 47],.tup [.c (.str bP),a0F 80,a0F 9,a0F 52]]))] [],a0G (a0I (.tup [.name 45,.name 46,.name 99])) (.call 97 [a0F 87,a0F 91]),.ret (some (.tup [.tup [.c (.str gH),.c (.int 0),.tup [a0F 45,a0F 46],a0F 17,.tup [a0F 45,a0F 46],a0F 47],.tup [.c (.str gH),a0F 99,.call 95 [a0F 91,a0F 17],a0F 99,a0F 52]]))]⟩
noncomputable def pG:ae:=⟨[29,101,102],[],[.ite (.or [a0H .is_ (a0F 102) (.c .none),a0H .is_ (a0F 101) (.c .none)]) [.ret (some (a0H .eq (a0F 101) (a0F 102)))] [],.ite (a0H .eq (.idx (a0F 102) (.c (.int 0))) (.c (.str cz))) [a0G (a0I (.tup [.name 57,.name 90,.name 9])) (.idx (a0F 102) (.c (.int 2))),.mk 6,.for_ (.tup [.tup [.name 58,.name 44],.tup [.name 103,.name 52]]) (.bi .zip [.idx (a0F 101) (.c (.int 3)),.idx (a0F 102) (.c (.int 3))]) [.ite (.or [a0H .ne (a0H .is_ (a0F 58) (.c .none)) (a0H .is_ (a0F 103) (.c .none)),.not (.call 102 [a0F 29,a0F 44,a0F 52])]) [.any] [],.ite (a0H .isnot (a0F 58) (.c .none)) [a0G (a0I (.name 78)) (.lst []),.for_ (.name 37) (.idx (a0F 103) (.c (.int 0))) [.mk 7],.ite (a0H .ne (.bi .list [a0F 58]) (a0F 78)) [.any] []] []],.ret (some (.c (.bool true)))] [],.ite (a0H .eq (.idx (a0F 102) (.c (.int 0))) (.c (.str bg))) [.ret (some (a0H .eq (a0F 101) (.tup [.c (.str bg),.attr (a0F 29) bL])))] [],.ite (a0H .in_ (.idx (a0F 102) (.c (.int 0))) (.tup [.c (.str aO),.c (.str eP)])) [a0G (a0I (.name 106)) (a0F 29),.ite (.isi .str (.idx (a0F 102) (.c (.int 2)))) [a0G (a0I (.name 106)) (.idx (.idx (.attr (a0F 29) bB) (.idx (a0F 102) (.c (.int 2)))) (.c (.int 1)))] [],a0G (a0I (.name 37)) (.ite (.isi .str (.idx (a0F 102) (.c (.int 2)))) (.attr (a0F 106) bL) (.neg (.c (.int 1)))),.ite (.or [a0H .ne (.idx (a0F 101) (.c (.int 0))) (.idx (a0F 102) (.c (.int 0))),a0H .ne (.idx (a0F 101) (.c (.int 2))) (a0F 37),a0H .ne (.bi .len [.idx (a0F 101) (.c (.int 1))]) (.bi .len [.idx (a0F 102) (.c (.int 1))])]) [.any] [],.ret (some (a0H .notin (.c (.bool false)) (.comp (.call 102 [a0F 106,a0F 47,a0F 96]) (.tup [.name 47,.name 96]) (.bi .zip [.idx (a0F 101) (.c (.int 1)),.idx (a0F 102) (.c (.int 1))]) [])))] [],.ite (a0H .in_ (.idx (a0F 102) (.c (.int 0))) (.tup [.c (.str nJ),.c (.str aI),.c (.str d7),.c (.str aF),.c (.str cB),.c (.str bP),.c (.str gH)])) [.ite (a0H .ne (.bi .len [a0F 101]) (.bi .len [a0F 102])) [.any] [],.for_ (.tup [.name 47,.name 96]) (.bi .zip [a0F 101,a0F 102]) [.mk 8,.ite (.or [.and [a0F 44,.not (.call 102 [a0F 29,a0F 47,a0F 96])],.and [.not (a0F 44),a0H .ne (a0F 47) (a0F 96)]]) [.any] []],.ret (some (.c (.bool true)))] [],.ret (some (a0H .eq (a0F 101) (a0F 102)))]⟩
noncomputable def i8:ae:=⟨[86],[],[a0G (a0I (.name 87)) (.call 88 [a0F 86]),a0G (a0I (.name 55)) (.new 7 []),a0G (a0I (.name 29)) (.new 6 [a0F 55,.c (.str kC),.c .none,.c (.str qU)]),.for_ (.name 28) (.bi .range [.c (.int 4)]) [.expr (a0J (a0F 55) bv [.bin .add (.c (.str xb)) (.idx (.c (.str n7)) (a0F 28)),.c (.str Fp),.bin .add (a0F 28) (.c (.int 1)),a0H .eq (.bin .mod (a0F 28) (.c (.int 2))) (.c (.int 1)),a0F 28,.c (.int 0),.neg (.c (.int 1))]),.expr (a0J (a0F 29) ch [.idx (.c (.str n7)) (a0F 28),.tup [.c (.str cV),a0F 28],.neg (.c (.int 1))])],.expr (a0J (a0F 55) bv [.c (.str uA),.c (.str pI),.c (.int 3),.c (.bool false),.c (.int 2),.c (.int 0),.neg (.c (.int 1))]),.expr (a0J (a0F 29) ch [.c (.str TD),.tup [.c (.str cV),.c (.int 4)],.neg (.c (.int 1))]),a0G (a0I (.name 107)) (a0J (a0F 55) bv [.c (.str u6),.c (.str Fp),.c (.int 3),.c (.bool false),.c (.int 2),.c (.int 0),.neg (.c (.int 1))]),a0G (.attr (a0F 107) lg) (.c (.int 0)),a0G (.attr (a0F 107) vb) (.c (.int 3)),.expr (a0J (a0F 29) ch [.c (.str RN),.tup [.c (.str cV),.c (.int 5)],.neg (.c (.int 1))]),.expr (a0J (a0F 55) bv [.c (.str uc),.c (.str dX),.c (.int 1),.c (.bool false),.c (.int 0),.c (.int 0),.neg (.c (.int 1))]),.expr (a0J (a0F 29) ch [.c (.str xF),.tup [.c (.str dX),.c (.int 6)],.neg (.c (.int 1))]),a0G (a0I (.name 108)) (a0J (a0F 55) cJ [.c (.str v3),.c (.bool false),.c (.bool false),.neg (.c (.int 1))]),a0G (.attr (a0F 108) fz) (.lst [.tup [.c (.str qh),.c (.int 3),.c (.bool false),.c (.str cV),.c (.int 0)],.tup [.c (.str rp),.c (.int 2),.c (.bool false),.c (.str cV),.c (.int 1)]]),.expr (a0J (a0F 29) ch [.c (.str PD),.tup [.c (.str eV),.attr (a0F 108) bL],.neg (.c (.int 1))]),a0G (a0I (.name 109)) (a0J (a0F 55) cJ [.c (.str tJ),.c (.bool true),.c (.bool false),.neg (.c (.int 1))]),a0G (.attr (a0F 109) fz) (.lst [.tup [.c (.str qh),.c (.int 3),.c (.bool false),.c (.str lu),.c (.int 1)]]),.expr (a0J (a0F 29) ch [.c (.str TJ),.tup [.c (.str eV),.attr (a0F 109) bL],.neg (.c (.int 1))]),a0G (a0I (.name 91)) (.dct [ah,bF,fC] [a0F 29,.lst [],.c (.int 0)]),a0G (a0I (.name 110)) (.lst [.tup [.tup [.c (.str bj),.c (.int 0),.tup [.c (.str bJ),.c (.int 0),.c (.str TD)],.call 90 [a0F 87],.c .none],.c (.str cF)],.tup [.tup [.c (.str b7),.c (.int 0),.tup [.c (.str bJ),.c (.int 0),.c (.str FT)]],.c (.str b9)],.tup [.tup [.c (.str fO),.c (.int 0),.tup [.c (.str bJ),.c (.int 0),.c (.str FT)],.call 90 [a0F 87],.tup [.c (.str aF),.tup [.tup [.c (.str qY),.tup [.c (.str bJ),.c (.int 0),.c (.str Ud)]]]]],.c (.str bX)],.tup [.tup [.c (.str cb),.c (.int 0),.tup [.c (.str bJ),.c (.int 0),.c (.str TJ)],.tup [.call 90 [a0F 87]]],.c (.str bq)],.tup [.tup [.c (.str cb),.c (.int 0),.tup [.c (.str bJ),.c (.int 0),.c (.str PD)],.tup [.call 90 [a0F 87]]],.c (.str cT)],.tup [.tup [.c (.str cb),.c (.int 0),.tup [.c (.str bJ),.c (.int 0),.c (.str FT)],.tup []],.c (.str bq)],.tup [.tup [.c (.str bg),.c (.int 0),.tup [.c (.str bJ),.c (.int 0),.c (.str FT)]],.c (.str di)],.tup [.tup [.c (.str aF),.c (.int 0),.tup [.tup [.c (.str jc),.tup [.c (.str bJ),.c (.int 0),.c (.str xF)]]],.c .none],.c (.str b9)],.tup [.tup [.c (.str bj),.c (.int 0),.tup [.c (.str bJ),.c (.int 0),.c (.str FT)],.call 90 [a0F 87],.tup [.c (.str aF),.tup [.c (.str mw)]]],.c (.str b9)],.tup [.tup [.c (.str bg),.c (.int 0),.tup [.c (.str bJ),.c (.int 0),.c (.str W8)]],.c (.str iU)]]),a0G (a0I (.name 106)) (.lst [.tup [.tup [.c (.str aI),.c (.int 0),.call 90 [a0F 87],.c .none],.c (.str av)],.tup [.tup [.c (.str eP),.c (.int 0),.c .none,.tup [],.tup []],.c (.str av)],.tup [.tup [.c (.str fO),.c (.int 0),.tup [.c (.str bJ),.c (.int 0),.c (.str FT)],.call 90 [a0F 87],.c .none],.c (.str ci)],.tup [.tup [.c (.str hZ),.c (.int 0),.c (.str c8),.tup []],.c (.str b6)],.tup [.tup [.c (.str cb),.c (.int 0),.tup [.c (.str bJ),.c (.int 0),.c (.str PD)],.tup [.call 90 [a0F 87],.tup [.c (.str bJ),.c (.int 0),.c (.str FT)]]],.c (.str b6)],.tup [.tup [.c (.str bj),.c (.int 0),.tup [.c (.str bJ),.c (.int 0),.c (.str FT)],.call 90 [a0F 87],.tup [.c (.str aI),.call 90 [a0F 87]]],.c (.str av)],.tup [.tup [.c (.str b7),.c (.int 0),.tup [.c (.str bJ),.c (.int 0),.c (.str xF)]],.c (.str av)],.tup [.tup [.c (.str d7),.c (.int 0),.call 90 [a0F 87],.c .none],.c (.str av)]]),a0G (a0I (.name 111)) (.bin .mod (.call 89 [a0F 87]) (.c (.int 3))),.ite (a0H .gt (a0F 111) (.c (.int 0))) [a0G (a0I (.tup [.name 112,.name 1])) (.idx (.idx (.lst [a0F 110,a0F 106]) (.bin .sub (a0F 111) (.c (.int 1)))) (.bin .mod (.call 89 [a0F 87]) (.ite (a0H .eq (a0F 111) (.c (.int 1))) (.c (.int 10)) (.c (.int 8))))),a0G (a0I (.name 75)) (.new 3 [a0F 55,a0F 29,.ite (a0H .eq (a0F 111) (.c (.int 1))) (.c .none) (a0F 109)]),.try_ (a0J (a0F 75) cv [.tup [.c (.str aO),.c (.int 0),.c .none,.tup [],.tup [.c .none,a0F 112]]]) dG 1,.any] [],a0G (a0I (.tup [.name 114,.name 102])) (.call 101 [a0F 87,a0F 91,.c (.int 2)]),a0G (a0I (.name 101)) (a0J (.new 3 [a0F 55,a0F 29]) cv [a0F 114]),.ret (some (.call 102 [a0F 29,a0F 101,a0F 102]))]⟩
noncomputable def We:List S:=[.for_ (.name 60) (a0F 58) [a0G (a0I (.tup [.name 61,.name 62])) (.call 36 [a0F 29,a0F 60]),a0G (a0I (.name 33)) (.bi .max [a0F 33,a0F 61]),a0G (a0I (.name 9)) (.and [a0F 9,a0F 62])]]
noncomputable def UF:List S:=[.ite (.and [.or [a0H .eq (.idx (a0F 22) (.c (.int 0))) (.c (.str aO)),a0H .eq (.idx (a0F 22) (.c (.int 0))) (.c (.str eP))],a0H .isnot (.idx (a0F 22) (.c (.int 2))) (.c .none)]) [a0G (a0I (.name 70)) (a0J (a0F 70) wx [.idx (a0F 22) (.c (.int 2)),.c (.str aO),.idx (a0F 22) (.c (.int 1))]),.for_ (.name 71) (.idx (a0F 22) (.c (.int 3))) [.any]] []]
noncomputable def U6:List S:=[a0G (a0I (.name 58)) (.comp (.call 90 [a0F 87]) (.name 93) (.bi .range [.bin .add (.c (.int 1)) (.bin .mod (.call 89 [a0F 87]) (.c (.int 2)))]) [])]
noncomputable def Vp:List S:=[a0G (a0I (.name 94)) (.comp (.call 100 [a0F 91,a0F 17]) (.name 17) (.bin .add (.lst [a0F 57]) (a0F 58)) []),a0G (a0I (.name 90)) (.bi .max [.comp (.idx (a0F 1) (.c (.int 0))) (.name 1) (a0F 94) []]),a0G (a0I (.name 9)) (a0H .notin (.c (.bool false)) (.comp (.idx (a0F 1) (.c (.int 1))) (.name 1) (a0F 94) []))]
noncomputable def Uz:List S:=[a0G (a0I (.name 57)) (.call 92 [a0F 87]),.mk 2,.mk 3]
noncomputable def VC:List S:=[a0G (a0I (.name 44)) (.dct [ah,bF,fC] [.idx (a0F 91) (.c (.str ah)),.lst [],.c (.int 50)]),a0G (a0I (.tup [.name 45,.name 46,.name 99])) (.call 97 [a0F 87,a0F 44]),.augS (a0F 91) (.c (.str bF)) (.idx (a0F 44) (.c (.str bF))),a0G (a0I (.name 24)) (.comp (a0F 28) (.name 28) (.bi .range [.c (.int 4)]) [a0H .in_ (a0F 28) (.idx (a0F 44) (.c (.str bF)))]),a0G (a0I (.name 100)) (.bi .tuple [.comp (.tup [.c (.str kG),.tup [.c (.str cV),.bin .add (a0F 28) (.c (.int 1)),a0F 28]]) (.name 28) (a0F 24) []])]
noncomputable def Ux:List S:=[.ite (.or [a0H .ne (.slice (a0F 101) none (some (.c (.int 2)))) (.slice (a0F 102) none (some (.c (.int 2)))),a0H .ne (.idx (.idx (a0F 101) (.c (.int 2))) (.c (.int 1))) (a0F 90),a0H .ne (.bi .len [.idx (a0F 101) (.c (.int 3))]) (.bi .len [.idx (a0F 102) (.c (.int 3))])]) [.any] []]
noncomputable def Vt:List S:=[a0G (a0I (.name 104)) (.comp (.bin .mod (.bin .fdiv (.idx (.idx (a0F 37) (.c (.int 2))) (.c (.int 1))) (.bin .pow (.c (.int 2)) (a0F 105))) (.c (.int 2))) (.name 105) (.bi .range [.idx (.idx (a0F 37) (.c (.int 2))) (.c (.int 0))]) []),a0G (a0I (.name 104)) (.slice (.bin .add (a0F 104) (.bin .mul (.lst [.ite (a0F 9) (.idx (a0F 104) (.neg (.c (.int 1)))) (.c (.int 0))]) (a0F 90))) none (some (a0F 90))),.expr (a0J (a0F 78) aA [.tup [.c (.str fB),a0F 90,.bi .sum [.comp (.bin .mul (.idx (a0F 104) (a0F 105)) (.bin .pow (.c (.int 2)) (a0F 105))) (.name 105) (.bi .range [a0F 90]) []],.c (.int 0)]])]
noncomputable def VQ:List S:=[a0G (a0I (.name 44)) (.and [.isi .tuple (a0F 96),a0H .ne (a0F 96) (.tup []),a0H .in_ (.idx (a0F 96) (.c (.int 0))) (.tup [.c (.str bj),.c (.str fO),.c (.str b7),.c (.str hZ),.c (.str cb),.c (.str cz),.c (.str aO),.c (.str eP),.c (.str nJ),.c (.str aI),.c (.str d7),.c (.str aF),.c (.str cB),.c (.str bP),.c (.str gH),.c (.str bg)])])]
noncomputable def Fn:List (List S):=[We,UF,U6,Vp,Uz,VC,Ux,Vt,VQ]
noncomputable def bG:List ae:=[eJ,LG,Ow,AC,JG,BH,jL,iL,uw,ui,jV,qc,jC,qo,kZ,mJ,pC,pk,nV,sv,Ef,pH,EE,AL,u4,fW,uL,DH,m8,uS,qx,lL,mu,pJ,nK,pX,sQ,lP,Fd,ja,E6,qi,nQ,nZ,Cj,xa,kQ,jU,kT,rn,nG,jn,py,ij,ki,xG,t8,gW,iy,jy,dT,de,dH,fK,fM,dm,d9,eK,fX,dy,fY,eh,eG,fV,fU,qP,iS,kR,iD,ix,iW,gV,io,gz,jW,nH,kU,mD,um,qO,nP,qN,rO,qk,rW,vg,uM,tY,je,sJ,qF,bW,pG,i8]
noncomputable def jl:List da:=[⟨7,[]⟩,⟨6,[]⟩,⟨0,[]⟩,⟨60,[(bT,61),(bR,62),(fu,63),(aO,64),(iY,65),(i6,66),(jF,67),(uj,68),(kH,69),(zx,70),(oY,71),(b7,72),(cb,73),(cv,74)]⟩,⟨76,[(km,77),(cr,78)]⟩,⟨79,[]⟩,⟨84,[(wx,85),(ch,86),(rU,87)]⟩,⟨80,[(bv,81),(gJ,82),(cJ,83)]⟩]
end Mine
end
section
namespace Mx
open Mine
noncomputable def cE:St:=[
 .tmp,
 .tmp,
 .tmp,
 .tmp,
 .sd [([115,105,103,110,97,108,115],(.ref 6)),([97,115,115,105,103,110,115],(.ref 7)),([103,97,116,101,115],(.ref 8)),([117,100,112,115],(.ref 9)),([112,114,111,99,101,115,115,101,115],(.ref 10)),([114,111,117,116,105,110,101,115],(.ref 11)),([115,99,111,112,101,115],(.ref 12)),([116,111,112,115],(.ref 13)),([112,111,114,116,115],(.ref 14)),([109,97,107,101,114],.none),([98,121,95,112,97,116,104],(.ref 15))],
 .inst 7 4,
 .lst [.ref 20,.ref 22,.ref 24,.ref 26,.ref 28,.ref 30,.ref 32],
 .lst [],
 .lst [],
 .lst [],
 .lst [],
 .lst [.ref 34,.ref 39],
 .tmp,
 .lst [],
 .lst [],
 .sd [([116,111,112,46,97],(.int (0))),([116,111,112,46,98],(.int (1))),([116,111,112,46,99],(.int (2))),([116,111,112,46,100],(.int (3))),([116,111,112,46,119],(.int (4))),([116,111,112,46,109],(.int (5))),([116,111,112,46,101],(.int (6)))],
 .sd [([100,101,115,105,103,110],(.ref 5)),([110,97,109,101],(.str [116,111,112])),([112,97,114,101,110,116],.none),([107,105,110,100],(.str [109,111,100,117,108,101])),([112,97,116,104],(.str [116,111,112])),([110,101,116,116,121,112,101],(.str [119,105,114,101])),([109,111,100,117,108,101,95,110,97,109,101],.none),([101,110,116,114,105,101,115],(.ref 18)),([110,117,109,98,101,114],(.int (0)))],
 .inst 6 16,
 .tmp,
 .sd [([107,101,121],(.int (0))),([112,97,116,104],(.str [116,111,112,46,97])),([107,105,110,100],(.str [114,101,103])),([119,105,100,116,104],(.int (1))),([115,105,103,110,101,100],(.bool false)),([109,115,98],(.int (0))),([108,115,98],(.int (0))),([102,105,114,115,116],.none),([108,97,115,116],.none),([105,110,105,116],.none),([97,116],(.int (-1))),([115,99,97,108,97,114],(.bool false))],
 .inst 4 19,
 .sd [([107,101,121],(.int (1))),([112,97,116,104],(.str [116,111,112,46,98])),([107,105,110,100],(.str [114,101,103])),([119,105,100,116,104],(.int (2))),([115,105,103,110,101,100],(.bool true)),([109,115,98],(.int (1))),([108,115,98],(.int (0))),([102,105,114,115,116],.none),([108,97,115,116],.none),([105,110,105,116],.none),([97,116],(.int (-1))),([115,99,97,108,97,114],(.bool false))],
 .inst 4 21,
 .sd [([107,101,121],(.int (2))),([112,97,116,104],(.str [116,111,112,46,99])),([107,105,110,100],(.str [114,101,103])),([119,105,100,116,104],(.int (3))),([115,105,103,110,101,100],(.bool false)),([109,115,98],(.int (2))),([108,115,98],(.int (0))),([102,105,114,115,116],.none),([108,97,115,116],.none),([105,110,105,116],.none),([97,116],(.int (-1))),([115,99,97,108,97,114],(.bool false))],
 .inst 4 23,
 .sd [([107,101,121],(.int (3))),([112,97,116,104],(.str [116,111,112,46,100])),([107,105,110,100],(.str [114,101,103])),([119,105,100,116,104],(.int (4))),([115,105,103,110,101,100],(.bool true)),([109,115,98],(.int (3))),([108,115,98],(.int (0))),([102,105,114,115,116],.none),([108,97,115,116],.none),([105,110,105,116],.none),([97,116],(.int (-1))),([115,99,97,108,97,114],(.bool false))],
 .inst 4 25,
 .sd [([107,101,121],(.int (4))),([112,97,116,104],(.str [116,111,112,46,119])),([107,105,110,100],(.str [119,105,114,101])),([119,105,100,116,104],(.int (3))),([115,105,103,110,101,100],(.bool false)),([109,115,98],(.int (2))),([108,115,98],(.int (0))),([102,105,114,115,116],.none),([108,97,115,116],.none),([105,110,105,116],.none),([97,116],(.int (-1))),([115,99,97,108,97,114],(.bool false))],
 .inst 4 27,
 .sd [([107,101,121],(.int (5))),([112,97,116,104],(.str [116,111,112,46,109])),([107,105,110,100],(.str [114,101,103])),([119,105,100,116,104],(.int (3))),([115,105,103,110,101,100],(.bool false)),([109,115,98],(.int (2))),([108,115,98],(.int (0))),([102,105,114,115,116],(.int (0))),([108,97,115,116],(.int (3))),([105,110,105,116],.none),([97,116],(.int (-1))),([115,99,97,108,97,114],(.bool false))],
 .inst 4 29,
 .sd [([107,101,121],(.int (6))),([112,97,116,104],(.str [116,111,112,46,101])),([107,105,110,100],(.str [101,118,101,110,116])),([119,105,100,116,104],(.int (1))),([115,105,103,110,101,100],(.bool false)),([109,115,98],(.int (0))),([108,115,98],(.int (0))),([102,105,114,115,116],.none),([108,97,115,116],.none),([105,110,105,116],.none),([97,116],(.int (-1))),([115,99,97,108,97,114],(.bool false))],
 .inst 4 31,
 .sd [([110,117,109,98,101,114],(.int (0))),([112,97,116,104],(.str [116,111,112,46,116])),([105,115,95,102,117,110,99,116,105,111,110],(.bool false)),([97,117,116,111,109,97,116,105,99],(.bool false)),([97,116],(.int (-1))),([119,105,100,116,104],(.int (1))),([115,105,103,110,101,100],(.bool false)),([112,111,114,116,115],(.ref 37)),([115,108,111,116,115],(.ref 36)),([98,111,100,121],.none),([115,111,117,114,99,101],.none),([115,99,111,112,101],.none),([100,105,115,97,98,108,101,95,115,99,111,112,101],(.int (-1))),([109,97,100,101],(.bool false))],
 .inst 5 33,
 .lst [],
 .lst [],
 .lst [.tup [.str [105,110,112,117,116],.int (3),.bool false,.str [115,105,103],.int (0)],.tup [.str [111,117,116,112,117,116],.int (2),.bool false,.str [115,105,103],.int (1)]],
 .sd [([110,117,109,98,101,114],(.int (1))),([112,97,116,104],(.str [116,111,112,46,102])),([105,115,95,102,117,110,99,116,105,111,110],(.bool true)),([97,117,116,111,109,97,116,105,99],(.bool false)),([97,116],(.int (-1))),([119,105,100,116,104],(.int (1))),([115,105,103,110,101,100],(.bool false)),([112,111,114,116,115],(.ref 42)),([115,108,111,116,115],(.ref 41)),([98,111,100,121],.none),([115,111,117,114,99,101],.none),([115,99,111,112,101],.none),([100,105,115,97,98,108,101,95,115,99,111,112,101],(.int (-1))),([109,97,100,101],(.bool false))],
 .inst 5 38,
 .lst [],
 .lst [],
 .lst [.tup [.str [105,110,112,117,116],.int (3),.bool false,.str [108,111,99,97,108],.int (1)]],
 .tmp]
noncomputable section
structure Bn where
 b:Nat
 t:Nat
 a:Nat
 d:Nat
structure XS where
 o12:O
 o18:O
 e:List O
 n:Nat
 t:List Bn
 c:Nat
noncomputable def an(a b:Bool):Bool:=tf a b false
noncomputable def no(a:Bool):Bool:=tf a false true
noncomputable def or(a b:Bool):Bool:=tf a true b
noncomputable def len{α:Type}(l:List α):Nat:=@WB α (λ_=>Nat) 0 (λ_ _ ih=>WU ih) l
noncomputable def app{α:Type}(l m:List α):List α:=@WB α (λ_=>List α) m (λa _ ih=>a::ih) l
noncomputable def nv{α:Type}(l:List α):Nat->Option α:=@WB α (λ_=>Nat->Option α) (λ_=>none) (λa _ ih i=>@XI (λ_=>Option α) (some a) (λk _=>ih k) i) l
noncomputable def emp{α:Type}(l:List α):Bool:=lc l true λ_ _=>false
noncomputable def rep{α:Type}(v:α)(n:Nat):List α:=@XI (λ_=>List α) [] (λ_ ih=>v::ih) n
noncomputable def ft(n:Nat):Bool:=WD n 100000
noncomputable def D2(a b:O)(i:Nat):Option O:=tf (Wm i 12) (some a) (tf (Wm i 18) (some b) (a6 cE i))
noncomputable def XS.get(x:XS)(i:Nat):Option O:=tf (Wo i 44) (D2 x.o12 x.o18 i) (a6 x.e (WP i 44))
noncomputable def XS.set(x:XS)(i:Nat)(o:O):XS:=tf (Wo i 44) (tf (Wm i 12) ⟨o,x.o18,x.e,x.n,x.t,x.c⟩ ⟨x.o12,o,x.e,x.n,x.t,x.c⟩) ⟨x.o12,x.o18,az x.e (WP i 44) o,x.n,x.t,x.c⟩
noncomputable def XS.add(x:XS)(l:List O):XS:=⟨x.o12,x.o18,app x.e l,WW x.n (len l),x.t,x.c⟩
noncomputable def wok(i:Nat):Bool:=or (WD 44 i) (or (Wm i 12) (Wm i 18))
noncomputable def ON(l:List Bn)(i:Nat):Option Nat:=@WB Bn (λ_=>Option Nat) none (λp _ ih=>tf (Wm p.b i) (some p.t) ih) l
noncomputable def C9(l:List Bn)(i:Nat):Option Nat:=@WB Bn (λ_=>Option Nat) none (λp _ ih=>tf (an (WD p.b i) (Wo i (WW p.b p.a))) (some p.d) ih) l
noncomputable def XS.ty(x:XS)(i:Nat):Option Nat:=ON x.t i
noncomputable def XS.pay(x:XS)(k:Nat):XS:=⟨x.o12,x.o18,x.e,x.n,x.t,WP x.c k⟩
noncomputable def XS.push(x:XS)(t a d:Nat):XS:=⟨x.o12,x.o18,app x.e (rep .tmp a),WW x.n a,⟨x.n,t,a,d⟩::x.t,x.c⟩
noncomputable abbrev KV:=V->XS->Bool
noncomputable abbrev KL:=List V->XS->Bool
noncomputable abbrev KF:=F × Env->XS->Bool
noncomputable abbrev KB:=Bool->XS->Bool
noncomputable abbrev KS:=bA->XS->Bool
noncomputable def xO(x:XS)(i:Nat)(k:O->Bool):Bool:=opt (x.get i) k false
noncomputable def xL(x:XS)(i:Nat)(k:List V->Bool):Bool:=xO x i λo=>oL o k false
noncomputable def xD(x:XS)(i:Nat)(k:List (List Nat × V)->Bool):Bool:=xO x i λo=>oD o k false
noncomputable def xC(x:XS)(i:Nat)(k:Nat->Nat->Bool):Bool:=xO x i λo=>oC o k false
noncomputable def Si(v:V)(k:Nat->Bool):Bool:=fp v (λi=>nat i k false) false
noncomputable def lF(x:XS)(o:O)(K:KV):Bool:=K (.ref x.n) (x.add [o])
noncomputable def D5(t:List Bn)(v:V):Option Nat:=@V.rec (λ_=>Option Nat) (λ_=>Option Nat) (some 0) (λ_=>some 0) (λ_=>some 0) (λs=>tf (oK s) (some 0) none) (λ_ ih=>opt ih (λd=>some (WU d)) none) (C9 t)
 (some 0) (λ_ _ a b=>opt a (λa=>opt b (λb=>some (tf (WD a b) b a)) none) none) v
noncomputable def pY(t:List Bn)(l:List V):Option Nat:=@V.rec_1 (λ_=>Option Nat) (λ_=>Option Nat) (some 0) (λ_=>some 0) (λ_=>some 0) (λs=>tf (oK s) (some 0) none) (λ_ ih=>opt ih (λd=>some (WU d)) none) (C9 t)
 (some 0) (λ_ _ a b=>opt a (λa=>opt b (λb=>some (tf (WD a b) b a)) none) none) l
noncomputable def is{α:Type}(o:Option α):Bool:=opt o (λ_=>true) false
noncomputable def AA(k:Nat)(o:Option Nat):Bool:=opt o (λd=>WD d k) false
noncomputable def v6(i j:Int):Bool:=@Int.rec (λ_=>Bool) (λa=>@Int.rec (λ_=>Bool) (Wm a) (λ_=>false) j) (λa=>@Int.rec (λ_=>Bool) (λ_=>false) (Wm a) j) i
noncomputable def xU(a b:Bool):Bool:=tf a b (no b)
noncomputable def gh(a:V):V->Bool:=@V.rec (λ_=>V->Bool) (λ_=>List V->Bool) iM (λa u=>rv u (xU a) false) (λa u=>fp u (v6 a) false) (λa u=>jv u (bp a) false) (λ_ ih u=>ko u ih false) (λi u=>cD u (Wm i) false)
 emp (λ_ _ f g l=>lc l false λb r=>an (f b) (g r)) a
noncomputable def vj(a:List V):List V->Bool:=@V.rec_1 (λ_=>V->Bool) (λ_=>List V->Bool) iM (λa u=>rv u (xU a) false) (λa u=>fp u (v6 a) false) (λa u=>jv u (bp a) false) (λ_ ih u=>ko u ih false) (λi u=>cD u (Wm i) false)
 emp (λ_ _ f g l=>lc l false λb r=>an (f b) (g r)) a
noncomputable def sj(v:V):Bool:=@V.rec (λ_=>Bool) (λ_=>Unit) true (λ_=>true) (λ_=>true) (λ_=>true) (λ_ _=>false) (λ_=>false) () (λ_ _ _ _=>()) v
noncomputable def UZ(v:V):Bool:=ko v (λ_=>true) false
noncomputable def pP(a b:V):Bool:=or (UZ b) (an (sj b) (no (ny a b)))
noncomputable def Ff(a:V):V->Bool:=@V.rec (λ_=>V->Bool) (λ_=>List V->Bool) (pP .none) (λb=>pP (.bool b)) (λi=>pP (.int i)) (λs=>pP (.str s)) (λ_ ih b=>iN b (λ_=>true) (λ_=>true) ih (λ_=>false) true) (λ_ _=>false)
 (λl=>no (emp l)) (λ_ _ f g l=>lc l true λb r=>or (f b) (g r)) a
noncomputable def Pu(a:List V):List V->Bool:=@V.rec_1 (λ_=>V->Bool) (λ_=>List V->Bool) (pP .none) (λb=>pP (.bool b)) (λi=>pP (.int i)) (λs=>pP (.str s)) (λ_ ih b=>iN b (λ_=>true) (λ_=>true) ih (λ_=>false) true) (λ_ _=>false)
 (λl=>no (emp l)) (λ_ _ f g l=>lc l true λb r=>or (f b) (g r)) a
noncomputable def qA(s d:Bool)(x:XS)(K:KB):Bool:=tf s (K true x) (an d (K false x))
noncomputable def Qe(v:V)(l:List V):Bool:=@WB V (λ_=>Bool) false (λa _ ih=>or (gh a v) ih) l
noncomputable def OI(v:V)(l:List V):Bool:=@WB V (λ_=>Bool) true (λa _ ih=>an (Ff a v) ih) l
noncomputable def td(v:V)(l:List V)(x:XS)(K:KB):Bool:=an (AA 60 (D5 x.t v)) (an (is (pY x.t l)) (qA (Qe v l) (OI v l) x K))
noncomputable def bH:List (List Nat × V):=[([97],.tup [.str [115,105,103],.int 0]),([98],.tup [.str [115,105,103],.int 1]),([99],.tup [.str [115,105,103],.int 2]),([100],.tup [.str [115,105,103],.int 3]),([119],.tup [.str [115,105,103],.int 4]),([109],.tup [.str [115,105,103],.int 5]),([101],.tup [.str [101,118,101,110,116],.int 6]),([116],.tup [.str [114,111,117,116,105,110,101],.int 0]),([102],.tup [.str [114,111,117,116,105,110,101],.int 1])]
noncomputable def BC(x:XS)(i:Nat)(n:List Nat)(k:Option V->Bool):Bool:=xO x i λo=>oO o (λ_=>false) (λ_ _=>false) (λes=>k (ax es n)) (λ_=>false) (λ_=>false) (λ_=>false)
 (opt (x.ty i) (λt=>an (Wm t 5) (opt (ax bH n) (λv=>k (some v)) false)) false)
noncomputable def Rp(a b:V)(x:XS)(K:KB):Bool:=iN b (λ_=>false) (λ_=>false) (λl=>td a l x K) (λi=>iN a (λ_=>xL x i λl=>td a l x K) (λn=>tf (opt (x.get i) (λo=>oL o (λ_=>true) false) false) (xL x i λl=>td a l x K) (BC x i n λo=>K (is o) x)) (λ_=>xL x i λl=>td a l x K) (λ_=>xL x i λl=>td a l x K) (xL x i λl=>td a l x K)) false
noncomputable def Ph(x:XS)(i j:Nat)(K:KB):Bool:=xL x i λl=>xL x j λm=>an (AA 59 (pY x.t l)) (an (is (pY x.t m)) (qA (vj l m) (Pu l m) x K))
noncomputable def Rb(a b:V)(x:XS)(K:KB):Bool:=opt (D5 x.t a) (λd=>an (WD d 60) (an (is (D5 x.t b)) (qA (gh a b) (Ff a b) x K))) (cD a (λi=>cD b (λj=>Ph x i j K) false) false)
noncomputable def sU(f:Int->Int->Bool)(a b:V)(x:XS)(K:KB):Bool:=fp a (λi=>fp b (λj=>K (f i j) x) false) false
noncomputable def IH(K:KB):KB:=λq x=>K (!q) x
noncomputable def Pn(op:Cm)(a b:V)(x:XS)(K:KB):Bool:=@Cm.rec (λ_=>Bool) (Rb a b x K) (Rb a b x (IH K)) (sU (λx y=>decide (x<y)) a b x K) (sU (λx y=>decide (x<=y)) a b x K) (sU (λx y=>decide (y<x)) a b x K) (sU (λx y=>decide (y<=x)) a b x K)
 (Rp a b x K) (Rp a b x (IH K)) (an (iM b) (K (iM a) x)) (an (iM b) (K (!iM a) x)) op
noncomputable def Qj(i:Int):Bool:=@Int.rec (λ_=>Bool) (λn=>no (Wm n 0)) (λ_=>true) i
noncomputable def jI(v:V)(x:XS)(K:KB):Bool:=@V.rec (λ_=>Bool) (λ_=>Unit) (K false x) (λb=>K b x) (λi=>K (Qj i) x) (λs=>an (ft (len s)) (K (no (emp s)) x)) (λl _=>an (ft (len l)) (K (no (emp l)) x)) (λi=>xL x i λl=>K (no (emp l)) x) () (λ_ _ _ _=>()) v
noncomputable def Dp(v:V)(x:XS)(K:KS):Bool:=iN v (λ_=>false) (λ_=>false) (λl=>K (.vals l) x) (λi=>xL x i λ_=>K (.list i 0) x) false
noncomputable def rF(s:bA)(x:XS)(kn:Bool)(ks:V->bA->Bool):Bool:=@bA.rec (λ_=>Bool) (λl=>lc l kn λv r=>ks v (.vals r)) (λi k=>xL x i λl=>opt (nv l k) (λv=>ks v (.list i (WU k))) kn)
 (λi k=>@XI (λ_=>Bool) kn (λk _=>xL x i λl=>opt (nv l k) (λv=>ks v (.rlist i k)) false) k) s
noncomputable def LB{α:Type}(l:List α)(k:Int):Option α:=@Int.rec (λ_=>Option α) (λn=>tf (Wo n 100000) (nv l n) none) (λn=>tf (an (Wo n 100000) (an (Wo n (len l)) (WD (len l) 1000000))) (nv l (WP (len l) (WU n))) none) k
noncomputable def E4(l:List V)(b:V)(x:XS)(K:KV):Bool:=fp b (λz=>opt (LB l z) (λv=>K v x) false) false
noncomputable def AJ(a b:V)(x:XS)(K:KV):Bool:=iN a (λ_=>false) (λs=>fp b (λz=>opt (LB s z) (λc=>K (.str [c]) x) false) false) (λl=>E4 l b x K)
 (λi=>iN b (λ_=>xL x i λl=>E4 l b x K) (λn=>BC x i n λo=>opt o (λv=>K v x) false) (λ_=>false) (λ_=>false) false) false
noncomputable def FW(v:V)(n:List Nat)(x:XS)(K:KV):Bool:=cD v (λi=>xC x i λ_ d=>xD x d λes=>opt (ax es n) (λv=>K v x) false) false
noncomputable def FI(l m:List V)(x:XS)(K:KV):Bool:=an (ft (WW (len l) (len m))) (lF x (.lst (app l m)) K)
noncomputable def Pz(op:Op)(l:List V)(b:V)(x:XS)(K:KV):Bool:=iN b (λn=>an (Bi op) (nat n (λn=>l1 l (λy=>an (Wo n 64) (lF x (.lst (rep y n)) K)) false) false)) (λ_=>false) (λ_=>false) (λj=>xL x j λm=>an (mU op) (FI l m x K)) false
noncomputable def yd(op:Op)(a b:V)(x:XS)(K:KV):Bool:=iN a (λi=>fp b (λj=>opt (C6 op i j) (λz=>K (.int z) x) false) false) (λs=>jv b (λt=>an (mU op) (an (ft (WW (len s) (len t))) (K (.str (app s t)) x))) false)
 (λl=>ko b (λm=>an (mU op) (an (ft (WW (len l) (len m))) (K (.tup (app l m)) x))) false) (λi=>xL x i λl=>Pz op l b x K) false
noncomputable def J7(x:XS)(a:V):Bool:=cD a (λh=>opt (x.ty h) (Wm 3) false) false
noncomputable def CQ(a b:V)(x:XS)(K:KV):Bool:=tf (J7 x a) (cD b (λj=>xL x j λl=>an (WD (len l) 4) (an (WD 4 x.c) (K a (x.pay 4)))) false)
 (iN a (λi=>fp b (λj=>K (.int (i+j)) x) false) (λ_=>false) (λ_=>false) (λi=>an (wok i) (xL x i λl=>cD b (λj=>xL x j λm=>an (ft (WW (len l) (len m))) (K (.ref i) (x.set i (.lst (app l m))))) false)) false)
noncomputable def BL(u:V)(l h:Option Nat)(x:XS)(K:KV):Bool:=iN u (λ_=>false) (λ_=>false) (λvs=>an (ft (len vs)) (K (.tup (cut vs l h)) x)) (λi=>xL x i λvs=>lF x (.lst (cut vs l h)) K) false
noncomputable def tZ(o:Option V)(k:Option Nat->Bool):Bool:=opt o (λv=>fp v (λz=>nat z (λn=>k (some n)) false) false) (k none)
noncomputable def zy(s:List Nat)(vs:List V)(x:XS)(K:KV):Bool:=l1 vs (λv=>jv v (λt=>l1 t (λc=>opt (uZ c s 0) (λk=>K (.int (Yj k)) x) false) false) false) false
noncomputable def qV(i:Nat)(v:V)(l:List V)(x:XS)(K:KV):Bool:=K v (x.set i (.lst l))
noncomputable def Pc{α:Type}(l:List α):List α->List α:=@WB α (λ_=>List α->List α) (λa=>a) (λx _ ih a=>ih (x::a)) l
noncomputable def rev{α:Type}(l:List α):List α:=Pc l []
noncomputable def vL(i:Nat)(l:List V)(n:List Nat)(vs:List V)(x:XS)(K:KV):Bool:=
 tf (bp n [97,112,112,101,110,100]) (l1 vs (λv=>an (ft (len l)) (qV i .none (app l [v]) x K)) false)
  (tf (bp n [101,120,116,101,110,100]) (l1 vs (λv=>cD v (λj=>xL x j λm=>an (ft (WW (len l) (len m))) (qV i .none (app l m) x K)) false) false)
   (l0 vs (tf (bp n [112,111,112]) (lc (rev l) false λv r=>qV i v (rev r) x K) (an (bp n [114,101,118,101,114,115,101]) (qV i .none (rev l) x K))) false))
noncomputable def OC(l:List Int):List V:=@WB Int (λ_=>List V) [] (λi _ ih=>.int i::ih) l
noncomputable def Rj(v:V)(x:XS)(K:KV):Bool:=iN v (λ_=>false) (λs=>an (ft (len s)) (K (.int (.ofNat (len s))) x)) (λl=>an (ft (len l)) (K (.int (.ofNat (len l))) x)) (λi=>xL x i λl=>K (.int (.ofNat (len l))) x) false
noncomputable def Pi(v:V)(x:XS)(K:KV):Bool:=cD v (λi=>xL x i λl=>opt (fH l) (λns=>lc ns false λa r=>K (.int (va a r)) x) false) false
noncomputable def On(v w:V)(x:XS)(K:KV):Bool:=fp v (λa=>fp w (λb=>K (.int (tf (decide (a<b)) b a)) x) false) false
noncomputable def Sz(vs:List V)(x:XS)(K:KV):Bool:=lc vs false λv r=>lc r (Pi v x K) λw r=>lc r (On v w x K) λ_ _=>false
noncomputable def Rv(v:V)(x:XS)(K:KV):Bool:=cD v (λi=>xL x i λl=>K (.tup l) x) false
noncomputable def QU(v:V)(x:XS)(K:KV):Bool:=ko v (λl=>an (ft (len l)) (lF x (.lst l) K)) false
noncomputable def Oe(v:V)(x:XS)(K:KV):Bool:=cD v (λi=>xO x i λo=>oO o (λ_=>false) (λ_ _=>false) (λes=>l0 es (lF x (.lst []) K) false) (λks=>an (Wo (len ks) 64) (lF x (.lst (OC (ib ks))) K)) (λ_=>false) (λ_=>false) false) false
noncomputable def RZ(v:V)(x:XS)(K:KV):Bool:=cD v (λi=>xL x i λl=>opt (fH l) (λns=>an (ns.all gU&&aU ns.length) (K (.int (kg 0 ns)) x)) false) false
noncomputable def R9(v:V)(x:XS)(K:KV):Bool:=Si v λn=>an (Wo n 64) (K (.str (pZ 10 n)) x)
noncomputable def Sb(b:BI)(vs:List V)(x:XS)(K:KV):Bool:=@BI.rec (λ_=>Bool) (l1 vs (λv=>Rj v x K) false) (Sz vs x K) (l1 vs (λv=>Rv v x K) false) (l1 vs (λv=>QU v x K) false) (l1 vs (λv=>Oe v x K) false) false false false (l1 vs (λv=>RZ v x K) false) (l1 vs (λv=>R9 v x K) false) b
noncomputable def U0(v:V)(x:XS)(K:KS):Bool:=Si v λn=>an (Wo n 100) (K (.vals (gF n [])) x)
noncomputable def Ur(v:V)(x:XS)(K:KS):Bool:=iN v (λ_=>false) (λ_=>false) (λl=>an (ft (len l)) (K (.vals (rev l)) x)) (λi=>xL x i λl=>K (.rlist i (len l)) x) false
noncomputable def UG(v w:V)(x:XS)(K:KS):Bool:=ko v (λl=>ko w (λm=>K (.vals (nR l m)) (x.add [.tmp])) false) false
noncomputable def re(b:BI)(vs:List V)(x:XS)(K:KS):Bool:=Sb b vs x λv x=>Dp v x K
noncomputable def OP(b:BI)(vs:List V)(x:XS)(K:KS):Bool:=@BI.rec (λ_=>Bool) (re b vs x K) (re b vs x K) (re b vs x K) (re b vs x K) (re b vs x K) (l1 vs (λv=>Ur v x K) false) (l1 vs (λv=>U0 v x K) false) (lc vs false λv r=>l1 r (λw=>UG v w x K) false) (re b vs x K) (re b vs x K) b
noncomputable def JA(o i v:V)(x:XS)(k:XS->Bool):Bool:=cD o (λd=>an (wok d) (xO x d λob=>oO ob (λ_=>false) (λ_ _=>false)
 (λes=>iN i (λz=>l0 es (rv v (λb=>an b (k (x.set d (.nd [z])))) false) false) (λn=>an (ft (len es)) (k (x.set d (.sd (bw es n v))))) (λ_=>false) (λ_=>false) false)
 (λks=>fp i (λz=>rv v (λb=>an b (an (ft (len ks)) (k (x.set d (.nd (tf (ks.contains z) ks (ks++[z]))))))) false) false) (λ_=>false) (λ_=>false) false)) false
noncomputable def Lg(d:Nat)(n:List Nat)(v:V)(x:XS)(k:XS->Bool):Bool:=xD x d λes=>an (ft (len es)) (an (wok d) (k (x.set d (.sd (bw es n v)))))
noncomputable def xStA(u:V)(n:List Nat)(v:V)(x:XS)(k:XS->Bool):Bool:=cD u (λi=>xO x i λo=>oO o (λ_=>false) (λ_ d=>Lg d n v x k) (λ_=>false) (λ_=>false) (λ_=>false)
 (λo=>opt o (λd=>Lg d n v x k) (an (wok i) (k ((x.add [.sd [(n,v)]]).set i (.exc (some x.n)))))) false) false
end
noncomputable section
structure Hk where
 f:Nat->Nat->List V->XS->KV->Option Bool
 b:Nat->Nat->Env->XS->KF->Option Bool
structure XL where
 m:Nat
 ev:E->Env->XS->KV->Bool
 evs:List E->Env->XS->KL->Bool
 evO:Option E->Env->XS->(Option V->XS->Bool)->Bool
 evAnd:List E->Env->XS->KV->Bool
 evOr:List E->Env->XS->KV->Bool
 evIt:E->Env->XS->KS->Bool
 tr:E->Env->XS->KB->Bool
 trAnd:List E->Env->XS->KB->Bool
 trOr:List E->Env->XS->KB->Bool
 comp:E->P->bA->List E->Env->XS->List V->KL->Bool
 callF:Nat->List V->XS->KV->Bool
 mb:Nat->Env->XS->KF->Bool
 ex:S->Env->XS->KF->Bool
 store:T->V->Env->XS->KF->Bool
 exB:List S->Env->XS->KF->Bool
 loopF:P->bA->List S->Env->XS->KF->Bool
 loopW:E->List S->Env->XS->KF->Bool
noncomputable def qb(n:Nat)(f:Nat->Bool):Bool:=@XI (λ_=>Bool) true (λn ih=>an (f n) ih) n
noncomputable def uI(k:Nat):Nat:=tf (Wm k 2) 11 (tf (Wm k 4) 12 (tf (Wm k 8) 13 (tf (Wm k 16) 14 (tf (Wm k 32) 15 0))))
noncomputable def Qi(e:E):Bool:=@E.casesOn (λ_=>Bool) e false (λ_=>false) (λ_=>false) (λ_=>false) (λ_=>false) (λ_ _=>false) (λop _ _=>@Op.rec (λ_=>Bool) false false false false false true false false false false false op) (λ_=>false) (λ_=>false) (λ_=>false) (λ_=>false) (λ_ _ _=>false) (λ_ _ _=>false) (λ_ _=>false) (λ_ _=>false) (λ_ _ _=>false) (λ_ _=>false) (λ_ _=>false) (λ_ _ _=>false) (λ_ _=>false) (λ_ _=>false) (λ_ _ _ _=>false)
noncomputable def wW(o:Op):Bool:=@Op.rec (λ_=>Bool) false false false false true false false false false false false o
noncomputable def Q8{α:Type}(e:E)(k:Nat->List E->α)(d:α):α:=@E.casesOn (λ_=>α) e d (λ_=>d) (λ_=>d) (λ_=>d) (λ_=>d) (λ_ _=>d) (λ_ _ _=>d) (λ_=>d) (λ_=>d) (λ_=>d) (λ_=>d) (λ_ _ _=>d) (λ_ _ _=>d) (λ_ _=>d) (λ_ _=>d) (λ_ _ _=>d) k (λ_ _=>d) (λ_ _ _=>d) (λ_ _=>d) (λ_ _=>d) (λ_ _ _ _=>d)
noncomputable def RM{α:Type}(e:E)(k:Nat->α)(d:α):α:=@E.casesOn (λ_=>α) e d (λ_=>d) k (λ_=>d) (λ_=>d) (λ_ _=>d) (λ_ _ _=>d) (λ_=>d) (λ_=>d) (λ_=>d) (λ_=>d) (λ_ _ _=>d) (λ_ _ _=>d) (λ_ _=>d) (λ_ _=>d) (λ_ _ _=>d) (λ_ _=>d) (λ_ _=>d) (λ_ _ _=>d) (λ_ _=>d) (λ_ _=>d) (λ_ _ _ _=>d)
noncomputable def HS{α:Type}(op:Op)(a:E)(k:Nat->α)(d:α):α:=Q8 a (λf es=>tf (an (wW op) (Wm f 89)) (l1 es (λy=>RM y k d) d) d) d
noncomputable def FP(pw:Bool)(k:Nat)(x:XS)(K:KV):Bool:=tf pw (an (Wo 0 (uI k)) (K (.ref x.n) (x.push (uI k) 6 0))) (an (WD 1 k) (qb k λj=>K (.int (.ofNat j)) x))
noncomputable def qf(q:F × Env)(x:XS)(K:KF)(k:Env->Bool):Bool:=vd q.1 (k q.2) (K (.next,q.2) x) (k q.2) λv=>K (.ret v,q.2) x
noncomputable def Bj(q:F × Env)(x:XS)(K:KF)(k:Env->Bool):Bool:=vd q.1 (k q.2) (K q x) (K q x) λ_=>K q x
noncomputable def xJ(q:F × Env)(x:XS)(K:KV):Bool:=vd q.1 (K .none x) false false λv=>K v x
structure Bx(α:Type) where
 go:α
section
variable(Γ:bU)(hk:Hk)(ke:List Nat->Bool)(f:XL)
noncomputable def Py(c:Nat)(vs:List V)(x:XS)(K:KV):Bool:=tf (Wm c 2) false (opt (nv Γ.cls c) (λk=>f.callF k.init (.ref (WU x.n)::vs) (x.add [.sd [],.inst c x.n]) λr x'=>an (iM r) (K (.ref (WU x.n)) x')) false)
noncomputable def Ii(i:Nat)(m:List Nat)(es:List E)(ρ:Env)(x:XS)(K:KV)(o:O):Bool:=oO o (λ_=>an (AK m) (f.evs es ρ x λvs x=>xL x i λl=>an (wok i) (vL i l m vs x K)))
 (λc d=>opt (nv Γ.cls c) (λk=>opt (EC k.meths m) (λg=>xD x d λats=>tf (is (ax ats m)) false (f.evs es ρ x λvs x=>f.callF g (.ref i::vs) x K)) false) false) (λ_=>false) (λ_=>false) (λ_=>false) (λ_=>false) false
noncomputable def FA(u:V)(m:List Nat)(es:List E)(ρ:Env)(x:XS)(K:KV):Bool:=iN u (λ_=>false) (λs=>an (bp s [97,98,99,100]&&bp m [105,110,100,101,120]) (f.evs es ρ x λvs x=>zy s vs x K)) (λ_=>false) (λi=>xO x i (Ii Γ f i m es ρ x K)) false
noncomputable abbrev KE:=XL->Env->XS->KV->Bool
noncomputable def e0:KE:=λ_ _ _ _=>false
noncomputable def eC(v:V):KE:=λ_ _ x K=>an (sj v) (K v x)
noncomputable def eL(y:Nat):KE:=λ_ ρ x K=>opt (aa ρ y) (λv=>K v x) false
noncomputable def eT(es:List E):KE:=λf ρ x K=>f.evs es ρ x λvs x=>K (.tup vs) x
noncomputable def U8(es:List E):KE:=λf ρ x K=>f.evs es ρ x λvs x=>lF x (.lst vs) K
noncomputable def eD(ks:List (List Nat))(es:List E):KE:=λf ρ x K=>f.evs es ρ x λvs x=>lF x (.sd (nD ks vs [])) K
noncomputable def SH(b:E)(f:XL)(ρ:Env)(x:XS)(K:KV)(y:Nat):Bool:=opt (aa ρ y) (λw=>cD w (λr=>opt (x.ty r) (λt=>an (Wm t 0) (an (WD 40 f.m) (f.ev b ρ x λv x=>Si v λk=>FP (Qi b) k x K))) false) false) false
noncomputable def eB(op:Op)(a b:E):Bx KE:=tf (wW op) ⟨λf ρ x K=>HS op a (SH b f ρ x K) (f.ev a ρ x λu x=>f.ev b ρ x λv x=>yd op u v x K)⟩ ⟨λf ρ x K=>f.ev a ρ x λu x=>f.ev b ρ x λv x=>yd op u v x K⟩
noncomputable def W2(a:E):KE:=λf ρ x K=>f.ev a ρ x λu x=>fp u (λi=>K (.int (-i)) x) false
noncomputable def eN(a:E):KE:=λf ρ x K=>f.ev a ρ x λu x=>jI u x λb x=>K (.bool (!b)) x
noncomputable def eA(es:List E):KE:=λf ρ x K=>f.evAnd es ρ x K
noncomputable def eO(es:List E):KE:=λf ρ x K=>f.evOr es ρ x K
noncomputable def Uf(op:Cm)(a b:E):KE:=λf ρ x K=>f.ev a ρ x λu x=>f.ev b ρ x λv x=>Pn op u v x λq x=>K (.bool q) x
noncomputable def eI(t a b:E):KE:=λf ρ x K=>f.tr t ρ x λq x=>tf q (f.ev a ρ x K) (f.ev b ρ x K)
noncomputable def VW(o:E)(m:List Nat):KE:=λf ρ x K=>f.ev o ρ x λu x=>FW u m x K
noncomputable def Us(a b:E):KE:=λf ρ x K=>f.ev a ρ x λu x=>f.ev b ρ x λv x=>AJ u v x K
noncomputable def UY(a:E)(lo hi:Option E):KE:=λf ρ x K=>f.ev a ρ x λu x=>f.evO lo ρ x λl x=>f.evO hi ρ x λh x=>tZ l λl=>tZ h λh=>BL u l h x K
noncomputable def Uj(g:Nat)(es:List E):KE:=λf ρ x K=>f.evs es ρ x λvs x=>f.callF g vs x K
noncomputable def W3(c:Nat)(es:List E):KE:=λf ρ x K=>f.evs es ρ x λvs x=>Py Γ f c vs x K
noncomputable def eM(o:E)(m:List Nat)(es:List E):KE:=λf ρ x K=>f.ev o ρ x λu x=>FA Γ f u m es ρ x K
noncomputable def W6(b:BI)(es:List E):KE:=λf ρ x K=>f.evs es ρ x λvs x=>Sb b vs x K
noncomputable def W5(k:Kd)(a:E):KE:=λf ρ x K=>f.ev a ρ x λu x=>cD u (λ_=>false) (K (.bool (E8 k u)) x)
noncomputable def Vh(elt:E)(p:P)(it:E)(ifs:List E):KE:=λf ρ x K=>f.evIt it ρ x λsrc x=>f.comp elt p src ifs ρ x [] λvs x=>lF x (.lst vs) K
noncomputable def V5(e:E):Bx KE:=@E.casesOn (λ_=>Bx KE) e ⟨e0⟩ (λa=>⟨eC a⟩) (λa=>⟨eL a⟩) (λa=>⟨eT a⟩) (λa=>⟨U8 a⟩) (λa b=>⟨eD a b⟩) (λa b c=>eB a b c) (λa=>⟨W2 a⟩) (λa=>⟨eN a⟩) (λa=>⟨eA a⟩) (λa=>⟨eO a⟩) (λa b c=>⟨Uf a b c⟩) (λa b c=>⟨eI a b c⟩) (λa b=>⟨VW a b⟩) (λa b=>⟨Us a b⟩) (λa b c=>⟨UY a b c⟩) (λa b=>⟨Uj a b⟩) (λa b=>⟨W3 Γ a b⟩) (λa b c=>⟨eM Γ a b c⟩) (λa b=>⟨W6 a b⟩) (λa b=>⟨W5 a b⟩) (λa b c d=>⟨Vh a b c d⟩)
noncomputable def Tb(e:E)(ρ:Env)(x:XS)(K:KV):Bool:=(V5 Γ e).go f ρ x K
noncomputable def P6(elt:E)(p:P)(src:bA)(ifs:List E)(ρ:Env)(x:XS)(acc:List V)(K:KL):Bool:=rF src x (K acc x) λv src'=>opt (aL p v ρ) (λρ'=>f.trAnd ifs ρ' x λq x=>
 tf q (f.ev elt ρ' x λy x=>an (ft (len acc)) (f.comp elt p src' ifs ρ x (app acc [y]) K)) (f.comp elt p src' ifs ρ x acc K)) false
noncomputable def Qv(o:Option Bool)(b:Bool):Bool:=opt o (λb=>b) b
noncomputable def PS(g:Nat)(vs:List V)(x:XS)(K:KV):Bool:=Qv (hk.f f.m g vs x K) (opt (nv Γ.fns g) (λd=>opt (bindArgs d.params d.dflts vs) (λρ=>f.exB d.body ρ x λq x=>xJ q x K) false) false)
noncomputable def Vq(i:Nat)(ρ:Env)(x:XS)(K:KF):Bool:=Qv (hk.b f.m i ρ x K) (opt (nv Γ.mks i) (λb=>f.exB b ρ x K) false)
noncomputable def wk(n:Nat)(r:V)(x:XS):Bool:=an (iM r) (xO x n λo=>oX o (λo=>opt o (λd=>an (WD n d) (xD x d λes=>opt (ax es [107,105,110,100]) (λv=>jv v ke false) false)) false) false)
noncomputable def M3(es:List E)(ρ:Env)(x:XS):Bool:=f.evs es ρ x λvs x=>opt (nv Γ.cls 2) (λk=>f.callF k.init (.ref x.n::vs) (x.add [.exc none]) λr x'=>wk ke x.n r x') false
noncomputable abbrev KT:=XL->Env->XS->KF->Bool
noncomputable def s0:KT:=λ_ _ _ _=>false
noncomputable def sP(q:F):KT:=λ_ ρ x K=>K (q,ρ) x
noncomputable def sE(e:E):KT:=λf ρ x K=>f.ev e ρ x λ_ x=>K (.next,ρ) x
noncomputable def Vm(t:T)(e:E):KT:=λf ρ x K=>f.ev e ρ x λv x=>f.store t v ρ x K
noncomputable def UB(y:Nat)(e:E):KT:=λf ρ x K=>opt (aa ρ y) (λa=>f.ev e ρ x λb x=>CQ a b x λv x=>K (.next,ag ρ y v) x) false
noncomputable def UM(o i e:E):KT:=λf ρ x K=>f.ev o ρ x λov x=>f.ev i ρ x λiv x=>AJ ov iv x λa x=>f.ev e ρ x λb x=>CQ a b x λv x=>JA ov iv v x λx=>K (.next,ρ) x
noncomputable def sI(t:E)(a b:List S):KT:=λf ρ x K=>f.tr t ρ x λq x=>tf q (f.exB a ρ x K) (f.exB b ρ x K)
noncomputable def sF(p:P)(it:E)(b:List S):KT:=λf ρ x K=>f.evIt it ρ x λsrc x=>f.loopF p src b ρ x K
noncomputable def sW(t:E)(b:List S):KT:=λf ρ x K=>f.loopW t b ρ x K
noncomputable def sR(e:Option E):KT:=λf ρ x K=>opt e (λe=>f.ev e ρ x λv x=>K (.ret v,ρ) x) (K (.ret .none,ρ) x)
noncomputable def UE(es:List E):KT:=λf ρ x _=>M3 Γ ke f es ρ x
noncomputable def sM(i:Nat):KT:=λf ρ x K=>f.mb i ρ x K
noncomputable def Ua(s:S):Bx KT:=@S.casesOn (λ_=>Bx KT) s ⟨s0⟩ ⟨sP .next⟩ ⟨sP .cont⟩ ⟨sP .brk⟩ (λa=>⟨sE a⟩) (λa b=>⟨Vm a b⟩) (λa b=>⟨UB a b⟩) (λa b c=>⟨UM a b c⟩) (λa b c=>⟨sI a b c⟩) (λa b c=>⟨sF a b c⟩) (λa b=>⟨sW a b⟩) (λa=>⟨sR a⟩) (λa=>⟨UE Γ ke a⟩) (λ_ _ _=>⟨s0⟩) (λa=>⟨sM a⟩)
noncomputable def SX(s:S)(ρ:Env)(x:XS)(K:KF):Bool:=(Ua Γ ke s).go f ρ x K
noncomputable def ME(t:T)(v:V)(ρ:Env)(x:XS)(K:KF):Bool:=@T.casesOn (λ_=>Bool) t (λp=>opt (aL p v ρ) (λρ'=>K (.next,ρ') x) false) (λo m=>f.ev o ρ x λu x=>xStA u m v x λx=>K (.next,ρ) x)
 (λo i=>f.ev o ρ x λov x=>f.ev i ρ x λiv x=>JA ov iv v x λx=>K (.next,ρ) x)
noncomputable def R5(p:P)(src:bA)(b:List S)(ρ:Env)(x:XS)(K:KF):Bool:=rF src x (K (.next,ρ) x) λv src'=>opt (aL p v ρ) (λρ'=>f.exB b ρ' x λq x=>qf q x K λρ=>f.loopF p src' b ρ x K) false
noncomputable def Ug(e:E):Bx (XL->Env->XS->KS->Bool):=Su e (λb es=>⟨λf ρ x K=>f.evs es ρ x λvs x=>OP b vs x K⟩) ⟨λf ρ x K=>f.ev e ρ x λv x=>Dp v x K⟩
noncomputable def VD(e:E):Bx (XL->Env->XS->KB->Bool):=TL e (λa=>⟨λf ρ x K=>f.tr a ρ x λq x=>K (!q) x⟩) (λes=>⟨λf ρ x K=>f.trAnd es ρ x K⟩) (λes=>⟨λf ρ x K=>f.trOr es ρ x K⟩) (λt a b=>⟨λf ρ x K=>f.tr t ρ x λq x=>tf q (f.tr a ρ x K) (f.tr b ρ x K)⟩) ⟨λf ρ x K=>f.ev e ρ x λv x=>jI v x K⟩
noncomputable def sX:XL where
 m:=WU f.m
 ev:=Tb Γ f
 evs es ρ x K:=lc es (K [] x) λe r=>f.ev e ρ x λv x=>f.evs r ρ x λvs x=>K (v::vs) x
 evO e ρ x K:=opt e (λe=>f.ev e ρ x λv x=>K (some v) x) (K none x)
 evAnd es ρ x K:=lc es false λe r=>lc r (f.ev e ρ x K) λ_ _=>f.ev e ρ x λv x=>jI v x λq x=>tf q (f.evAnd r ρ x K) (K v x)
 evOr es ρ x K:=lc es false λe r=>lc r (f.ev e ρ x K) λ_ _=>f.ev e ρ x λv x=>jI v x λq x=>tf q (K v x) (f.evOr r ρ x K)
 evIt e ρ x K:=(Ug e).go f ρ x K
 tr e ρ x K:=(VD e).go f ρ x K
 trAnd es ρ x K:=lc es (K true x) λe r=>f.tr e ρ x λq x=>tf q (f.trAnd r ρ x K) (K false x)
 trOr es ρ x K:=lc es (K false x) λe r=>f.tr e ρ x λq x=>tf q (K true x) (f.trOr r ρ x K)
 comp:=P6 f
 callF:=PS Γ hk f
 mb:=Vq Γ hk f
 ex:=SX Γ ke f
 store:=ME f
 exB ss ρ x K:=lc ss (K (.next,ρ) x) λs r=>f.ex s ρ x λq x=>Bj q x K λρ=>f.exB r ρ x K
 loopF:=R5 f
 loopW t b ρ x K:=f.tr t ρ x λq x=>tf q (f.exB b ρ x λq x=>qf q x K λρ=>f.loopW t b ρ x K) (K (.next,ρ) x)
noncomputable def xl(n:Nat):XL:=@XI (λ_=>XL) ⟨0,λ_ _ _ _=>false,λ_ _ _ _=>false,λ_ _ _ _=>false,λ_ _ _ _=>false,λ_ _ _ _=>false,λ_ _ _ _=>false,λ_ _ _ _=>false,λ_ _ _ _=>false,λ_ _ _ _=>false,λ_ _ _ _ _ _ _ _=>false,λ_ _ _ _=>false,
 λ_ _ _ _=>false,λ_ _ _ _=>false,λ_ _ _ _ _=>false,λ_ _ _ _=>false,λ_ _ _ _ _ _=>false,λ_ _ _ _ _=>false⟩ (λ_ f=>sX Γ hk ke f) n
end
noncomputable def ΓP:bU:=⟨bG,jl,Fn⟩
end
theorem fnt{P:Prop}(h:false=true):P:=absurd h Ww
theorem aT{a b:Bool}(h:an a b=true):a=true/\b=true:=by cases a<;>first|exact⟨rfl,h⟩|exact fnt h
theorem y6{a b:Bool}(h: (a&&b)=true):a=true/\b=true:=by cases a<;>first|exact⟨rfl,h⟩|exact fnt h
theorem QK{a:Bool}(h:no a=true):a=false:=by cases a<;>first|rfl|exact fnt h
theorem yx{a b:Bool}(h:or a b=true):a=true\/b=true:=by cases a<;>first|exact .inl rfl|exact .inr h
theorem wi{α:Type}{o:Option α}(h:is o=true){P:Prop}(k:∀a,o=some a->P):P:=a8 h aV λa e _=>k a e
theorem gw{f:Nat->Bool}{n:Nat}:qb n f=true->∀j,j<n->f j=true:=by
 induction n with
 |zero=>exact λ_ j l=>absurd l (Nat.not_lt_zero j)
 |succ n ih=>exact λh j l=>(Nat.lt_succ_iff_lt_or_eq.mp l).elim (λl=>ih (aT (a:=f n) h).2 j l) λe=>e▸(aT (a:=f n) h).1
section
variable{α:Type}
theorem aQ{l:List α}:len l=l.length:=by
 induction l with
 |nil=>rfl
 |cons a r ih=>exact congrArg WU ih
theorem c5{l m:List α}:app l m=l++m:=by
 induction l with
 |nil=>rfl
 |cons a r ih=>exact congrArg (a:: ·) ih
theorem cA{l:List α}:∀{i:Nat},nv l i=l[i]?:=by
 induction l with
 |nil=>exact rfl
 |cons a r ih=>intro i;cases i with |zero=>rfl|succ i=>exact ih
theorem LS{l:List α}:emp l=l.isEmpty:=by cases l<;>rfl
theorem gS{l:List α}(h:emp l=true):l=[]:=by cases l<;>first|rfl|exact fnt h
theorem jG{v:α}{n:Nat}:rep v n=Xk n v:=by
 induction n with
 |zero=>rfl
 |succ n ih=>exact congrArg (v:: ·) ih
theorem Di{l:List α}:∀{a:List α},Pc l a=l.reverse++a:=by
 induction l with
 |nil=>exact rfl
 |cons x r ih=>intro a;rw[YO,Xb];exact ih
theorem qg{l:List α}:rev l=l.reverse:=Di.trans (Xh _)
theorem cY{n m:Nat}(e:n=m)(h:ft n=true):aU m=true:=decide_eq_true (e▸Wl h)
end
theorem bK{σ:St}{i:Nat}{o:O}(h:a6 σ i=some o):i<σ.length:=(Wv.mp ((aj σ i).symm.trans h)).1
theorem dv{σ τ:St}{i:Nat}(h:i<σ.length):a6 (σ++τ) i=a6 σ i:=(aj _ i).trans ((WE h).trans (aj σ i).symm)
theorem stGet_app{σ τ:St}{i:Nat}{o:O}(h:a6 σ i=some o):a6 (σ++τ) i=some o:=(dv (bK h)).trans h
theorem jZ{σ τ:St}{i:Nat}:a6 (σ++τ) (σ.length+i)=a6 τ i:=by
 rw[aj,aj,WQ (WC _ _),WH]
theorem im{σ τ:St}{p:O}{i:Nat}{P:Prop}(h:a6 (σ++τ) i=some p)(f:a6 σ i=some p->P)(g:∀j,i=σ.length+j->a6 τ j=some p->P):P:=
 (Xl i σ.length).elim (λl=>f ((dv l).symm.trans h)) λl=>(WM l).elim λj e=>g j e (jZ.symm.trans (e▸h))
theorem dK{σ:St}{i:Nat}{o p:O}(h:a6 σ i=some p):a6 (az σ i o) i=some o:=by
 rw[aj,cC,List.getElem?_set_self (bK h)]
theorem aX{σ:St}{i k:Nat}{o:O}(h:i≠k):a6 (az σ i o) k=a6 σ k:=by
 rw[aj,cC,ZC h,<-aj]
theorem ba{σ:St}{i:Nat}{o:O}: (az σ i o).length=σ.length:=by rw[cC,List.length_set]
noncomputable abbrev nz:=Nat->V->Prop
noncomputable def VR(R:nz)(v:V):V->Prop:=@V.rec (λ_=>V->Prop) (λ_=>List V->Prop) (· =.none) (λb=>(· =.bool b)) (λi=>(· =.int i)) (λs=>(· =.str s)) (λ_ ih u=>∃l',u=.tup l'/\ih l') R
 (· =[]) (λ_ _ f g m=>∃u m',m=u::m'/\f u/\g m') v
noncomputable def aK(R:nz)(l:List V):List V->Prop:=@V.rec_1 (λ_=>V->Prop) (λ_=>List V->Prop) (· =.none) (λb=>(· =.bool b)) (λi=>(· =.int i)) (λs=>(· =.str s)) (λ_ ih u=>∃l',u=.tup l'/\ih l') R
 (· =[]) (λ_ _ f g m=>∃u m',m=u::m'/\f u/\g m') l
noncomputable def SDR(R:nz)(l:List (List Nat × V)):List (List Nat × V)->Prop:=@WB (List Nat × V) (λ_=>List (List Nat × V)->Prop) (· =[]) (λp _ g m=>∃u m',m=(p.1,u)::m'/\VR R p.2 u/\g m') l
noncomputable def UW(R:nz)(d:Option Nat)(o:O):Prop:=@Option.rec Nat (λ_=>Prop) (o=.exc none) (λd=>∃d',o=.exc (some d')/\R d (.ref d')) d
noncomputable def OR(R:nz)(o:O)(u:O):Prop:=@O.rec (λ_=>Prop) (λl=>∃l',u=.lst l'/\aK R l l') (λc d=>∃d',u=.inst c d'/\R d (.ref d')) (λes=>∃es',u=.sd es'/\SDR R es es') (λks=>u=.nd ks) (λ_=>False) (λd=>UW R d u) True o
noncomputable def ER(R:nz)(ρ ρ':Env):Prop:=∀n a,aa ρ n=some a->∃b,aa ρ' n=some b/\VR R a b
noncomputable abbrev pt(φ:List V):nz:=λi u=>φ[i]?=some u
noncomputable abbrev VS(φ:List V):V->V->Prop:=VR (pt φ)
noncomputable abbrev dS(φ:List V):List V->List V->Prop:=aK (pt φ)
noncomputable abbrev OS(φ:List V):O->O->Prop:=OR (pt φ)
noncomputable abbrev ES(φ:List V):Env->Env->Prop:=ER (pt φ)
noncomputable def tE(R S:nz):Prop:=∀i u,R i u->S i u
noncomputable abbrev Le(φ ψ:List V):Prop:=tE (pt φ) (pt ψ)
theorem tE.refl(R:nz):tE R R:=λ_ _ h=>h
theorem tE.trans{R S T:nz}(a:tE R S)(b:tE S T):tE R T:=λi u h=>b i u (a i u h)
theorem Le.app(φ ψ:List V):Le φ (φ++ψ):=λ_ _ h=>(WE (Wv.mp h).1).trans h
theorem V.ind{p:V->Prop}{q:List V->Prop}(n:p .none)(b:∀x,p (.bool x))(i:∀x,p (.int x))(s:∀x,p (.str x))(t:∀l,q l->p (.tup l))(r:∀x,p (.ref x))(nil:q [])(cons:∀v l,p v->q l->q (v::l)): (∀v,p v)/\∀l,q l:=
 ⟨λv=>@V.rec p q n b i s t r nil cons v,λl=>@V.rec_1 p q n b i s t r nil cons l⟩
section
variable{R S:nz}
theorem aK.nil{m:List V}(h:aK R [] m):m=[]:=h
@[elab_as_elim] theorem aK.inv{a:V}{l m:List V}{P:List V->Prop}(h:aK R (a::l) m)(k:∀u m',VR R a u->aK R l m'->P (u::m')):P m:=by
 obtain⟨u,m',e,p,q⟩:=h
 exact e▸k u m' p q
theorem aK.cons{v u:V}{l m:List V}(h:VR R v u)(k:aK R l m):aK R (v::l) (u::m):=⟨u,m,rfl,h,k⟩
theorem aK.one{v u:V}(h:VR R v u):aK R [v] [u]:=aK.cons h rfl
@[elab_as_elim] theorem VR.tup{l:List V}{u:V}{P:V->Prop}(h:VR R (.tup l) u)(k:∀l',aK R l l'->P (.tup l')):P u:=WS h λl' z=>z.1▸k l' z.2
theorem VR.mkT{l m:List V}(h:aK R l m):VR R (.tup l) (.tup m):=⟨m,rfl,h⟩
theorem G8(l:tE R S): (∀v u,VR R v u->VR S v u)/\∀v u,aK R v u->aK S v u:=
 V.ind (λ_=>id) (λ_ _=>id) (λ_ _=>id) (λ_ _=>id) (λ_ ih _ h=>h.tup λ_ h=>.mkT (ih _ h)) (λi u=>l i u) (λ_=>id) λ_ _ f g _ h=>h.inv λ_ _ a b=>.cons (f _ a) (g _ b)
theorem VR.up(l:tE R S){v u:V}(h:VR R v u):VR S v u:=(G8 l).1 v u h
theorem aK.up(l:tE R S){v u:List V}(h:aK R v u):aK S v u:=(G8 l).2 v u h
@[elab_as_elim] theorem SDR.inv{a:List Nat × V}{l m:List (List Nat × V)}{P:List (List Nat × V)->Prop}(h:SDR R (a::l) m)(k:∀u m',VR R a.2 u->SDR R l m'->P ((a.1,u)::m')):P m:=by
 obtain⟨u,m',e,p,q⟩:=h
 exact e▸k u m' p q
theorem SDR.cons{n:List Nat}{v u:V}{l m:List (List Nat × V)}(h:VR R v u)(k:SDR R l m):SDR R ((n,v)::l) ((n,u)::m):=⟨u,m,rfl,h,k⟩
theorem SDR.up(l:tE R S){v:List (List Nat × V)}:∀{u:List (List Nat × V)},SDR R v u->SDR S v u:=by
 induction v with
 |nil=>exact id
 |cons a r ih=>exact λh=>h.inv λ_ _ a b=>.cons (a.up l) (ih b)
theorem ER.up(l:tE R S){v u:Env}(h:ER R v u):ER S v u:=λn a e=>(h n a e).imp λ_ k=>⟨k.1,k.2.up l⟩
theorem OR.up(l:tE R S){v u:O}(h:OR R v u):OR S v u:=by
 cases v with
 |lst _=>exact Xq (λ_ z=>⟨z.1,z.2.up l⟩) h
 |inst _ _=>exact Xq (λ_ z=>⟨z.1,l _ _ z.2⟩) h
 |sd _=>exact Xq (λ_ z=>⟨z.1,SDR.up l z.2⟩) h
 |exc d=>cases d with
  |none=>exact h
  |some d=>exact Xq (λ_ z=>⟨z.1,l _ _ z.2⟩) h
 |_=>exact h
noncomputable def DB(R:nz):Prop:=∀i u w,R i u->R i w->u=w
theorem LJ(φ:List V):DB (pt φ):=λ_ _ _ a b=>Wn (a.symm.trans b)
theorem pV(D:DB R): (∀v u w,VR R v u->VR R v w->u=w)/\∀v u w,aK R v u->aK R v w->u=w:=
 V.ind (λ_ _ a b=>Eq.trans a (Eq.symm b)) (λ_ _ _ a b=>Eq.trans a (Eq.symm b)) (λ_ _ _ a b=>Eq.trans a (Eq.symm b)) (λ_ _ _ a b=>Eq.trans a (Eq.symm b)) (λ_ ih _ _ a b=>a.tup λ_ a=>b.tup λ_ b=>congrArg V.tup (ih _ _ a b)) (λi u w=>D i u w) (λ_ _ a b=>Eq.trans a (Eq.symm b))
  λ_ _ f g _ _ a b=>a.inv λ_ _ a1 a2=>b.inv λ_ _ b1 b2=>congr (congrArg Zi (f _ _ a1 b1)) (g _ _ a2 b2)
theorem VS.det{φ:List V}{v u w:V}(a:VS φ v u)(b:VS φ v w):u=w:=(pV (LJ φ)).1 v u w a b
theorem aK.len{v:List V}:∀{u:List V},aK R v u->u.length=v.length:=by
 induction v with
 |nil=>exact λh=>congrArg a0i h
 |cons a r ih=>exact λh=>h.inv λ_ _ _ b=>congrArg WU (ih b)
theorem aK.ln{v u:List V}(h:aK R v u):Mx.len v=u.length:=aQ.trans h.len.symm
theorem aK.get{v:List V}:∀{u:List V} {i:Nat} {a:V} {P:Prop},aK R v u->v[i]?=some a->(∀b,u[i]?=some b->VR R a b->P)->P:=by
 induction v with
 |nil=>exact λ_ e=>absurd e.symm ad
 |cons x r ih=>
  intro u i a P h e k
  revert k
  refine h.inv λw m p q k=>?_
  cases i with
  |zero=>exact k w rfl (Wn e▸p)
  |succ i=>exact ih (i:=i) q e k
theorem aK.get_none{v u:List V}{i:Nat}(h:aK R v u)(e:v[i]?=none):u[i]?=none:=Yn.mpr (h.len▸Yn.mp e)
theorem aK.app{v w x:List V}:∀{u:List V},aK R v u->aK R w x->aK R (v++w) (u++x):=by
 induction v with
 |nil=>exact λh k=>by cases h.nil;exact k
 |cons a r ih=>exact λh k=>h.inv λ_ _ p q=>.cons p (ih q k)
theorem aK.ap{v w x u:List V}(h:aK R v u)(k:aK R w x):aK R (Mx.app v w) (u++x):=by rw[c5];exact h.app k
@[elab_as_elim] theorem aK.one_inv{v:V}{m:List V}{P:List V->Prop}(h:aK R [v] m)(k:∀u,VR R v u->P [u]):P m:=h.inv λu m a b=>b.nil▸k u a
@[elab_as_elim] theorem aK.two_inv{v w:V}{m:List V}{P:List V->Prop}(h:aK R [v,w] m)(k:∀u z,VR R v u->VR R w z->P [u,z]):P m:=h.inv λu m a b=>b.one_inv λz c=>k u z a c
theorem aK.rev{v:List V}:∀{u:List V},aK R v u->aK R v.reverse u.reverse:=by
 induction v with
 |nil=>exact λh=>by cases h.nil;exact rfl
 |cons a r ih=>
  refine λh=>h.inv λ_ _ p q=>?_
  rw[YO,YO]
  exact(ih q).app (.one p)
theorem aK.take{v:List V}:∀{u:List V} {k:Nat},aK R v u->aK R (v.take k) (u.take k):=by
 induction v with
 |nil=>exact λh=>by rw[h.nil,List.take_nil];exact rfl
 |cons a r ih=>exact λ{u k} h=>h.inv λ_ _ p q=>by cases k with |zero=>exact rfl|succ k=>exact .cons p (ih q)
theorem aK.drop{v:List V}:∀{u:List V} {k:Nat},aK R v u->aK R (v.drop k) (u.drop k):=by
 induction v with
 |nil=>exact λh=>by rw[h.nil,List.drop_nil];exact rfl
 |cons a r ih=>exact λ{u k} h=>by cases k with |zero=>exact h|succ k=>exact h.inv λ_ _ p q=>ih q
theorem aK.cut{v u:List V}(l h:Option Nat)(k:aK R v u):aK R (cut v l h) (cut u l h):=by
 cases h<;>cases l<;>first|exact k|exact k.take|exact k.drop|exact k.take.drop
theorem aK.rep{v u:V}(h:VR R v u){n:Nat}:aK R (Mx.rep v n) (Xk n u):=by
 induction n with
 |zero=>exact rfl
 |succ n ih=>exact .cons h ih
theorem aK.ints{v:List V}:∀{u:List V} {ns:List Int},aK R v u->fH v=some ns->fH u=some ns:=by
 induction v with
 |nil=>exact λh e=>by cases h.nil;exact e
 |cons a r ih=>
  intro u ns h e
  refine aR (v:=a) (k:=λi=>opt (fH r) (λr=>some (i::r)) none) e ad λi ea e1=>a8 e1 ad λms em e2=>h.inv λw m p q=>?_
  subst ea
  cases p
  show opt (fH m) (λr=>some (i::r)) none=_
  rw[ih q em]
  exact e2
theorem aK.of_ints{ns:List Int}:aK R (OC ns) (ns.map .int):=by
 induction ns with
 |nil=>exact rfl
 |cons n r ih=>exact .cons (v:= .int n) rfl ih
theorem aK.emp{l l':List V}(h:aK R l l'):no (Mx.emp l)= !l'.isEmpty:=by
 cases l with
 |nil=>rw[h.nil];rfl
 |cons a r=>exact h.inv λ_ _ _ _=>rfl
theorem aK.zip{a:List V}:∀{a' b b':List V},aK R a a'->aK R b b'->aK R (nR a b) (nR a' b'):=by
 induction a with
 |nil=>exact λh _=>by cases h.nil;exact rfl
 |cons x r ih=>
  intro a' b b' h k
  cases b with
  |nil=>rw[k.nil];exact h.inv λ_ _ _ _=>rfl
  |cons y s=>exact h.inv λ_ _ p q=>k.inv λ_ _ p' q'=>.cons (.mkT (.cons p (.one p'))) (ih q q')
theorem SDR.get{n:List Nat}{v:List (List Nat × V)}:∀{u:List (List Nat × V)},SDR R v u->(∀a,ax v n=some a->∃b,ax u n=some b/\VR R a b)/\(ax v n=none->ax u n=none):=by
 induction v with
 |nil=>exact λh=>by cases h;exact⟨λ_ e=>absurd e.symm ad,id⟩
 |cons p r ih=>
  refine λh=>h.inv λw m a b=>?_
  show(∀a,tf (bp p.1 n) (some p.2) (ax r n)=some a->∃b,tf (bp p.1 n) (some w) (ax m n)=some b/\VR R a b)/\(tf (bp p.1 n) (some p.2) (ax r n)=none->tf (bp p.1 n) (some w) (ax m n)=none)
  cases bp p.1 n with
  |true=>exact⟨λ_ e=>⟨w,rfl,Wn e▸a⟩,λe=>absurd e ad⟩
  |false=>exact ih b
theorem SDR.set{n:List Nat}{a b:V}(k:VR R a b){v:List (List Nat × V)}:∀{u:List (List Nat × V)},SDR R v u->SDR R (bw v n a) (bw u n b):=by
 induction v with
 |nil=>exact λh=>by cases h;exact .cons k rfl
 |cons p r ih=>
  refine λh=>h.inv λw m x y=>?_
  show SDR R (tf (bp p.1 n) ((p.1,a)::r) (p::bw r n a)) (tf (bp p.1 n) ((p.1,b)::m) ((p.1,w)::bw m n b))
  cases bp p.1 n with
  |true=>exact .cons k y
  |false=>exact SDR.cons (v:=p.2) x (ih y)
theorem SDR.zip{ks:List (List Nat)}:∀{vs us:List V} {es fs:List (List Nat × V)},aK R vs us->SDR R es fs->SDR R (nD ks vs es) (nD ks us fs):=by
 induction ks with
 |nil=>exact λ_ k=>k
 |cons n ks ih=>
  intro vs us es fs h k
  cases vs with
  |nil=>cases h.nil;exact k
  |cons v vs=>exact h.inv λ_ _ p q=>ih q (k.set p)
theorem SDR.ln{v:List (List Nat × V)}:∀{u:List (List Nat × V)},SDR R v u->Mx.len v=u.length:=by
 induction v with
 |nil=>exact λh=>by cases h;rfl
 |cons p r ih=>exact λh=>h.inv λ_ _ _ b=>congrArg WU (ih b)
theorem ER.set{ρ ρ':Env}{n:Nat}{a b:V}(h:ER R ρ ρ')(k:VR R a b):ER R (ag ρ n a) (ag ρ' n b):=λm c e=>by
 rw[aH]at e ⊢
 cases q:Wm n m with
 |true=>rw[q]at e;exact⟨b,rfl,Wn e▸k⟩
 |false=>rw[q]at e;exact h m c e
theorem ER.zip{ps:List Nat}:∀{vs us:List V},aK R vs us->ER R (ps.zip vs) (ps.zip us):=by
 induction ps with
 |nil=>exact λ_ _ _ e=>absurd e.symm ad
 |cons p ps ih=>
  intro vs us h
  cases vs with
  |nil=>exact λ_ _ e=>absurd e.symm ad
  |cons v vs=>
   refine h.inv λu m x y n a e=>?_
   have e:tf (Wm p n) (some v) (aa (ps.zip vs) n)=some a:=e
   show ∃b,tf (Wm p n) (some u) (aa (ps.zip m) n)=some b/\_
   cases q:Wm p n with
   |true=>rw[q]at e;exact⟨u,rfl,Wn e▸x⟩
   |false=>rw[q]at e;exact ih y n a e
theorem xX: (∀p:P,∀{v u:V} {ρ ρ' η:Env},VR R v u->ER R ρ ρ'->aL p v ρ=some η->∃η',aL p u ρ'=some η'/\ER R η η')/\∀ps:List P,∀{v u:List V} {ρ ρ' η:Env},aK R v u->ER R ρ ρ'->bf ps v ρ=some η->∃η',bf ps u ρ'=some η'/\ER R η η':=
 ⟨λp=>@P.rec (λp=>∀{v u:V} {ρ ρ' η:Env},VR R v u->ER R ρ ρ'->aL p v ρ=some η->∃η',aL p u ρ'=some η'/\ER R η η') (λps=>∀{v u:List V} {ρ ρ' η:Env},aK R v u->ER R ρ ρ'->bf ps v ρ=some η->∃η',bf ps u ρ'=some η'/\ER R η η')
  (λ_ _ _ _ _ _ h k e=>⟨_,rfl,Wn e▸k.set h⟩)
  (λps ih v u ρ ρ' η h k e=>cy e ad λl ev e=>by subst ev;exact VR.tup (P:=λu=>∃η',ko u (λvs=>bf ps vs ρ') none=some η'/\ER R η η') h λm h=>ih h k e)
  (λ{v u ρ ρ' η} h k e=>by cases v with |nil=>cases h.nil;exact⟨ρ',rfl,Wn e▸k⟩|cons _ _=>exact absurd e.symm ad)
  (λp ps f g v u ρ ρ' η h k e=>by
   cases v with
   |nil=>exact absurd e.symm ad
   |cons v vs=>
    refine h.inv λw m h1 h2=>a8 (o:=aL p v ρ) (k:=bf ps vs) e ad λρ₁ q e=>?_
    obtain⟨η₁,q',k'⟩:=f h1 k q
    show ∃η',opt (aL p w ρ') (bf ps m) none=some η'/\_
    rw[q']
    exact g h2 k' e) p,
  λp=>@P.rec_1 (λp=>∀{v u:V} {ρ ρ' η:Env},VR R v u->ER R ρ ρ'->aL p v ρ=some η->∃η',aL p u ρ'=some η'/\ER R η η') (λps=>∀{v u:List V} {ρ ρ' η:Env},aK R v u->ER R ρ ρ'->bf ps v ρ=some η->∃η',bf ps u ρ'=some η'/\ER R η η')
  (λ_ _ _ _ _ _ h k e=>⟨_,rfl,Wn e▸k.set h⟩)
  (λps ih v u ρ ρ' η h k e=>cy e ad λl ev e=>by subst ev;exact VR.tup (P:=λu=>∃η',ko u (λvs=>bf ps vs ρ') none=some η'/\ER R η η') h λm h=>ih h k e)
  (λ{v u ρ ρ' η} h k e=>by cases v with |nil=>cases h.nil;exact⟨ρ',rfl,Wn e▸k⟩|cons _ _=>exact absurd e.symm ad)
  (λp ps f g v u ρ ρ' η h k e=>by
   cases v with
   |nil=>exact absurd e.symm ad
   |cons v vs=>
    refine h.inv λw m h1 h2=>a8 (o:=aL p v ρ) (k:=bf ps vs) e ad λρ₁ q e=>?_
    obtain⟨η₁,q',k'⟩:=f h1 k q
    show ∃η',opt (aL p w ρ') (bf ps m) none=some η'/\_
    rw[q']
    exact g h2 k' e) p⟩
end
section
variable{R S:nz}
noncomputable def kM(v:V):Bool:=@V.rec (λ_=>Bool) (λ_=>Bool) true (λ_=>true) (λ_=>true) (λ_=>true) (λ_ b=>b) (λ_=>false) true (λ_ _ a b=>an a b) v
noncomputable def fL(l:List V):Bool:=@V.rec_1 (λ_=>Bool) (λ_=>Bool) true (λ_=>true) (λ_=>true) (λ_=>true) (λ_ b=>b) (λ_=>false) true (λ_ _ a b=>an a b) l
theorem jk: (∀v:V,kM v=true->VR R v v)/\∀l:List V,fL l=true->aK R l l:=
 V.ind (λ_=>rfl) (λ_ _=>rfl) (λ_ _=>rfl) (λ_ _=>rfl) (λl ih h=>.mkT (ih h)) (λ_=>fnt) (λ_=>rfl) λv l f g h=>.cons (f (aT h).1) (g (aT h).2)
theorem VR.of_solid{v u:V}(h:VR R v u)(k:sj v=true):u=v:=by cases v<;>first|exact h|exact fnt k
theorem px{ps:List Nat}:∀{vs:List V},ps.length=vs.length->l7 ps vs=some (ps.zip vs):=by
 induction ps with
 |nil=>exact λ{vs} h=>by cases vs with |nil=>rfl|cons _ _=>exact nomatch h
 |cons p ps ih=>
  intro vs h
  cases vs with
  |nil=>exact nomatch h
  |cons v vs=>exact congrArg (λo=>opt o (λρ=>some ((p,v)::ρ)) none) (ih (YZ h))
theorem EL{ps:List Nat}{vs:List V}(h:l7 ps vs=none):ps.length≠vs.length:=λe=>ad ((px e).symm.trans h)
theorem zf{ps:List Nat}{vs us:List V}{ρ:Env}(h:aK R vs us){ds:List V}:fL ds=true->bindArgs ps ds vs=some ρ->∃ρ',bindArgs ps ds us=some ρ'/\ER R ρ ρ':=by
 induction ds with
 |nil=>exact λ_ e=>gK e λa b=>⟨ps.zip us,px (a.trans h.len.symm),b▸ER.zip h⟩
 |cons d ds ih=>
  intro w e
  have hd:=h.app (jk.2 _ w)
  show ∃ρ',opt (l7 ps (us++d::ds)) some (bindArgs ps ds us)=some ρ'/\_
  have e:opt (l7 ps (vs++d::ds)) some (bindArgs ps ds vs)=some ρ:=e
  cases q:l7 ps (vs++d::ds)with
  |some η=>
   rw[q]at e
   cases e
   exact gK q λa b=>⟨ps.zip (us++d::ds),by rw[px (a.trans hd.len.symm)];rfl,b▸ER.zip hd⟩
  |none=>
   rw[q]at e
   cases q2:l7 ps (us++d::ds)with
   |some η=>exact(EL q (gK q2 λa _=>a.trans hd.len)).elim
   |none=>exact ih (aT w).2 e
theorem lE{i j:Int}(h:v6 i j=true):i=j:=by cases i<;>cases j<;>first|exact congrArg _ (Wq h)|exact fnt h
theorem l8{a b:Bool}(h:xU a b=true):a=b:=by cases a<;>cases b<;>first|rfl|exact fnt h
theorem eqN_eq{a:List Nat}:∀{b:List Nat},bp a b=true->a=b:=by
 induction a with
 |nil=>exact λ{b} h=>by cases b with |nil=>rfl|cons _ _=>exact fnt h
 |cons x a ih=>
  intro b h
  cases b with
  |nil=>exact fnt h
  |cons y b=>exact am (b:=Wm x y) h aV λe h=>congr (congrArg Zi (Wq e)) (ih h)
theorem vp: (∀a b:V,gh a b=true->a=b)/\∀a b:List V,vj a b=true->a=b:=
 V.ind (λ_ h=>e8 h aV λe _=>e.symm) (λa _ h=>ji h aV λb e h=>(congrArg V.bool (l8 h)).trans e.symm) (λa _ h=>aR h aV λb e h=>(congrArg V.int (lE h)).trans e.symm) (λa _ h=>cS h aV λb e h=>(congrArg V.str (eqN_eq h)).trans e.symm)
  (λa ih _ h=>cy h aV λb e h=>(congrArg V.tup (ih b h)).trans e.symm) (λa _ h=>aM h aV λb e h=>(congrArg V.ref (Wq h)).trans e.symm) (λ_ h=>(gS h).symm)
  λa x f g b h=>by cases b with |nil=>exact fnt h|cons b y=>exact congr (congrArg Zi (f b (aT h).1)) (g y (aT h).2)
theorem fh{a b:V}(h:gh a b=true):a=b:=vp.1 a b h
theorem rD{a b:List V}(h:vj a b=true):a=b:=vp.2 a b h
end
noncomputable def Yv(j:Nat):Prop:=j=3\/j=43
structure CJ(Z:Nat->Prop)(σ σ':St):Prop where
 len:σ.length<=σ'.length
 get:∀j,Z j->a6 σ' j=a6 σ j
theorem CJ.trans{Z:Nat->Prop}{a b c:St}(x:CJ Z a b)(y:CJ Z b c):CJ Z a c:=⟨Wz x.len y.len,λj h=>(y.get j h).trans (x.get j h)⟩
inductive PQ(GI:St->Prop)(σ:St)(v:V):Prop
 |mk (j:Nat) (l:List V):v=.ref j->Yv j->a6 σ j=some (.lst l)->(∀m:List V,m.length<=4->aU (l.length+m.length)=true/\GI (az σ j (.lst (l++m))))->PQ GI σ v
inductive Tn(σ:St)(v:V):Prop
 |mk (j:Nat) (es:List (List Nat × V)):v=.ref j->a6 σ j=some (.sd es)->(∀n v,ax bH n=some v->ax es n=some v)->Tn σ v
structure Nb(HP:List V->Bn->Prop)(k j:Nat)(φ ws:List V):Prop where
 len:ws.length=6
 zero:ws[0]?=some (.int (.ofNat j))
 nn:∀w∈ws,w≠.none
 hp:HP (φ++ws) ⟨φ.length,uI k,6,0⟩
structure Wx where
 Z:Nat->Prop
 HP:List V->Bn->Prop
 GI:Nat->St->Prop
 up:∀{φ ψ b},Le φ ψ->HP φ b->HP ψ b
 dat:∀{φ:List V} {b:Bn} {i:Nat} {u:V},HP φ b->b.b<=i->i<b.b+b.a->φ[i]?=some u->plain u=true/\F5 u<=b.d
 nb:∀{k j:Nat} (φ:List V),0<uI k->j<k->∃ws:List V,Nb HP k j φ ws
 same:∀{c σ σ'},GI c σ->CJ Z σ σ'->GI c σ'
 grow:∀{φ b c σ},HP φ b->b.t=3->GI c σ->4<=c->∃v,φ[b.b]?=some v/\PQ (GI (c-4)) σ v
 ent:∀{φ b c σ},HP φ b->b.t=5->GI c σ->∃v,φ[b.b]?=some v/\Tn σ v
inductive At(W:Wx)(φ:List V)(σ:St)(i:Nat)(o:O):Prop
 |mk (j:Nat) (o':O):φ[i]?=some (V.ref j)->a6 σ j=some o'->OS φ o o'->(wok i=true->¬ W.Z j)->¬ Yv j->At W φ σ i o
structure Emb(W:Wx)(φ:List V)(x:XS)(σ:St):Prop where
 len:φ.length=x.n
 ne:x.n=44+x.e.length
 nn:∀(i:Nat) (u:V),φ[i]?=some u->u≠V.none
 obj:∀(i:Nat) (o:O),x.get i=some o->o≠O.tmp->At W φ σ i o
 mono:∀(i k:Nat) (o p:O) (j l:Nat),x.get i=some o->o≠O.tmp->x.get k=some p->p≠O.tmp->φ[i]?=some (V.ref j)->φ[k]?=some (V.ref l)->i<k->j<l
 zl:∀j,W.Z j\/Yv j->j<σ.length
 hp:∀b∈x.t,W.HP φ b
 gi:W.GI x.c σ
inductive vB(W:Wx){α β:Type}(P:List V->α->β->Prop)(φ:List V)(K:α->XS->Bool)(u:β)(σ:St):Prop
 |mk (φ':List V) (v:α) (x:XS):Le φ φ'->Emb W φ' x σ->P φ' v u->K v x=true->vB W P φ K u σ
noncomputable def a7(W:Wx)(ke:List Nat->Bool){α β:Type}(P:List V->α->β->Prop)(φ:List V)(K:α->XS->Bool)(r:R β):Prop:=@R.rec β (λ_=>Prop) (vB W P φ K) (λk=>ke k=true) False r
section
variable{W:Wx}{ke:List Nat->Bool}{α β γ δ:Type}{P:List V->α->β->Prop}{Q:List V->γ->δ->Prop}{φ:List V}{x:XS}{σ:St}
theorem a7.ret{K:α->XS->Bool}{v:α}{u:β}{φ':List V}(l:Le φ φ')(E:Emb W φ' x σ)(p:P φ' v u)(k:K v x=true):a7 W ke P φ K (.ok u σ):=vB.mk φ' v x l E p k
theorem a7.here{K:α->XS->Bool}{v:α}{u:β}(E:Emb W φ x σ)(p:P φ v u)(k:K v x=true):a7 W ke P φ K (.ok u σ):=vB.mk φ v x (tE.refl _) E p k
theorem a7.le{K:α->XS->Bool}{φ':List V}{r:R β}(l:Le φ φ')(p:a7 W ke P φ' K r):a7 W ke P φ K r:=by
 cases r with
 |ok u σ=>cases p with |mk a b c d e f g=>exact⟨a,b,c,l.trans d,e,f,g⟩
 |_=>exact p
theorem a7.bind{K:α->XS->Bool}{J:γ->XS->Bool}{r:R β}{f:β->St->R δ}(p:a7 W ke P φ K r)
  (h:∀{φ' v x u σ},Le φ φ'->Emb W φ' x σ->P φ' v u->K v x=true->a7 W ke Q φ' J (f u σ)):a7 W ke Q φ J (r.bind f):=by
 cases r with
 |ok u σ=>cases p with |mk a b c d e g k=>exact(h d e g k).le d
 |_=>exact p
variable{K:α->XS->Bool}{v u:V}{r:R β}
theorem a7.gd{b c:Bool}{e:Bool}(h:an b e=true)(i:b=true->c=true)(k:e=true->a7 W ke P φ K r):a7 W ke P φ K (gd c r):=by
 rw[i (aT h).1]
 exact k (aT h).2
theorem a7.int{f:Int->Bool}{g:Int->R β}(h:fp v f false=true)(hv:VS φ v u)(k:∀i,f i=true->a7 W ke P φ K (g i)):a7 W ke P φ K (fp u g .bad):=by
 cases v<;>first| (cases hv;exact k _ h)|exact fnt h
theorem a7.bool{f:Bool->Bool}{g:Bool->R β}(h:rv v f false=true)(hv:VS φ v u)(k:∀i,f i=true->a7 W ke P φ K (g i)):a7 W ke P φ K (rv u g .bad):=by
 cases v<;>first| (cases hv;exact k _ h)|exact fnt h
theorem a7.str{f:List Nat->Bool}{g:List Nat->R β}(h:jv v f false=true)(hv:VS φ v u)(k:∀i,f i=true->a7 W ke P φ K (g i)):a7 W ke P φ K (jv u g .bad):=by
 cases v<;>first| (cases hv;exact k _ h)|exact fnt h
theorem a7.tup{f:List V->Bool}{g:List V->R β}(h:ko v f false=true)(hv:VS φ v u)(k:∀l l',dS φ l l'->f l=true->a7 W ke P φ K (g l')):a7 W ke P φ K (ko u g .bad):=by
 cases v<;>first|exact VR.tup hv λl' hl=>k _ l' hl h|exact fnt h
theorem a7.ref{f:Nat->Bool}(h:cD v f false=true)(hv:VS φ v u)(k:∀i,VS φ (.ref i) u->f i=true->a7 W ke P φ K r):a7 W ke P φ K r:=by
 cases v<;>first|exact k _ hv h|exact fnt h
theorem a7.val{f:Int->Bool}{s:List Nat->Bool}{t:List V->Bool}{q:Nat->Bool}{f':Int->R β}{s':List Nat->R β}{t':List V->R β}{q':Nat->R β}(h:iN v f s t q false=true)(hv:VS φ v u)(kf:∀i,f i=true->a7 W ke P φ K (f' i))(ks:∀i,s i=true->a7 W ke P φ K (s' i))
  (kt:∀l l',dS φ l l'->t l=true->a7 W ke P φ K (t' l'))(kq:∀i,VS φ (.ref i) u->q i=true->a7 W ke P φ K (iN u f' s' t' q' .bad)):a7 W ke P φ K (iN u f' s' t' q' .bad):=by
 cases v with
 |int i=>cases hv;exact kf i h
 |str i=>cases hv;exact ks i h
 |tup l=>exact VR.tup (P:=λu=>a7 W ke P φ K (iN u f' s' t' q' .bad)) hv λl' hl=>kt l l' hl h
 |ref i=>exact kq i hv h
 |_=>exact fnt h
theorem a7.opt{o:Option γ}{f:γ->Bool}{g:γ->R β}(h:opt o f false=true)(k:∀a,f a=true->a7 W ke P φ K (g a)):a7 W ke P φ K (opt o g .bad):=by
 cases o with
 |none=>exact fnt h
 |some a=>exact k a h
theorem a7.opt'{o o':Option γ}{f:γ->Bool}{g:γ->R β}(h:Mine.opt o f false=true)(e:o=o')(k:∀a,f a=true->a7 W ke P φ K (g a)):a7 W ke P φ K (Mine.opt o' g .bad):=e▸a7.opt h k
theorem a7.l1{vs us:List V}{f:V->Bool}{g:V->R β}(h:Mine.l1 vs f false=true)(hv:dS φ vs us)(k:∀v u,VS φ v u->f v=true->a7 W ke P φ K (g u)):a7 W ke P φ K (Mine.l1 us g .bad):=
 eH h aV λv e h=>by subst e;exact aK.one_inv (P:=λus=>a7 W ke P φ K (Mine.l1 us g .bad)) hv λu hv=>k v u hv h
theorem a7.l0{vs us:List V}{f:Bool}(h:Mine.l0 vs f false=true)(hv:dS φ vs us)(k:f=true->a7 W ke P φ K r):a7 W ke P φ K (Mine.l0 us r .bad):=iB h aV λe h=>by
 subst e
 cases hv.nil
 exact k h
theorem a7.nat{i:Int}{f:Nat->Bool}{g:Nat->R β}(h:Mine.nat i f false=true)(k:∀n,f n=true->a7 W ke P φ K (g n)):a7 W ke P φ K (Mine.nat i g .bad):=by cases i with |ofNat n=>exact k n h|negSucc n=>exact fnt h
theorem a7.if{b:Bool}{f g:Bool}{r r':R β}(h:tf b f g=true)(k:f=true->a7 W ke P φ K r)(k':g=true->a7 W ke P φ K r'):a7 W ke P φ K (tf b r r'):=by cases b with |true=>exact k h|false=>exact k' h
theorem a7.ty{a:β}{K:α->XS->Bool}(p:a7 W ke P φ K (.ok a σ))(e:r=.ok a σ):a7 W ke P φ K r:=e▸p
end
theorem gX{i j:Nat}(h:some (V.ref i)=some (V.ref j)):i=j:=by cases h;rfl
theorem yQ{a b:Nat}(h:a<b):Wo a b=true:=Xv h
theorem Fi{a b:Nat}(h:b<=a):Wo a b=false:=by
 cases q:Wo a b with
 |true=>exact absurd (Wl q) (Yy (Nat.lt_succ_of_le h))
 |false=>rfl
theorem XS.lo{x:XS}{i:Nat}(h:i<44):x.get i=D2 x.o12 x.o18 i:=by unfold XS.get;rw[yQ h];rfl
theorem XS.hi{x:XS}{i:Nat}:x.get (44+i)=a6 x.e i:=by
 unfold XS.get
 rw[Fi (WC 44 i)]
 exact congrArg (a6 x.e) (WH ..)
@[elab_as_elim] theorem i4{P:Nat->Prop}(f:∀i,i<44->P i)(g:∀i,P (44+i))(i:Nat):P i:=(Xl i 44).elim (f i) λl=>(WM l).elim λk e=>e▸g k
theorem gR{a b o:O}{k:Nat}{P:Prop}(h:D2 a b k=some o)(f:k=12->o=a->P)(g:k=18->o=b->P)(z:k≠12->k≠18->a6 cE k=some o->P):P:=
 au h (λe h=>f (Wq e) (Wn h).symm) λe h=>au h (λe h=>g (Wq e) (Wn h).symm) λe2 h=>z (Xp e) (Xp e2) h
theorem vG{i:Nat}{P:Prop}(h:wok i=true)(f: 44<=i->P)(g:i=12->P)(k:i=18->P):P:=(yx h).elim (λh=>f (Wl h)) λh=>(yx h).elim (λh=>g (Wq h)) λh=>k (Wq h)
theorem j7{x:XS}{τ:List O}{n:Nat}{t:List Bn}{c i:Nat}{p:O}{P:Prop}(ne:x.n=44+x.e.length)(h:XS.get ⟨x.o12,x.o18,x.e++τ,n,t,c⟩ i=some p)(f:x.get i=some p->P)(g:∀j,i=x.n+j->a6 τ j=some p->P):P:=by
 revert h f g
 refine i4 (λi l h f _=>f (by rw[XS.lo l]at h ⊢;exact h)) (λi h f g=>?_) i
 rw[XS.hi]at h f
 exact im h f λj e=>g j (by rw[e,ne,Xm])
theorem get_set{x:XS}{i k:Nat}{o p:O}{P:Prop}(w:wok i=true)(h: (x.set i o).get k=some p)(f:i=k->p=o->P)(g:i≠k->x.get k=some p->P):P:=by
 refine vG w (λl=>(WM l).elim λj e=>?_) (λe=>?_) λe=>?_
 ·subst e
  have e1:x.set (44+j) o=⟨x.o12,x.o18,az x.e j o,x.n,x.t,x.c⟩:=by
   unfold XS.set
   rw[Fi (WC 44 j)]
   exact congrArg (λj=>(⟨x.o12,x.o18,az x.e j o,x.n,x.t,x.c⟩:XS)) (WH ..)
  rw[e1]at h
  revert h f g
  refine i4 (λk l h _ g=>g (by omega) (by rw[XS.lo l]at h ⊢;exact h)) (λk h f g=>?_) k
  rw[XS.hi]at h g
  refine(YA (j=k)).elim (λe=>?_) λn=>g (λe=>n (Nat.add_left_cancel e)) (by rw[aX n]at h;exact h)
  subst e
  have l:=bK h
  rw[ba]at l
  exact f rfl (Wn (h.symm.trans (dK ((aj _ _).trans (Wt l)))))
 ·subst e
  have h:XS.get ⟨o,x.o18,x.e,x.n,x.t,x.c⟩ k=some p:=h
  revert h f g
  refine i4 (λk l f g h=>?_) (λk _ g h=>g (by omega) (by rw[XS.hi]at h ⊢;exact h)) k
  rw[XS.lo l]at h g
  exact gR h (λe q=>f e.symm q) (λe q=>g (by omega) (by rw[e,q];rfl)) λn m q=>g n.symm (by unfold D2;rw[jz n,jz m];exact q)
 ·subst e
  have h:XS.get ⟨x.o12,o,x.e,x.n,x.t,x.c⟩ k=some p:=h
  revert h f g
  refine i4 (λk l f g h=>?_) (λk _ g h=>g (by omega) (by rw[XS.hi]at h ⊢;exact h)) k
  rw[XS.lo l]at h g
  exact gR h (λe q=>g (by omega) (by rw[e,q];rfl)) (λe q=>f e.symm q) λn m q=>g m.symm (by unfold D2;rw[jz n,jz m];exact q)
theorem De{x:XS}{i:Nat}{o:O}: (x.set i o).n=x.n/\(x.set i o).e.length=x.e.length/\(x.set i o).t=x.t/\(x.set i o).c=x.c:=by
 unfold XS.set
 cases Wo i 44 with
 |false=>exact⟨rfl,ba,rfl,rfl⟩
 |true=>cases Wm i 12<;>exact⟨rfl,rfl,rfl,rfl⟩
section
variable{W:Wx}{ke:List Nat->Bool}{α β:Type}{P:List V->α->β->Prop}{φ:List V}{x:XS}{σ:St}(E:Emb W φ x σ)
include E
theorem Emb.atL{i:Nat}{o:O}{u:V}{G:V->Prop}(h:VS φ (.ref i) u)(e:x.get i=some o)(n:o≠.tmp)(k:∀j o',a6 σ j=some o'->OS φ o o'->φ[i]?=some (V.ref j)->(wok i=true->¬ W.Z j)->¬ Yv j->G (.ref j)):G u:=by
 cases E.obj i o e n with |mk j o' a b c d y=>
 rw[VS.det h a]
 exact k j o' b c a d y
theorem Emb.lst{i:Nat}{u:V}{f:List V->Bool}{G:V->Prop}(hu:VS φ (.ref i) u)(h:xL x i f=true)(k:∀j l l',a6 σ j=some (.lst l')->dS φ l l'->x.get i=some (.lst l)->f l=true->G (.ref j)):G u:=
 a8 h aV λo e h=>v7 h aV λl eo h=>by
  subst eo
  exact E.atL hu e nofun λj o' g os _ _ _=>WS os λl' z=>k j l l' (z.1▸g) z.2 e h
theorem Emb.sd{i:Nat}{u:V}{f:List (List Nat × V)->Bool}{G:V->Prop}(hu:VS φ (.ref i) u)(h:xD x i f=true)(k:∀j l l',a6 σ j=some (.sd l')->SDR (pt φ) l l'->x.get i=some (.sd l)->f l=true->G (.ref j)):G u:=
 a8 h aV λo e h=>uh h aV λl eo h=>by
  subst eo
  exact E.atL hu e nofun λj o' g os _ _ _=>WS os λl' z=>k j l l' (z.1▸g) z.2 e h
theorem Emb.inj{i k:Nat}{o p:O}{j:Nat}(ei:x.get i=some o)(ni:o≠O.tmp)(ek:x.get k=some p)(nk:p≠O.tmp)(fi:φ[i]?=some (V.ref j))(fk:φ[k]?=some (V.ref j)):i=k:=
 (Nat.lt_trichotomy i k).elim (λl=>absurd (E.mono i k o p j j ei ni ek nk fi fk l) (a0t j)) λh=>h.elim id λl=>absurd (E.mono k i p o j j ek nk ei ni fk fi l) (a0t j)
theorem Emb.more{τ σ₂:St}{ψ:List V}{t:List Bn}(hl:ψ.length=τ.length)(nn:∀u∈ψ,u≠V.none)
  (ho:∀i o,a6 τ i=some o->o≠.tmp->∃o',ψ[i]?=some (.ref (σ.length+i))/\a6 σ₂ i=some o'/\OS (φ++ψ) o o')(ht:∀b∈t,W.HP (φ++ψ) b):Emb W (φ++ψ) ⟨x.o12,x.o18,x.e++τ,x.n+τ.length,t++x.t,x.c⟩ (σ++σ₂):=by
 have lf:=Le.app φ ψ
 have LB:∀{i u},(φ++ψ)[φ.length+i]?=some u->ψ[i]?=some u:=λ{i u} e=>by
  rw[WQ (WC _ _),WH]at e;exact e
 have old:∀{i p j},x.get i=some p->p≠O.tmp->(φ++ψ)[i]?=some (V.ref j)->φ[i]?=some (V.ref j)/\j<σ.length/\i<x.n:=λ{i p j} e n f=>by
  cases E.obj i p e n with |mk j' o' a b=>
  cases(lf _ _ a).symm.trans f
  exact⟨a,bK b,E.len▸(Wv.mp a).1⟩
 have new:∀{i p j},a6 τ i=some p->p≠O.tmp->(φ++ψ)[x.n+i]?=some (V.ref j)->j=σ.length+i:=λ{i p j} e n f=>by
  rw[<-E.len]at f
  obtain⟨o',a,_⟩:=ho i p e n
  exact gX ((LB f).symm.trans a)
 constructor
 ·rw[Wu,E.len,hl]
 ·show x.n+τ.length=44+(x.e++τ).length
  rw[Wu,E.ne,Xm]
 ·intro i u e
  rcases Xl i φ.length with l|l
  ·exact E.nn i u ((WE l).symm.trans e)
  ·obtain⟨j,rfl⟩:=WM l
   exact nn u (WN (LB e))
 ·refine λi o e n=>j7 E.ne e (λe=>?_) λk ei g=>?_
  ·cases E.obj i o e n with |mk j o' a b c d y=>exact⟨j,o',lf _ _ a,stGet_app b,c.up lf,d,y⟩
  ·obtain⟨o',a,b,c⟩:=ho k o g n
   have no:∀j,W.Z j\/Yv j->σ.length+k≠j:=λj z q=>Z1 (WC σ.length k) (q▸E.zl j z)
   subst ei
   refine⟨_,o',?_,jZ.trans b,c,λ_ z=>no _ (.inl z) rfl,λz=>no _ (.inr z) rfl⟩
   rw[<-E.len,WQ (WC _ _),WH]
   exact a
 ·refine λi k o p j l ei ni ek nk fi fk lt=>j7 E.ne ek (λek=>j7 E.ne ei (λei=>E.mono i k o p j l ei ni ek nk (old ei ni fi).1 (old ek nk fk).1 lt) λi' e _=>?_) λk' e gk=>?_
  ·have:=(old ek nk fk).2.2
   omega
  ·subst e
   have a:=new gk nk fk
   refine j7 E.ne ei (λei=>?_) λi' e gi=>?_
   ·have:=(old ei ni fi).2.1
    omega
   ·subst e
    have:=new gi ni fi
    omega
 ·exact λj z=>WV (E.zl j z) (by rw[Wu];exact WC _ _)
 ·exact λb hb=>(X1.mp hb).elim (ht b) λh=>W.up lf (E.hp b h)
 ·exact W.same E.gi ⟨by rw[Wu];exact WC _ _,λj z=>dv (E.zl j (.inl z))⟩
theorem Emb.here: (φ++[V.ref σ.length])[x.n]?=some (.ref σ.length):=by rw[<-E.len];exact List.getElem?_concat_length
theorem Emb.new{o o':O}(h:OS (φ++[.ref σ.length]) o o'):Emb W (φ++[.ref σ.length]) (x.add [o]) (σ++[o']):=by
 unfold XS.add
 rw[c5,aQ]
 refine E.more (τ:=[o]) (σ₂:=[o']) (t:=[]) rfl (λu hu e=>nomatch (WF.mp hu).symm.trans e) (λi p e n=>?_) (λb hb=>absurd hb WT)
 cases i with
 |zero=>cases e;exact⟨o',rfl,rfl,h⟩
 |succ i=>exact absurd e.symm ad
theorem Emb.push{ws:List V}{t a d:Nat}(hl:ws.length=a)(nn:∀u∈ws,u≠V.none)(h:W.HP (φ++ws) ⟨φ.length,t,a,d⟩):Emb W (φ++ws) (x.push t a d) σ:=by
 have e:=E.more (τ:=rep .tmp a) (σ₂:=[]) (ψ:=ws) (t:=[⟨φ.length,t,a,d⟩]) (by rw[jG,YL];exact hl) nn (λi o e n=>by
  rw[jG,aj]at e
  exact absurd (a0u (WN e)) n) (λb hb=>WF.mp hb▸h)
 rw[Xh,<-c5 (l:=x.e),jG,YL,<-jG,E.len]at e
 exact e
theorem Emb.set{i j:Nat}{o n o' n':O}(f:φ[i]?=some (.ref j))(e:x.get i=some o)(ne:o≠.tmp)(e':a6 σ j=some o')(nn:n≠.tmp)(h:OS φ n n')(hr:wok i=true):Emb W φ (x.set i n) (az σ j n'):=by
 have F:=@De x i n
 have Z: (wok i=true->¬ W.Z j)/\¬ Yv j:=by
  cases E.obj i o e ne with |mk k p a b c d y=>
  cases a.symm.trans f
  exact⟨d,y⟩
 have back:∀{k p},(x.set i n).get k=some p->p≠O.tmp->∃p',x.get k=some p'/\p'≠O.tmp:=λ{k p} ek nk=>get_set hr ek (λq _=>⟨o,q▸e,ne⟩) λ_ ek=>⟨p,ek,nk⟩
 refine⟨E.len.trans F.1.symm,by rw[F.1,F.2.1];exact E.ne,E.nn,λk p ek nk=>?_,λk l p q m m' ek nk el nl fk fl hlt=>?_,λk z=>ba.symm▸E.zl k z,F.2.2.1▸E.hp,F.2.2.2▸W.same E.gi ⟨by rw[ba];exact WO _,λk z=>aX λq=>Z.1 hr (q▸z)⟩⟩
 ·refine get_set hr ek (λq ep=>?_) λq ek=>?_
  ·subst q ep
   exact⟨j,n',f,dK e',h,Z.1,Z.2⟩
  ·cases E.obj k p ek nk with |mk l p' a b c d y=>
   exact⟨l,p',a,(aX λz=>q (E.inj e ne ek nk f (by rw[z];exact a))).trans b,c,d,y⟩
 ·obtain⟨p',ek',nk'⟩:=back ek nk
  obtain⟨q',el',nl'⟩:=back el nl
  exact E.mono k l p' q' m m' ek' nk' el' nl' fk fl hlt
end
section
variable{W:Wx}{ke:List Nat->Bool}{α β:Type}{P:List V->α->β->Prop}{φ:List V}{x:XS}{σ:St}(E:Emb W φ x σ)
include E
theorem a7.new{K:KV}{o o':O}(h:OS φ o o')(k:lF x o K=true):a7 W ke VS φ K (.ok (.ref σ.length) (σ++[o'])):=
 a7.ret (Le.app φ _) (E.new (h.up (Le.app φ _))) (show VS _ (V.ref x.n) _ from E.here) k
theorem a7.atL{K:α->XS->Bool}{i:Nat}{u:V}{f:List V->Bool}{g:V->R β}{q:Nat->List V->R β}(h:xL x i f=true)(hu:VS φ (.ref i) u)(z:∀j,g (.ref j)=Mine.atL σ j (q j) .bad)
  (k:∀j l l',a6 σ j=some (.lst l')->dS φ l l'->x.get i=some (.lst l)->u=.ref j->f l=true->a7 W ke P φ K (q j l')):a7 W ke P φ K (g u):=
 E.lst (G:=λw=>u=w->a7 W ke P φ K (g w)) hu h (λj l l' hj hl e hf eu=>by
  rw[z]
  show a7 W ke P φ K (Mine.opt (a6 σ j) (λo=>oL o (q j) .bad) .bad)
  rw[hj]
  exact k j l l' hj hl e eu hf) rfl
theorem a7.atD{K:α->XS->Bool}{i:Nat}{u:V}{f:List (List Nat × V)->Bool}{g:V->R β}{q:Nat->List (List Nat × V)->R β}(h:xD x i f=true)(hu:VS φ (.ref i) u)(z:∀j,g (.ref j)=Mine.atD σ j (q j) .bad)
  (k:∀j l l',a6 σ j=some (.sd l')->SDR (pt φ) l l'->x.get i=some (.sd l)->u=.ref j->f l=true->a7 W ke P φ K (q j l')):a7 W ke P φ K (g u):=
 E.sd (G:=λw=>u=w->a7 W ke P φ K (g w)) hu h (λj l l' hj hl e hf eu=>by
  rw[z]
  show a7 W ke P φ K (Mine.opt (a6 σ j) (λo=>oD o (q j) .bad) .bad)
  rw[hj]
  exact k j l l' hj hl e eu hf) rfl
theorem a7.turn{K:α->XS->Bool}{v:α}{b:β}{i j:Nat}{o n o' n':O}(f:VS φ (.ref i) (.ref j))(e:x.get i=some o)(ne:o≠.tmp)(e':a6 σ j=some o')(nn:n≠.tmp)(h:OS φ n n')(hr:wok i=true)(p:P φ v b)(k:K v (x.set i n)=true):a7 W ke P φ K (.ok b (az σ j n')):=
 .here (E.set f e ne e' nn h hr) p k
end
noncomputable abbrev BQ:List V->Bool->Bool->Prop:=λ_ p q=>p=q
theorem d8{α:Type}{σ:St}{i:Nat}{l:List V}{k:List V->α}{d:α}(h:a6 σ i=some (.lst l)):atL σ i k d=k l:=by unfold atL;rw[h];rfl
theorem yR{t:List Bn}{i d:Nat}:C9 t i=some d->∃b∈t,b.b<=i/\i<b.b+b.a/\b.d=d:=by
 induction t with
 |nil=>exact λh=>absurd h.symm ad
 |cons p r ih=>exact λh=>au h (λq e=>⟨p,.head _,Wl (aT q).1,Wl (aT q).2,Wn e⟩) λ_ e=>(ih e).imp λb z=>⟨.tail _ z.1,z.2⟩
theorem gG{t:List Bn}{i k:Nat}:ON t i=some k->∃b∈t,b.b=i/\b.t=k:=by
 induction t with
 |nil=>exact λh=>absurd h.symm ad
 |cons p r ih=>exact λh=>au h (λq e=>⟨p,.head _,Wq q,Wn e⟩) λ_ e=>(ih e).imp λb z=>⟨.tail _ z.1,z.2⟩
noncomputable def Pd(u:V)(d:Nat):Prop:=plain u=true/\F5 u<=d
noncomputable def tD(u:List V)(d:Nat):Prop:=aG u=true/\jd u<=d
theorem tD.cons{u:V}{m:List V}{a b c:Nat}(h:Pd u a)(k:tD m b)(ha:a<=c)(hb:b<=c):tD (u::m) c:=
 ⟨by show tf (plain u) (aG m) false=true;rw[h.1];exact k.1,Nat.max_le.mpr ⟨Wz h.2 ha,Wz k.2 hb⟩⟩
theorem tD.inv{u:V}{m:List V}(h:aG (u::m)=true):plain u=true/\aG m=true:=aT (a:=plain u) h
theorem FH{a b:Nat}:a<=tf (WD a b) b a/\b<=tf (WD a b) b a:=by
 cases q:WD a b with
 |true=>exact⟨Wl q,WO _⟩
 |false=>exact⟨WO _,Nat.le_of_not_le λl=>Ww (q.symm.trans (Xv l))⟩
theorem eqN_refl{s:List Nat}:bp s s=true:=by
 induction s with
 |nil=>rfl
 |cons a r ih=>
  show tf (Wm a a) (bp r r) false=true
  rw[Nat.beq_refl a]
  exact ih
theorem pS: (∀v,plain v=true->ny v v=true)/\∀l,aG l=true->BG l l=true:=
 V.ind (λ_=>rfl) (λb _=>decide_eq_true rfl) (λ_ _=>decide_eq_true rfl) (λ_ _=>eqN_refl) (λ_ ih=>ih) (λ_=>fnt) (λ_=>rfl) λv l f g h=>by
  show tf (ny v v) (BG l l) false=true
  rw[f (tD.inv h).1]
  exact g (tD.inv h).2
section
variable{R:nz}
theorem lD{a b w:V}(hw:VR R b w)(ht:∀l,ny a (.tup l)=false)(h:pP a b=true):ny a w=false:=
 (yx h).elim (λh=>cy h aV λl e _=>by subst e;exact VR.tup (P:=λw=>ny a w=false) hw λm _=>ht m) λh=>by rw[hw.of_solid (aT h).1];exact QK (aT h).2
theorem uo: (∀a {b u w:V},VR R a u->VR R b w->Ff a b=true->ny u w=false)/\∀a {b u w:List V},aK R a u->aK R b w->Pu a b=true->BG u w=false:=
 V.ind (λhu hw h=>hu▸lD hw (λ_=>rfl) h) (λ_ _ _ _ hu hw h=>hu▸lD hw (λ_=>rfl) h) (λ_ _ _ _ hu hw h=>hu▸lD hw (λ_=>rfl) h) (λ_ _ _ _ hu hw h=>hu▸lD hw (λ_=>rfl) h)
  (λl ih b u w hu hw h=>hu.tup λl' hl=>by
   cases b with
   |tup m=>exact VR.tup (P:=λw=>ny (.tup l') w=false) hw λm' hm=>ih hl hm h
   |ref _=>exact fnt h
   |_=>cases hw;rfl) (λ_ _ _ _ _ _=>fnt)
  (λ{b u w} hu hw h=>by
   cases hu.nil
   cases b with
   |nil=>exact fnt h
   |cons _ _=>exact hw.inv λ_ _ _ _=>rfl)
  λv l f g b u w hu hw h=>hu.inv λu1 m1 a1 a2=>by
   cases b with
   |nil=>cases hw.nil;rfl
   |cons b r=>
    refine hw.inv λu2 m2 b1 b2=>?_
    show tf (ny u1 u2) (BG m1 m2) false=false
    exact(yx h).elim (λh=>by rw[f a1 b1 h];rfl) λh=>by rw[g a2 b2 h];cases ny u1 u2<;>rfl
end
section
variable{W:Wx}{ke:List Nat->Bool}{α β:Type}{P:List V->α->β->Prop}{φ:List V}{x:XS}{σ:St}(E:Emb W φ x σ)
include E
theorem nh: (∀v,∀{u:V} {d:Nat},VS φ v u->D5 x.t v=some d->Pd u d)/\∀v,∀{u:List V} {d:Nat},dS φ v u->pY x.t v=some d->tD u d:=
 V.ind (λh _=>h▸⟨rfl,Xu _⟩) (λ_ _ _ h _=>h▸⟨rfl,Xu _⟩) (λ_ _ _ h _=>h▸⟨rfl,Xu _⟩)
  (λs _ _ h k=>am (b:=oK s) k ad λq _=>h▸⟨q,Xu _⟩)
  (λl ih _ _ h k=>h.tup λm hm=>a8 (o:=pY x.t l) k ad λd e k=>by
   have z:=ih hm e
   cases k
   exact⟨z.1,XV z.2⟩)
  (λi _ _ h k=>by
   obtain⟨b,m,l1,l2,e⟩:=yR k
   exact e▸W.dat (E.hp b m) l1 l2 h)
  (λh _=>by cases h.nil;exact⟨rfl,Xu _⟩)
  λv l f g _ _ h k=>h.inv λu m a b=>a8 (o:=D5 x.t v) k ad λd1 e1 k=>a8 (o:=pY x.t l) k ad λd2 e2 k=>by
   cases k
   exact tD.cons (f a e1) (g b e2) FH.1 FH.2
theorem PP{v u:V}{k:Nat}(hv:VS φ v u)(h:AA k (D5 x.t v)=true):plain u=true/\F5 u<=k:=a8 h aV λd e h=>have z:=(nh E).1 v hv e;⟨z.1,Wz z.2 (Wl h)⟩
theorem Am{v u:List V}{k:Nat}(hv:dS φ v u)(h:AA k (pY x.t v)=true):aG u=true/\jd u<=k:=a8 h aV λd e h=>have z:=(nh E).2 v hv e;⟨z.1,Wz z.2 (Wl h)⟩
theorem Q3{v u:V}(hv:VS φ v u)(h:is (D5 x.t v)=true):plain u=true:=wi h λd e=>((nh E).1 v hv e).1
theorem zF{v u:List V}(hv:dS φ v u)(h:is (pY x.t v)=true):aG u=true:=wi h λd e=>((nh E).2 v hv e).1
theorem a7.same{K:KB}{s d q c:Bool}(h:qA s d x K=true)(e:c=true)(i:s=true->q=true)(j:d=true->q=false):a7 W ke BQ φ K (Mine.gd c (.ok q σ)):=by
 rw[e]
 exact au h (λe h=>.here (v:=true) E (i e).symm h) λ_ h=>.here (v:=false) E (j (aT h).1).symm (aT h).2
omit E in
theorem DI{v w:V}(hv:VS φ v w)(p:plain w=true){l:List V}:∀{m:List V},dS φ l m->Qe v l=true->lG w m=true:=by
 induction l with
 |nil=>exact λ_=>fnt
 |cons a r ih=>
  refine λh k=>h.inv λu m a1 a2=>?_
  show tf (ny u w) true (lG w m)=true
  refine(yx k).elim (λk=>?_) λk=>by rw[ih a2 k];cases ny u w<;>rfl
  have e:=fh k
  subst e
  rw[VS.det a1 hv,pS.1 w p]
  rfl
omit E in
theorem DP{v w:V}(hv:VS φ v w){l:List V}:∀{m:List V},dS φ l m->OI v l=true->lG w m=false:=by
 induction l with
 |nil=>exact λh _=>by cases h.nil;rfl
 |cons a r ih=>
  refine λh k=>h.inv λu m a1 a2=>?_
  show tf (ny u w) true (lG w m)=false
  rw[uo.1 a a1 hv (aT k).1]
  exact ih a2 (aT k).2
omit E in
theorem Ew{a b c:Bool}(x:a=true)(y:b=true)(z:c=true): (a&&b&&c)=true:=by rw[x,y,z];rfl
theorem AN{K:KB}{v w:V}{l m:List V}(hv:VS φ v w)(hl:dS φ l m)(h:td v l x K=true):a7 W ke BQ φ K (QR σ w m):=by
 have h1:=aT h
 have h2:=aT h1.2
 have p:=PP E hv h1.1
 exact .same E h2.2 (Ew p.1 (zF E hl h2.1) (decide_eq_true p.2)) (DI hv p.1 hl) (DP hv hl)
theorem vK{K:α->XS->Bool}{i:Nat}{u:V}{n:List Nat}{k:Option V->Bool}{g:V->R β}{q:List (List Nat × V)->R β}(h:BC x i n k=true)(hu:VS φ (.ref i) u)(z:∀j es,a6 σ j=some (.sd es)->g (.ref j)=q es)
  (kk:∀es o,k o=true->(∀v,o=some v->∃w,ax es n=some w/\VS φ v w)->(o=none->ax es n=none)->a7 W ke P φ K (q es)):a7 W ke P φ K (g u):=by
 refine a8 h aV λo e h=>?_
 cases o with
 |sd es=>
  refine E.atL (G:=λu=>a7 W ke P φ K (g u)) hu e nofun λj o' hj os _ _ _=>WS os λes' y=>?_
  rw[z j es' (y.1▸hj)]
  exact kk es' _ h (SDR.get y.2).1 (SDR.get y.2).2
 |tmp=>
  refine a8 h aV λt et h=>?_
  have h1:=aT h
  refine a8 h1.2 aV λv ev h2=>?_
  obtain⟨b,m,eb,e2⟩:=gG et
  subst eb
  obtain⟨w,hw,y⟩:=W.ent (E.hp b m) (e2.trans (Wq h1.1)) E.gi
  cases y with |mk j es ew hj hz=>
  rw[VS.det hu hw,ew,z j es hj]
  refine kk es (some v) h2 (λv' e=>⟨v',hz n v' (e▸ev),jk.1 _ ?_⟩) λe=>absurd e ad
  have hb: (bH.all λp=>kM p.2)=true:=by rfl
  have hg:∀es:List (List Nat × V),(es.all λp=>kM p.2)=true->ax es n=some v->kM v=true:=λes=>by
   induction es with
   |nil=>exact λ_ e=>absurd e.symm ad
   |cons p r ih=>
    intro a e
    have a:=a0v▸a
    exact au (b:=bp p.1 n) (t:=some p.2) (e:=ax r n) e (λ_ e=>Wn e▸(y6 a).1) λ_ e=>ih (y6 a).2 e
  exact Wn e▸hg _ hb ev
 |_=>exact fnt h
theorem vW{K:KB}{a b u w:V}(ha:VS φ a u)(hb:VS φ b w)(h:Rp a b x K=true):a7 W ke BQ φ K (tW σ u w):=by
 refine .val h hb (λ_=>fnt) (λ_=>fnt) (λl l' hl h=>AN E ha hl h) λi hi h=>?_
 have lst:xL x i (λl=>td a l x K)=true->a7 W ke BQ φ K (tW σ u w):=λh=>E.lst (G:=λw=>a7 W ke BQ φ K (tW σ u w)) hi h λj l l' hj hl _ h=>by
  show a7 W ke BQ φ K (opt (a6 σ j) (Ak σ u) .bad)
  rw[hj]
  exact AN E ha hl h
 cases a with
 |str n=>
  refine au h (λ_=>lst) λ_ h=>?_
  cases ha
  refine vK E (g:=tW σ (.str n)) (q:=λes=>.ok (ax es n).isSome σ) h hi (λj es hj=>congrArg (λo=>opt o (Ak σ (.str n)) .bad) hj) λes o h k1 k2=>?_
  cases o with
  |none=>exact .here (v:=false) E (by rw[k2 rfl];rfl) h
  |some v=>exact WS (k1 v rfl) λw z=>.here (v:=true) E (by rw[z.1];rfl) h
 |_=>exact lst h
omit E in
theorem yN{u w:V}(p:plain u=true):sf σ u w=Sc σ u w:=by cases u<;>first|rfl|exact fnt p
theorem wP{K:KB}{a b u w:V}(ha:VS φ a u)(hb:VS φ b w)(h:Rb a b x K=true):a7 W ke BQ φ K (sf σ u w):=by
 have h:opt (D5 x.t a) (λd=>an (WD d 60) (an (is (D5 x.t b)) (qA (gh a b) (Ff a b) x K))) (cD a (λi=>cD b (λj=>Ph x i j K) false) false)=true:=h
 cases e:D5 x.t a with
 |some d=>
  rw[e]at h
  have h1:=aT h
  have h2:=aT h1.2
  have p:=(nh E).1 a ha e
  rw[yN p.1]
  exact .same E h2.2 (Ew p.1 (Q3 E hb h2.1) (decide_eq_true (Wz (ZK _ _) (Wz p.2 (Wl h1.1))))) (λe=>by
   have e:=fh e
   subst e
   rw[VS.det hb ha]
   exact pS.1 u p.1) (uo.1 a ha hb)
 |none=>
  rw[e]at h
  refine aM h aV λi ei h1=>aM h1 aV λj ej h2=>?_
  subst ei ej
  refine E.lst (G:=λu=>a7 W ke BQ φ K (sf σ u w)) ha h2 λi' l l' hi hl _ h3=>E.lst (G:=λw=>a7 W ke BQ φ K (sf σ (.ref i') w)) hb h3 λj' m m' hj hm _ h4=>?_
  rw[show sf σ (.ref i') (.ref j')=gd (aG l'&&aG m'&&jq (jd l'+1) (jd m'+1)) (.ok (BG l' m') σ)from(d8 hi).trans (d8 hj)]
  have k1:=aT h4
  have k2:=aT k1.2
  have p:=Am E hl k1.1
  exact .same E k2.2 (Ew p.1 (zF E hm k2.1) (decide_eq_true (Wz (ZK _ _) (XV p.2)))) (λe=>by
   have e:=rD e
   subst e
   rw[(pV (LJ φ)).2 _ _ _ hm hl]
   exact pS.2 l' p.1) (uo.2 l hl hm)
theorem pQ{a u:V}(ha:VS φ a u):iM a=iM u:=by
 cases a with
 |ref i=>
  have:=E.nn i u ha
  cases u<;>first|rfl|exact absurd rfl this
 |tup l=>exact VR.tup (P:=λu=>iM (.tup l)=iM u) ha λ_ _=>rfl
 |_=>cases ha;rfl
theorem vo{K:KB}{r:R Bool}(p:a7 W ke BQ φ (IH K) r):a7 W ke BQ φ K (zP r):=a7.bind p λl E e k=>by
 cases e
 exact .here E rfl k
theorem KG{K:KB}{op:Cm}{a b u w:V}(ha:VS φ a u)(hb:VS φ b w)(h:Pn op a b x K=true):a7 W ke BQ φ K (jf op σ u w):=by
 have nrs:∀f,sU f a b x K=true->a7 W ke BQ φ K (yF σ u w f):=λf h=>.int h ha λi h=>.int h hb λj h=>.here E rfl h
 have isn:iM b=true->iM w=true:=λh=>(pQ E hb).symm.trans h
 cases op with
 |eq=>exact wP E ha hb h
 |ne=>exact vo E (wP E ha hb h)
 |in_=>exact vW E ha hb h
 |notin=>exact vo E (vW E ha hb h)
 |is_=>exact .gd h isn λh=>.here E (pQ E ha) h
 |isnot=>exact .gd h isn λh=>.here E (congrArg (!·) (pQ E ha)) h
 |_=>exact nrs _ h
theorem jm{K:KB}{v u:V}(hv:VS φ v u)(h:jI v x K=true):a7 W ke BQ φ K (dW σ u):=by
 cases v with
 |ref i=>exact a7.atL E (g:=dW σ) h hv (λ_=>rfl) λj l l' _ hl _ _ h=>.here E hl.emp h
 |tup l=>exact VR.tup (P:=λu=>a7 W ke BQ φ K (dW σ u)) hv λl' hl=>.gd h (cY hl.ln) λh=>.here E hl.emp h
 |str s=>cases hv;exact .gd h (cY aQ) λh=>.here E (by rw[LS];cases s.isEmpty<;>rfl) h
 |int i=>
  cases hv
  refine .here E (show Qj i=decide (i≠0)from ?_) h
  cases i with
  |ofNat n=>cases n<;>rfl
  |negSucc n=>rfl
 |_=>cases hv;exact .here E rfl h
end
noncomputable def SR(φ:List V)(s t:bA):Prop:=@bA.rec (λ_=>Prop) (λl=>∃l',t=.vals l'/\dS φ l l') (λi k=>∃j,t=.list j k/\VS φ (.ref i) (.ref j)) (λi k=>∃j,t=.rlist j k/\VS φ (.ref i) (.ref j)) s
section
variable{W:Wx}{ke:List Nat->Bool}{α β:Type}{P:List V->α->β->Prop}{φ:List V}{x:XS}{σ:St}
theorem OL{l:List α}{z:Int}:LB l z=FM l z:=by
 cases z with
 |ofNat n=>show tf (Wo n 100000) (nv l n) none=tf (Wo n 100000) l[n]? none;rw[cA]
 |negSucc n=>
  show tf (an (Wo n 100000) (an (Wo n (len l)) (WD (len l) 1000000))) (nv l (len l-(n+1))) none=tf (Wo n 100000&&Wo n l.length&&WD l.length 1000000) l[l.length-(n+1)]? none
  rw[cA,aQ]
  cases Wo n 100000<;>cases Wo n l.length<;>rfl
theorem LC{l l':List V}{z:Int}{v:V}(hl:dS φ l l')(h:LB l z=some v){G:Prop}(k:∀u,FM l' z=some u->VS φ v u->G):G:=by
 cases z with
 |ofNat n=>exact am (b:=Wo n 100000) h ad λq e=>hl.get (cA.symm.trans e) λu e r=>k u (by show tf (Wo n 100000) l'[n]? none=_;rw[q];exact e) r
 |negSucc n=>
  refine am (b:=an (Wo n 100000) (an (Wo n (len l)) (WD (len l) 1000000))) h ad λq e=>?_
  rw[hl.ln]at q e
  refine hl.get (cA.symm.trans e) λu e r=>k u ?_ r
  show tf (Wo n 100000&&Wo n l'.length&&WD l'.length 1000000) l'[l'.length-(n+1)]? none=_
  rw[Ew (aT q).1 (aT (aT q).2).1 (aT (aT q).2).2]
  exact e
variable(E:Emb W φ x σ)
include E
omit E in
theorem VR.con{R:nz}{v u:V}(e:v=u)(s:sj v=true):VR R v u:=by
 subst e
 cases v<;>first|exact rfl|exact fnt s
theorem a7.con{K:KV}{v u:V}(e:v=u)(h:K v x=true)(s:sj v=true:=by rfl):a7 W ke VS φ K (.ok u σ):= .here E (VR.con e s) h
theorem a7.newL{K:KV}{l l':List V}(hl:dS φ l l')(h:lF x (.lst l) K=true):a7 W ke VS φ K (Mine.newL σ l'):= .new E (o:= .lst l) (o':= .lst l') ⟨l',rfl,hl⟩ h
theorem a7.turnL{K:KV}{v b:V}{i j:Nat}{l m l' m':List V}(f:VS φ (.ref i) (.ref j))(e:x.get i=some (.lst l))(e':a6 σ j=some (.lst l'))(h:dS φ m m')(hr:wok i=true)(p:VS φ v b)(k:K v (x.set i (.lst m))=true):a7 W ke VS φ K (.ok b (az σ j (.lst m'))):=
 .turn (n:= .lst m) (n':= .lst m') E f e nofun e' nofun ⟨m',rfl,h⟩ hr p k
omit E in
theorem a7.some{γ:Type}{K:α->XS->Bool}{o:Option γ}{a:γ}{g:γ->R β}(e:o=.some a)(p:a7 W ke P φ K (g a)):a7 W ke P φ K (Mine.opt o g .bad):=by rw[e];exact p
theorem A8{K:KV}{l l':List V}{b w:V}(hl:dS φ l l')(hb:VS φ b w)(h:E4 l b x K=true):a7 W ke VS φ K (BE σ l' w):=
 .int h hb λz h=>a8 h aV λv e h=>LC hl e λu e r=>.ty (.here E r h) (by rw[e];rfl)
theorem vQ{K:KV}{a b u w:V}(ha:VS φ a u)(hb:VS φ b w)(h:AJ a b x K=true):a7 W ke VS φ K (item σ u w):=
 .val h ha (λ_=>fnt) (λs h=>.int h hb λz h=>.opt' h OL λc h=>.con E rfl h) (λl l' hl h=>A8 E hl hb h) λi hi h=>by
  have lst:xL x i (λl=>E4 l b x K)=true->a7 W ke VS φ K (item σ u w):=λh=>E.lst (G:=λu=>a7 W ke VS φ K (item σ u w)) hi h λj l l' hj hl _ h=>by
   show a7 W ke VS φ K (opt (a6 σ j) (λo=>A5 σ o w) .bad)
   rw[hj]
   exact A8 E hl hb h
  cases b with
  |int z=>exact lst h
  |str n=>
   cases hb
   exact vK E (g:=λu=>item σ u (.str n)) (q:=λes=>.of (ax es n) σ) h hi (λj es hj=>congrArg (λo=>opt o (λo=>A5 σ o (.str n)) .bad) hj) λes o h k1 _=>a8 h aV λv e h=>WS (k1 v e) λw z=>.ty (.here E z.2 h) (by rw[z.1];rfl)
  |_=>exact fnt h
theorem En{K:KV}{v u:V}{n:List Nat}(hv:VS φ v u)(h:FW v n x K=true):a7 W ke VS φ K (pB σ u n):=
 .ref h hv λi hi h=>a8 h aV λo eo h=>uN h aV λc d ec h=>by
  subst ec
  refine E.atL (G:=λu=>a7 W ke VS φ K (pB σ u n)) hi eo nofun λj o' hj os _ _ _=>WS os λd' z=>?_
  have e:pB σ (.ref j) n=atD σ d' (λes=>.of (ax es n) σ) .bad:=by
   show QH σ j _ _=_
   unfold QH
   rw[hj,z.1]
   rfl
  rw[e]
  refine a7.atD E (g:=λu=>cD u (λd'=>atD σ d' (λes=>.of (ax es n) σ) .bad) .bad) (u:= .ref d') h z.2 (λ_=>rfl) λk es es' _ hs _ _ h=>a8 h aV λa ea h=>WS (hs.get.1 a ea) λb zb=>.ty (.here E zb.2 h) (by rw[zb.1];rfl)
theorem zc{K:KS}{v u:V}(hv:VS φ v u)(h:Dp v x K=true):a7 W ke SR φ K (kA σ u):=
 .val h hv (λ_=>fnt) (λ_=>fnt) (λl l' hl h=>.here (v:=bA.vals l) E ⟨l',rfl,hl⟩ h) λi hi h=>a7.atL E (g:=kA σ) h hi (λ_=>rfl) λj l l' hj hl _ e h=>.here (v:=bA.list i 0) E ⟨j,rfl,e▸hi⟩ h
inductive Nx(φ:List V)(σ:St)(t:bA)(kn:Bool)(ks:V->bA->Bool):Prop
 |no:t.next σ=some none->kn=true->Nx φ σ t kn ks
 |go (v u:V) (s' t':bA):t.next σ=some (some (u,t'))->VS φ v u->SR φ s' t'->ks v s'=true->Nx φ σ t kn ks
theorem wL{s t:bA}{kn:Bool}{ks:V->bA->Bool}(hs:SR φ s t)(h:rF s x kn ks=true):Nx φ σ t kn ks:=by
 cases s with
 |vals l=>
  obtain⟨l',rfl,hl⟩:=hs
  cases l with
  |nil=>cases hl.nil;exact .no rfl h
  |cons v r=>exact aK.inv (P:=λl'=>Nx φ σ (.vals l') kn ks) hl λu m a b=>.go v u (.vals r) (.vals m) rfl a ⟨m,rfl,b⟩ h
 |list i k=>
  obtain⟨j,rfl,f⟩:=hs
  refine E.lst (G:=λu=>u=.ref j->Nx φ σ (.list j k) kn ks) f h (λj' l l' hj hl _ h e=>?_) rfl
  cases e
  have z:bA.next σ (.list j k)=some (opt l'[k]? (λv=>some (v,.list j (k+1))) none):=d8 hj
  rw[cA]at h
  cases q:l[k]? with
  |none=>rw[q]at h;exact .no (by rw[z,hl.get_none q];rfl) h
  |some v=>rw[q]at h;exact hl.get q λu e r=>.go v u (.list i (k+1)) (.list j (k+1)) (by rw[z,e];rfl) r ⟨j,rfl,f⟩ h
 |rlist i k=>
  obtain⟨j,rfl,f⟩:=hs
  cases k with
  |zero=>exact .no rfl h
  |succ k=>
   refine E.lst (G:=λu=>u=.ref j->Nx φ σ (.rlist j (k+1)) kn ks) f h (λj' l l' hj hl _ h e=>?_) rfl
   cases e
   refine a8 h aV λv q h=>hl.get (cA.symm.trans q) λu e r=>.go v u (.rlist i k) (.rlist j k) ?_ r ⟨j,rfl,f⟩ h
   exact(d8 hj).trans (by rw[e];rfl)
theorem EX{K:KV}{l m l' m':List V}(hl:dS φ l l')(hm:dS φ m m')(h:FI l m x K=true):a7 W ke VS φ K (OZ σ l' m'):=
 .gd h (cY (by rw[hl.ln,hm.ln];rfl)) λh=>.newL E (hl.ap hm) h
theorem MJ{K:KV}{op:Op}{a b u w:V}(ha:VS φ a u)(hb:VS φ b w)(h:yd op a b x K=true):a7 W ke VS φ K (gB op σ u w):=
 .val h ha (λi h=>.int h hb λj h=>.opt h λz h=>.con E rfl h)
  (λs h=>.str h hb λt h=>.gd h id λh=>.gd h (cY (by rw[aQ,aQ];rfl)) λh=>.con E (by rw[c5]) h)
  (λl l' hl h=>.tup h hb λm m' hm h=>.gd h id λh=>.gd h (cY (by rw[hl.ln,hm.ln];rfl)) λh=>.here E (.mkT (hl.ap hm)) h)
  λi hi h=>a7.atL E (g:=λu=>gB op σ u w) h hi (λ_=>rfl) λj l l' _ hl _ _ h=>.val h hb (λn h=>.gd h id λh=>.nat h λn h=>.l1 h hl λy u hy h=>.gd h id λh=>.newL E (.rep hy) h)
   (λ_=>fnt) (λ_ _ _=>fnt) λi hi h=>a7.atL E (g:=OE op σ l') h hi (λ_=>rfl) λ_ m m' _ hm _ _ h=>.gd h id λh=>EX E hl hm h
theorem w4{K:KV}{a b u w:V}(ha:VS φ a u)(hb:VS φ b w)(h:CQ a b x K=true):a7 W ke VS φ K (qa σ u w):=by
 refine au h (λg h=>?_) λ_ h=>?_
 ·refine aM g aV λi ei g1=>a8 g1 aV λt et g2=>?_
  subst ei
  obtain⟨bn,m,eb,e2⟩:=gG et
  have q3:bn.t=3:=e2.trans (Wq g2).symm
  refine aM h aV λj ej h=>?_
  subst ej
  refine E.lst (G:=λw=>a7 W ke VS φ K (qa σ u w)) hb h λj' l l' hj hl _ h=>?_
  have h1:=aT h
  have h2:=aT h1.2
  obtain⟨z,hz,y⟩:=W.grow (E.hp bn m) q3 E.gi (Wl h2.1)
  rw[eb]at hz
  have ez:=VS.det ha hz
  cases y with |mk k m0 ek yk gk fin=>
  have F:=fin l' (by rw[<-hl.ln];exact Wl h1.1)
  have ne:∀{i},¬ Yv i->k≠i:=λn q=>n (q▸yk)
  have E':Emb W φ (x.pay 4) (az σ k (.lst (m0++l'))):=⟨E.len,E.ne,E.nn,λi o e n=>by
   cases E.obj i o e n with |mk j o' a b c d y=>exact⟨j,o',a,(aX (ne y)).trans b,c,d,y⟩,E.mono,λj z=>by rw[ba];exact E.zl j z,E.hp,F.2⟩
  refine .ty (.here E' ha h2.2) ?_
  rw[ez,ek]
  show atL σ k (λx=>atL σ j' (λy=>gd (aU (x.length+y.length)) (.ok (V.ref k) (az σ k (.lst (x++y))))) .bad) .bad=_
  rw[d8 gk,d8 hj,F.1]
  rfl
 ·refine .val h ha (λi h=>.int h hb λj h=>.con E rfl h) (λ_=>fnt) (λ_ _ _=>fnt) λi hi h=>?_
  have h1:=aT h
  refine E.lst (G:=λu=>VS φ (.ref i) u->a7 W ke VS φ K (qa σ u w)) hi h1.2 (λj l l' hj hl gi h hi=>?_) hi
  refine aM h aV λk ek h=>?_
  subst ek
  refine E.lst (G:=λw=>a7 W ke VS φ K (qa σ (.ref j) w)) hb h λk' m m' hk hm _ h=>?_
  rw[show qa σ (.ref j) (.ref k')=gd (aU (l'.length+m'.length)) (.ok (.ref j) (az σ j (.lst (l'++m'))))from(d8 hj).trans (d8 hk)]
  exact .gd h (cY (by rw[hl.ln,hm.ln];rfl)) λh=>.turnL E hi gi hj (hl.ap hm) h1.1 hi h
theorem C3{K:KV}{u u':V}{l h:Option Nat}(hu:VS φ u u')(k:BL u l h x K=true):a7 W ke VS φ K (sliceV σ u' l h):=
 .val k hu (λ_=>fnt) (λ_=>fnt) (λvs vs' hv k=>.gd k (cY hv.ln) λk=>.here E (.mkT (hv.cut l h)) k) λi hi k=>E.lst (G:=λu=>a7 W ke VS φ K (sliceV σ u l h)) hi k λj vs vs' hj hv _ k=>by
  show a7 W ke VS φ K (opt (a6 σ j) (λo=>BB σ o l h) .bad)
  rw[hj]
  exact .newL E (hv.cut l h) k
theorem CS{K:KV}{s:List Nat}{vs us:List V}(hv:dS φ vs us)(h:zy s vs x K=true):a7 W ke VS φ K (l1 us (GE s σ) .bad):=
 .l1 h hv λv u hv h=>.str h hv λt h=>eH h aV λc e h=>by subst e;exact .opt h λk h=>.con E rfl h
theorem Fk{K:KV}{i j:Nat}{n:List Nat}{l l' vs us:List V}(hi:VS φ (.ref i) (.ref j))(gi:x.get i=some (.lst l))(hj:a6 σ j=some (.lst l'))(hl:dS φ l l')(hw:wok i=true)(hv:dS φ vs us)(h:vL i l n vs x K=true):a7 W ke VS φ K (iG σ j l' n us):=by
 have set:∀{m m':List V} {v u:V},dS φ m m'->VS φ v u->qV i v m x K=true->a7 W ke VS φ K (jT σ j u m'):=λ{m m' v u} hm hv k=>.turnL E hi gi hj hm hw hv k
 refine .if h (λh=>.l1 h hv λv u hv h=>.gd h (cY hl.ln) λh=>set (v:= .none) (u:= .none) (hl.ap (.one hv)) rfl h) λh=>.if h (λh=>.l1 h hv λv u hv h=>.ref h hv λk hk h=>a7.atL E (g:=Qm σ j l') h hk (λ_=>rfl) λ_ m m' _ hm _ _ h=>.gd h (cY (by rw[hl.ln,hm.ln];rfl)) λh=>set (v:= .none) (u:= .none) (hl.ap hm) rfl h) λh=>
  .l0 h hv λh=>.if h (λh=>?_) λh=>.gd h id λh=>set (v:= .none) (u:= .none) (qg (l:=l)▸hl.rev) rfl h
 have hr:=hl.rev
 rw[qg]at h
 cases q:l.reverse with
 |nil=>rw[q]at h;exact fnt h
 |cons v r=>
  rw[q]at h hr
  obtain⟨w,m,e,p,s⟩:=hr
  rw[e]
  exact set (qg (l:=r)▸aK.rev s) p h
theorem Fz{K:KV}{b:BI}{vs us:List V}(hv:dS φ vs us)(h:Sb b vs x K=true):a7 W ke VS φ K (builtin b σ us):=by
 cases b with
 |len=>exact .l1 h hv λv u hv h=>.val h hv (λ_=>fnt) (λs h=>.gd h (cY aQ) λh=>.con E (by rw[aQ];rfl) h) (λl l' hl h=>.gd h (cY hl.ln) λh=>.con E (by rw[hl.ln];rfl) h) λi hi h=>a7.atL E (g:=Nq σ) h hi (λ_=>rfl) λ_ l l' _ hl _ _ h=>.con E (by rw[hl.ln];rfl) h
 |max=>
  cases vs with
  |nil=>exact fnt h
  |cons v r=>
   cases r with
   |nil=>exact aK.one_inv (P:=λus=>a7 W ke VS φ K (builtin .max σ us)) hv λu hv=>.ref h hv λi hi h=>a7.atL E (g:=NO σ) h hi (λ_=>rfl) λ_ l l' _ hl _ _ h=>a8 h aV λns e h=>.some (hl.ints e) (by cases ns with |nil=>exact fnt h|cons a r=>exact .con E rfl h)
   |cons w r=>
    cases r with
    |nil=>exact aK.two_inv (P:=λus=>a7 W ke VS φ K (builtin .max σ us)) hv λu z a b=>.int h a λi h=>.int h b λj h=>.con E rfl h
    |cons _ _=>exact fnt h
 |tuple=>exact .l1 h hv λv u hv h=>.ref h hv λi hi h=>a7.atL E (g:=JC σ) h hi (λ_=>rfl) λ_ l l' _ hl _ _ h=>.here E (.mkT hl) h
 |list=>exact .l1 h hv λv u hv h=>.tup h hv λl l' hl h=>.gd h (cY hl.ln) λh=>.newL E hl h
 |sorted=>
  refine .l1 h hv λv u hv h=>.ref h hv λi hi h=>a8 h aV λo eo h=>?_
  cases o with
  |nd ks=>
   refine E.atL (G:=λu=>a7 W ke VS φ K (wE σ u)) hi eo nofun λj o' hj os _ _ _=>?_
   have os:o'=.nd ks:=os
   show a7 W ke VS φ K (opt (a6 σ j) (CE σ) .bad)
   rw[hj,os]
   exact .gd h (λh=>by rw[aQ]at h;exact h) λh=>.newL E .of_ints h
  |sd es=>
   refine E.atL (G:=λu=>a7 W ke VS φ K (wE σ u)) hi eo nofun λj o' hj os _ _ _=>WS os λes' z=>?_
   show a7 W ke VS φ K (opt (a6 σ j) (CE σ) .bad)
   rw[hj,z.1]
   refine iB h aV λe h2=>?_
   subst e
   cases(show es'=[]from z.2)
   exact .newL E (l:=[]) (l':=[]) rfl h2
  |_=>exact fnt h
 |sum=>exact .l1 h hv λv u hv h=>.ref h hv λi hi h=>a7.atL E (g:=Kr σ) h hi (λ_=>rfl) λ_ l l' _ hl _ _ h=>a8 h aV λns e h=>.some (hl.ints e) (.gd h id λh=>.con E rfl h)
 |str=>exact .l1 h hv λv u hv h=>.int h hv λi h=>.nat h λn h=>.gd h id λh=>.con E rfl h
 |_=>exact fnt h
theorem tS{n:Nat}:∀{acc:List V},dS φ acc acc->dS φ (gF n acc) (gF n acc):=by
 induction n with
 |zero=>exact id
 |succ n ih=>exact λh=>ih (.cons (v:= .int _) rfl h)
theorem Pb{K:KS}{b:BI}{vs us:List V}(hv:dS φ vs us)(h:OP b vs x K=true):a7 W ke SR φ K (QI b σ us):=by
 have oth:∀b,re b vs x K=true->a7 W ke SR φ K (qe b σ us):=λb h=>a7.bind (Fz E hv h) λl E a k=>zc E a k
 cases b with
 |range=>exact .l1 h hv λv u hv h=>.int h hv λi h=>.nat h λn h=>.gd h id λh=>.here (v:=bA.vals (gF n [])) E ⟨_,rfl,tS E rfl⟩ h
 |zip=>
  cases vs with
  |nil=>exact fnt h
  |cons v r=>exact aK.inv (P:=λus=>a7 W ke SR φ K (QI .zip σ us)) hv λu m a hm=>.l1 h hm λw z b h=>.tup h a λl l' hl h=>.tup h b λl2 m' hm h=>.ret (v:=bA.vals (nR l l2)) (Le.app φ _) (E.new (o:= .tmp) (o':= .tmp) trivial) ⟨_,rfl,(hl.zip hm).up (Le.app φ _)⟩ h
 |reversed=>exact .l1 h hv λv u hv h=>.val h hv (λ_=>fnt) (λ_=>fnt) (λl l' hl h=>.gd h (cY hl.ln) λh=>.here (v:=bA.vals (rev l)) E ⟨_,rfl,qg (l:=l)▸hl.rev⟩ h) λi hi h=>a7.atL E (g:=JV σ) h hi (λ_=>rfl) λj l l' _ hl _ e h=>.here (v:=bA.rlist i (len l)) E ⟨j,by rw[hl.ln],e▸hi⟩ h
 |_=>exact oth _ h
noncomputable abbrev UQ:List V->Unit->Unit->Prop:=λ_ _ _=>True
theorem z5{k:XS->Bool}{o i v o' i' v':V}(ho:VS φ o o')(hi:VS φ i i')(hv:VS φ v v')(h:JA o i v x k=true):a7 W ke UQ φ (λ_ x=>k x) (KQ σ o' i' v'):=by
 refine .ref h ho λd hd h=>?_
 have h1:=aT h
 refine a8 h1.2 aV λob eo h=>?_
 have main:ob≠.tmp->(∀j o2,a6 σ j=some o2->OS φ ob o2->VS φ (.ref d) (.ref j)->a7 W ke UQ φ (λ_ x=>k x) (KQ σ (.ref j) i' v'))->a7 W ke UQ φ (λ_ x=>k x) (KQ σ o' i' v'):=λn z=>
  E.atL (G:=λu=>a7 W ke UQ φ (λ_ x=>k x) (KQ σ u i' v')) hd eo n λj o2 hj os f _ _=>z j o2 hj os f
 have fin:∀{j:Nat} {o2:O} (n:O) {n':O},a6 σ j=some o2->ob≠.tmp->n≠.tmp->OS φ n n'->VS φ (.ref d) (.ref j)->k (x.set d n)=true->a7 W ke UQ φ (λ_ x=>k x) (.ok () (az σ j n')):=λ_ _ hj nb nn os f h=>.turn (v:=()) E f eo nb hj nn os h1.1 trivial h
 cases ob with
 |sd es=>
  refine main nofun λj o2 hj os f=>WS os λes' z=>?_
  have e:=z.1
  subst e
  refine .some (o:=a6 σ j) hj (.val h hi (λz' h=>iB h aV λe h=>?_) (λm h=>.gd h (cY (SDR.ln z.2)) λh=>fin (.sd (bw es m v)) hj nofun nofun ⟨_,rfl,SDR.set hv z.2⟩ f h) (λ_ _ _=>fnt) λ_ _=>fnt)
  have e':es'=[]:=by have y:=z.2;subst e;exact y
  subst e'
  exact .bool h hv λb h=>.gd h id λh=>fin (.nd [z']) hj nofun nofun rfl f h
 |nd ks=>
  refine main nofun λj o2 hj os f=>?_
  have e:o2=.nd ks:=os
  subst e
  exact .some (o:=a6 σ j) hj (.int h hi λz' h=>.bool h hv λb h=>.gd h id λh=>.gd h (cY aQ) λh=>fin (.nd (tf (ks.contains z') ks (ks++[z']))) hj nofun nofun rfl f h)
 |_=>exact fnt h
end
noncomputable def VO(φ:List V)(v u:Option V):Prop:=opt v (λv=>∃w,u=some w/\VS φ v w) (u=none)
noncomputable def fR(φ:List V)(p q:F):Prop:=vd p (q=.next) (q=.brk) (q=.cont) λv=>∃u,q=.ret u/\VS φ v u
structure FS(φ:List V)(p q:F × Env):Prop where
 e:ES φ p.2 q.2
 f:fR φ p.1 q.1
structure mi(W:Wx)(Γ:bU)(hk:Hk)(ke:List Nat->Bool):Prop where
 f:∀{m f vs x K φ us σ},hk.f m f vs x K=some true->Emb W φ x σ->dS φ vs us->∀n,m+1<=n->a7 W ke VS φ K (callF Γ n f us σ)
 b:∀{m i ρ x K φ ρ' σ},hk.b m i ρ x K=some true->Emb W φ x σ->ES φ ρ ρ'->∀n,m+1<=n->a7 W ke FS φ K (ex Γ (n+1) (.mk i) ρ' σ)
inductive Drawn(W:Wx)(Γ:bU)(φ:List V)(x:XS)(σ:St)(u:V):Prop
 |mk (k:Int) (σ':St): (∀n,30<=n->callF Γ n 89 [u] σ=.ok (.int k) σ')->Emb W φ x σ'->Drawn W Γ φ x σ u
noncomputable def mI(W:Wx)(Γ:bU):Prop:=∀{φ x σ b},Emb W φ x σ->b∈x.t->b.t=0->∃u,φ[b.b]?=some u/\Drawn W Γ φ x σ u
structure IK(W:Wx)(Γ:bU)(hk:Hk)(ke:List Nat->Bool)(m:Nat):Prop where
 ev:∀{n φ x σ ρ ρ' e K},Emb W φ x σ->ES φ ρ ρ'->(xl Γ hk ke m).ev e ρ x K=true->m<=n->a7 W ke VS φ K (ev Γ n e ρ' σ)
 evs:∀{n φ x σ ρ ρ' e K},Emb W φ x σ->ES φ ρ ρ'->(xl Γ hk ke m).evs e ρ x K=true->m<=n->a7 W ke dS φ K (evs Γ n e ρ' σ)
 evO:∀{n φ x σ ρ ρ' e K},Emb W φ x σ->ES φ ρ ρ'->(xl Γ hk ke m).evO e ρ x K=true->m<=n->a7 W ke VO φ K (evO Γ n e ρ' σ)
 evAnd:∀{n φ x σ ρ ρ' e K},Emb W φ x σ->ES φ ρ ρ'->(xl Γ hk ke m).evAnd e ρ x K=true->m<=n->a7 W ke VS φ K (evAnd Γ n e ρ' σ)
 evOr:∀{n φ x σ ρ ρ' e K},Emb W φ x σ->ES φ ρ ρ'->(xl Γ hk ke m).evOr e ρ x K=true->m<=n->a7 W ke VS φ K (evOr Γ n e ρ' σ)
 evIt:∀{n φ x σ ρ ρ' e K},Emb W φ x σ->ES φ ρ ρ'->(xl Γ hk ke m).evIt e ρ x K=true->m<=n->a7 W ke SR φ K (evIt Γ n e ρ' σ)
 tr:∀{n φ x σ ρ ρ' e K},Emb W φ x σ->ES φ ρ ρ'->(xl Γ hk ke m).tr e ρ x K=true->m<=n->a7 W ke BQ φ K (tr Γ n e ρ' σ)
 trAnd:∀{n φ x σ ρ ρ' e K},Emb W φ x σ->ES φ ρ ρ'->(xl Γ hk ke m).trAnd e ρ x K=true->m<=n->a7 W ke BQ φ K (trAnd Γ n e ρ' σ)
 trOr:∀{n φ x σ ρ ρ' e K},Emb W φ x σ->ES φ ρ ρ'->(xl Γ hk ke m).trOr e ρ x K=true->m<=n->a7 W ke BQ φ K (trOr Γ n e ρ' σ)
 comp:∀{n φ x σ ρ ρ' elt p src src' ifs acc acc' K},Emb W φ x σ->ES φ ρ ρ'->SR φ src src'->dS φ acc acc'->(xl Γ hk ke m).comp elt p src ifs ρ x acc K=true->m<=n->a7 W ke dS φ K (comp Γ n elt p src' ifs ρ' σ acc')
 callF:∀{n φ x σ f vs us K},Emb W φ x σ->dS φ vs us->(xl Γ hk ke m).callF f vs x K=true->m<=n->a7 W ke VS φ K (callF Γ n f us σ)
 mb:∀{n φ x σ ρ ρ' i K},Emb W φ x σ->ES φ ρ ρ'->(xl Γ hk ke m).mb i ρ x K=true->m<=n->a7 W ke FS φ K (ex Γ (n+1) (.mk i) ρ' σ)
 ex:∀{n φ x σ ρ ρ' s K},Emb W φ x σ->ES φ ρ ρ'->(xl Γ hk ke m).ex s ρ x K=true->m<=n->a7 W ke FS φ K (ex Γ n s ρ' σ)
 store:∀{n φ x σ ρ ρ' t v u K},Emb W φ x σ->ES φ ρ ρ'->VS φ v u->(xl Γ hk ke m).store t v ρ x K=true->m<=n->a7 W ke FS φ K (store Γ n t u ρ' σ)
 exB:∀{n φ x σ ρ ρ' s K},Emb W φ x σ->ES φ ρ ρ'->(xl Γ hk ke m).exB s ρ x K=true->m<=n->a7 W ke FS φ K (exB Γ n s ρ' σ)
 loopF:∀{n φ x σ ρ ρ' p src src' b K},Emb W φ x σ->ES φ ρ ρ'->SR φ src src'->(xl Γ hk ke m).loopF p src b ρ x K=true->m<=n->a7 W ke FS φ K (loopF Γ n p src' b ρ' σ)
 loopW:∀{n φ x σ ρ ρ' t b K},Emb W φ x σ->ES φ ρ ρ'->(xl Γ hk ke m).loopW t b ρ x K=true->m<=n->a7 W ke FS φ K (loopW Γ n t b ρ' σ)
section
variable{W:Wx}{Γ:bU}{hk:Hk}{ke:List Nat->Bool}{m n:Nat}{φ:List V}{x:XS}{σ:St}{ρ ρ':Env}
theorem Fl{x:XS}{l:List O}{i:Nat}{o:O}(h:x.get i=some o): (x.add l).get i=some o:=by
 revert h
 refine i4 (λi l h=>by rw[XS.lo l]at h ⊢;exact h) (λi h=>?_) i
 rw[XS.hi]at h ⊢
 show a6 (app x.e l) i=_
 rw[c5]
 exact stGet_app h
theorem FS.nx(A:ES φ ρ ρ'):FS φ (.next,ρ) (.next,ρ'):=⟨A,rfl⟩
theorem Bw{K:KF}{d d':Nat}{nm:List Nat}{v u:V}(E:Emb W φ x σ)(A:ES φ ρ ρ')(hd:VS φ (.ref d) (.ref d'))(hv:VS φ v u)(h:Lg d nm v x (λx=>K (.next,ρ) x)=true):a7 W ke FS φ K (PV σ d' nm u ρ'):=
 a7.atD E (g:=λw=>cD w (λd=>PV σ d nm u ρ') .bad) (u:= .ref d') h hd (λ_=>rfl) λj es es' hj hs e ej h=>.gd h (cY (SDR.ln hs)) λh=>.turn (v:=(.next,ρ)) (n:= .sd (bw es nm v)) E (ej▸hd) e nofun hj nofun ⟨_,rfl,SDR.set hv hs⟩ (aT h).1 (.nx A) (aT h).2
theorem stA_ok{K:KF}{w w' v u:V}{nm:List Nat}(E:Emb W φ x σ)(A:ES φ ρ ρ')(hw:VS φ w w')(hv:VS φ v u)(h:xStA w nm v x (λx=>K (.next,ρ) x)=true):a7 W ke FS φ K (OB σ w' nm u ρ'):=by
 refine .ref h hw λi hi h=>a8 h aV λo eo h=>?_
 have main:o≠.tmp->(∀j o2,a6 σ j=some o2->OS φ o o2->VS φ (.ref i) (.ref j)->a7 W ke FS φ K (Tw σ j nm u ρ' o2))->a7 W ke FS φ K (OB σ w' nm u ρ'):=λn z=>
  E.atL (G:=λw=>a7 W ke FS φ K (OB σ w nm u ρ')) hi eo n λj o2 hj os f _ _=>.some (o:=a6 σ j) hj (z j o2 hj os f)
 cases o with
 |inst c d=>exact main nofun λj o2 hj os f=>WS os λd' z=>z.1▸Bw E A z.2 hv h
 |exc d=>
  cases d with
  |some d=>exact main nofun λj o2 hj os f=>WS os λd' z=>z.1▸Bw E A z.2 hv h
  |none=>
   refine main nofun λj o2 hj os f=>?_
   have e:o2=.exc none:=os
   subst e
   have l:=Le.app φ [V.ref σ.length]
   have E1:=E.new (o:= .sd [(nm,v)]) (o':= .sd [(nm,u)]) ⟨_,rfl,.cons (hv.up l) rfl⟩
   exact .ret (v:=(.next,ρ)) l (E1.set (n:= .exc (some x.n)) (n':= .exc (some σ.length)) (l _ _ f) (Fl eo) nofun (stGet_app hj) nofun ⟨_,rfl,E.here⟩ (aT h).1) (.nx (A.up l)) (aT h).2
 |_=>exact fnt h
theorem M5{α:Type}{β:Type}{P:List V->α->β->Prop}{K:α->XS->Bool}{y:Nat}{f:V->Bool}{g:V->R β}(A:ES φ ρ ρ')(h:opt (aa ρ y) f false=true)(k:∀v u,VS φ v u->f v=true->a7 W ke P φ K (g u)):a7 W ke P φ K (opt (aa ρ' y) g .bad):=
 a8 h aV λv e h=>WS (A y v e) λu z=>.some z.1 (k v u z.2 h)
theorem bind_ok{α:Type}{β:Type}{p:P}{P:List V->α->β->Prop}{K:α->XS->Bool}{v u:V}{f:Env->Bool}{g:Env->R β}(hv:VS φ v u)(A:ES φ ρ ρ')(h:opt (aL p v ρ) f false=true)(k:∀η η',ES φ η η'->f η=true->a7 W ke P φ K (g η')):a7 W ke P φ K (opt (aL p u ρ') g .bad):=
 a8 h aV λη e h=>WS (xX.1 p hv A e) λη' z=>.some z.1 (k η η' z.2 h)
theorem rE{α:Type}{β:Type}{P:List V->α->β->Prop}{K:α->XS->Bool}{o o':Option V}{f:Option Nat->Bool}{g:Option Nat->R β}(h:tZ o f=true)(ho:VO φ o o')(k:∀b,f b=true->a7 W ke P φ K (g b)):a7 W ke P φ K (wC o' g):=by
 cases o with
 |none=>cases(show o'=none from ho);exact k _ h
 |some v=>
  refine WS ho λu z=>?_
  rw[z.1]
  exact .int h z.2 λi h=>.nat h λn h=>k _ h
theorem VO.up{ψ:List V}(l:Le φ ψ){v u:Option V}(h:VO φ v u):VO ψ v u:=by
 cases v with
 |none=>exact h
 |some v=>exact Xq (λ_ z=>⟨z.1,z.2.up l⟩) h
theorem SR.up{ψ:List V}(l:Le φ ψ){s t:bA}(h:SR φ s t):SR ψ s t:=by
 cases s with
 |vals _=>exact Xq (λ_ z=>⟨z.1,z.2.up l⟩) h
 |list _ _=>exact Xq (λ_ z=>⟨z.1,l _ _ z.2⟩) h
 |rlist _ _=>exact Xq (λ_ z=>⟨z.1,l _ _ z.2⟩) h
theorem pj{α:Type}{β:Type}{P:List V->α->β->Prop}{K:α->XS->Bool}{p q:F × Env}{kn kb kc:Bool}{kr:V->Bool}{gn gb gc:R β}{gr:V->R β}(z:FS φ p q)(h:vd p.1 kn kb kc kr=true)(fn:p.1=.next->q.1=.next->kn=true->a7 W ke P φ K gn)(fb:p.1=.brk->q.1=.brk->kb=true->a7 W ke P φ K gb)(fc:p.1=.cont->q.1=.cont->kc=true->a7 W ke P φ K gc)
  (fr:∀v u,p.1=.ret v->q.1=.ret u->VS φ v u->kr v=true->a7 W ke P φ K (gr u)):a7 W ke P φ K (vd q.1 gn gb gc gr):=by
 have y:=z.f
 revert y h fn fb fc fr
 cases p.1 with
 |next=>exact λh fn _ _ _ y=>by rw[show q.1=.next from y];exact fn rfl y h
 |brk=>exact λh _ fb _ _ y=>by rw[show q.1=.brk from y];exact fb rfl y h
 |cont=>exact λh _ _ fc _ y=>by rw[show q.1=.cont from y];exact fc rfl y h
 |ret v=>exact λh _ _ _ fr y=>WS y λu w=>by rw[w.1];exact fr v u rfl w.1 w.2 h
end
section
variable{W:Wx}{Γ:bU}{hk:Hk}{ke:List Nat->Bool}{m n:Nat}{φ:List V}{x:XS}{σ:St}{ρ ρ':Env}
theorem AB{op:Op}{a:Mine.E}{k:Nat->Bool}{d r:Bool}{P:Prop}(h:HS op a k d=r)(f:∀y,op=.mod->a=.call 89 [a0F y]->k y=r->P)(g:d=r->P):P:=by
 cases a with
 |call fn es=>
  refine au h (λq h=>?_) λ_=>g
  have q:=aT q
  have e:=Wq q.2
  have eo:op=.mod:=by cases op<;>first|rfl|exact fnt q.1
  cases es with
  |nil=>exact g h
  |cons a r=>
   cases r with
   |cons _ _=>exact g h
   |nil=>
    cases a with
    |loc y=>exact f y eo (by rw[e]) h
    |_=>exact g h
 |_=>exact g h
theorem Ej{k:Nat}(h: 0<uI k): 0<k:=by cases k with |zero=>exact h|succ k=>exact Nat.succ_pos k
theorem E7{k:Nat}{pw:Bool}{a:Int}{K:KV}(E:Emb W φ x σ)(h:FP pw k x K=true):a7 W ke VS φ K (gB .mod σ (.int a) (.int (.ofNat k))):=by
 have pos: 0<k->∃d,d<k/\gB .mod σ (.int a) (.int (.ofNat k))=.ok (.int (.ofNat d)) σ:=λhc=>by
  have c0: (0:Int)<(k:Int):=ZW.mpr hc
  obtain⟨d,hd⟩:=Y5 (Int.fmod_nonneg_of_pos a c0)
  refine⟨d,ZW.mp (hd▸Int.fmod_lt_of_pos a c0),?_⟩
  show opt (tf (decide ((k:Int)≠0)) (some (ZA a k)) none) (λz=>R.ok (V.int z) σ) .bad=_
  rw[decide_eq_true (Int.ne_of_gt c0),hd]
  rfl
 refine au h (λ_ h=>?_) λ_ h=>?_
 ·have nb: 0<uI k:=Wl (aT h).1
  obtain⟨d,hd,ed⟩:=pos (Ej nb)
  obtain⟨ws,w⟩:=W.nb φ nb hd
  refine .ty (.ret (Le.app φ ws) (E.push w.len w.nn w.hp) ?_ (aT h).2) ed
  show(φ++ws)[x.n]?=_
  rw[<-E.len,WQ (WO _),Nat.sub_self]
  exact w.zero
 ·obtain⟨d,hd,ed⟩:=pos (Wl (aT h).1)
  exact .ty (.con E rfl (gw (aT h).2 d hd)) ed
theorem Dy{u:V}{y:Nat}{k:Int}{σ':St}(h:∀n,30<=n->callF Γ n 89 [u] σ=.ok (.int k) σ')(e:aa ρ' y=some u)(hn: 40<=n):Mine.ev Γ n (.call 89 [a0F y]) ρ' σ=.ok (.int k) σ':=by
 obtain⟨i,rfl⟩:∃i,n=i+3:=⟨n-3,by omega⟩
 have e3:evs Γ (i+2) [a0F y] ρ' σ=.ok [u] σ:=by
  show(R.of (aa ρ' y) σ).bind (λv σ=>(evs Γ (i+1) [] ρ' σ).bind λvs σ=>.ok (v::vs) σ)=_
  rw[e]
  rfl
 show(evs Γ (i+2) [a0F y] ρ' σ).bind (λvs σ=>callF Γ (i+2) 89 vs σ)=_
 rw[e3]
 exact h (i+2) (by omega)
theorem JN(S:IK W Γ hk ke m)(hn:m<=n)(E:Emb W φ x σ){c:Nat}{vs us:List V}{K:KV}(hv:dS φ vs us)(h:Py Γ (xl Γ hk ke m) c vs x K=true):
  a7 W ke VS φ K (tf (Wm c 2) .bad (opt Γ.cls[c]? (λk=>(callF Γ n k.init (.ref (σ.length+1)::us) (σ++[.sd [],.inst c σ.length])).bind λr σ'=>FC r (.ok (.ref (σ.length+1)) σ') .bad) .bad)):=by
 refine .if h fnt λh=>.opt' h cA λk h=>?_
 have E1:=E.new (o:= .sd []) (o':= .sd []) ⟨[],rfl,rfl⟩
 have E2:=E1.new (o:= .inst c x.n) (o':= .inst c σ.length) ⟨σ.length,rfl,Le.app _ _ _ _ E.here⟩
 have H:=E1.here
 have l:=(Le.app φ [V.ref σ.length]).trans (Le.app _ [V.ref (σ++[O.sd []]).length])
 have e1: (x.add [.sd []]).add [.inst c x.n]=x.add [.sd [],.inst c x.n]:=by
  unfold XS.add
  rw[c5,c5,c5,Xb]
  rfl
 have e2: (σ++[O.sd []]).length=σ.length+1:=Wu
 rw[e1,e2,Xb σ]at E2
 rw[e2]at H l
 refine .le l (.bind (S.callF E2 (.cons (v:= .ref (WU x.n)) H (hv.up l)) h hn) λl' E' p k'=>?_)
 have e:=e8 (aT k').1 aV λe _=>e
 subst e
 cases p
 exact .here (v:=V.ref (WU x.n)) E' (l' _ _ H) (aT k').2
theorem BK(S:IK W Γ hk ke m)(hn:m<=n)(E:Emb W φ x σ)(A:ES φ ρ ρ'){u u':V}{nm:List Nat}{es:List Mine.E}{K:KV}(hu:VS φ u u')(h:FA Γ (xl Γ hk ke m) u nm es ρ x K=true):a7 W ke VS φ K (mM Γ (lw Γ n) u' nm es ρ' σ):=
 .val h hu (λ_=>fnt) (λs h=>.gd h id λh=>.bind (S.evs E A h hn) λ_ E r h=>CS E r h) (λ_ _ _=>fnt) λi hi h=>a8 h aV λo eo h=>by
  cases o with
  |lst l=>exact E.atL (G:=λu=>a7 W ke VS φ K (mM Γ (lw Γ n) u nm es ρ' σ)) hi eo nofun λj o' hj os f _ _=>WS os λl' z=>.some (o:=a6 σ j) (a:= .lst l') (z.1▸hj) (.gd h id λh=>.bind (S.evs E A h hn) λ{φ' v x' us σ'} l E r h=>
    E.lst (G:=λu=>u=.ref j->a7 W ke VS φ' K (Mine.atL σ' j (λl=>iG σ' j l nm us) .bad)) (VR.up l f) h (λk l2 l3 hk hl e h ej=>by
     cases ej
     rw[d8 hk]
     exact Fk E (VR.up l f) e hk hl (aT h).1 r (aT h).2) rfl)
  |inst c d=>exact E.atL (G:=λu=>a7 W ke VS φ K (mM Γ (lw Γ n) u nm es ρ' σ)) hi eo nofun λj o' hj os f _ _=>WS os λd' z=>.some (o:=a6 σ j) (a:= .inst c d') (z.1▸hj) (.opt' h cA λk h=>.opt h λg h=>
    a7.atD E (g:=λw=>cD w (λd'=>Mine.atD σ d' (λats=>opt (ax ats nm) (λ_=>.bad) ((evs Γ n es ρ' σ).bind λvs σ=>callF Γ n g (.ref j::vs) σ)) .bad) .bad) (u:= .ref d') h z.2 (λ_=>rfl) λ_ ats ats' _ hs _ _ h=>au h (λ_=>fnt) λq h=>by
     have e:ax ats nm=none:=by cases q2:ax ats nm with |none=>rfl|some v=>rw[q2]at q;exact fnt q.symm
     rw[hs.get.2 e]
     exact .bind (S.evs E A h hn) λl E r h=>S.callF E (.cons (v:= .ref i) (VR.up l f) r) h hn)
  |_=>exact fnt h
theorem IM(N:mI W Γ)(S:IK W Γ hk ke m)(hm: (xl Γ hk ke m).m=m)(hn:m<=n){e:Mine.E}{K:KV}(E:Emb W φ x σ)(A:ES φ ρ ρ')(h:Tb Γ (xl Γ hk ke m) e ρ x K=true):a7 W ke VS φ K (ev Γ (n+1) e ρ' σ):=by
 cases e with
 |any=>exact fnt h
 |c v=>exact .here E (VR.con rfl (aT h).1) (aT h).2
 |loc y=>exact M5 A h λv u r h=>.here E r h
 |tup es=>exact .bind (S.evs E A h hn) λ_ E r h=>.here E (.mkT r) h
 |lst es=>exact .bind (S.evs E A h hn) λ_ E r h=>.newL E r h
 |dct ks es=>exact .bind (S.evs E A h hn) λ{_ v _ u _} _ E r h=>.new E (o:= .sd (nD ks v [])) ⟨_,rfl,SDR.zip (es:=[]) (fs:=[]) r rfl⟩ h
 |bin op a b=>
  have plain: ((xl Γ hk ke m).ev a ρ x λu x=>(xl Γ hk ke m).ev b ρ x λv x=>yd op u v x K)=true->a7 W ke VS φ K (ev Γ (n+1) (.bin op a b) ρ' σ):=λh=>.bind (S.ev E A h hn) λl E r h=>.bind (S.ev E (A.up l) h hn) λl E r' h=>MJ E (r.up l) r' h
  have h: (tf (wW op) (⟨λf ρ x K=>HS op a (SH b f ρ x K) (f.ev a ρ x λu x=>f.ev b ρ x λv x=>yd op u v x K)⟩:Bx KE) ⟨λf ρ x K=>f.ev a ρ x λu x=>f.ev b ρ x λv x=>yd op u v x K⟩).go (xl Γ hk ke m) ρ x K=true:=h
  revert h
  cases wW op with
  |false=>exact plain
  |true=>
  intro h
  refine AB h (λy eo ea h=>?_) plain
  subst eo ea
  refine a8 h aV λw ew h=>aM h aV λi ei h=>a8 h aV λt et h=>?_
  have h1:=aT h
  have h2:=aT h1.2
  rw[hm]at h2
  obtain⟨bn,mem,eb,e2⟩:=gG et
  obtain⟨u,hu,r⟩:=A y w ew
  obtain⟨u',f,d⟩:=N E mem (e2.trans (Wq h1.1))
  have f2:VS φ (.ref i) u':=eb▸f
  have eu:u=u':=VS.det (ei▸r) f2
  subst eu
  cases d with |mk a σ₁ c E1=>
  show a7 W ke VS φ K ((ev Γ n (.call 89 [a0F y]) ρ' σ).bind λa σ=>(ev Γ n b ρ' σ).bind λy σ=>gB .mod σ a y)
  rw[Dy c hu (Wz (Wl h2.1) hn)]
  show a7 W ke VS φ K ((ev Γ n b ρ' σ₁).bind λy σ=>gB .mod σ (.int a) y)
  exact .bind (S.ev E1 A h2.2 hn) λ_ E r h=>.int h r λi h=>by
   cases i with
   |ofNat k=>exact E7 E h
   |negSucc _=>exact fnt h
 |neg a=>exact .bind (S.ev E A h hn) λ_ E r h=>.int h r λi h=>.con E rfl h
 |not a=>exact .bind (S.ev E A h hn) λ_ E r h=>.bind (jm (K:=λb x=>K (.bool (!b)) x) E r h) λ_ E q h=>.con E (congrArg (λb=>V.bool (!b)) q) h
 |and es=>exact S.evAnd E A h hn
 |or es=>exact S.evOr E A h hn
 |cmp op a b=>exact .bind (S.ev E A h hn) λl E r h=>.bind (S.ev E (A.up l) h hn) λl E r' h=>.bind (KG (K:=λq x=>K (.bool q) x) E (r.up l) r' h) λ_ E q h=>.con E (congrArg V.bool q) h
 |ite t a b=>exact .bind (S.tr E A h hn) λl E q h=>by cases q;exact .if h (λh=>S.ev E (A.up l) h hn) λh=>S.ev E (A.up l) h hn
 |attr o y=>exact .bind (S.ev E A h hn) λ_ E r h=>En E r h
 |idx a b=>exact .bind (S.ev E A h hn) λl E r h=>.bind (S.ev E (A.up l) h hn) λl E r' h=>vQ E (r.up l) r' h
 |slice a lo hi=>exact .bind (S.ev E A h hn) λl E r h=>.bind (S.evO E (A.up l) h hn) λl2 E r2 h=>.bind (S.evO E (A.up (l.trans l2)) h hn) λl3 E r3 h=>rE h (r2.up l3) λ_ h=>rE h r3 λ_ h=>C3 E ((r.up l2).up l3) h
 |call g es=>exact .bind (S.evs E A h hn) λ_ E r h=>S.callF E r h hn
 |new c es=>exact .bind (S.evs E A h hn) λ_ E r h=>JN S hn E r h
 |meth o y es=>exact .bind (S.ev E A h hn) λl E r h=>BK S hn E (A.up l) r h
 |bi b es=>exact .bind (S.evs E A h hn) λ_ E r h=>Fz E r h
 |isi k a=>
  refine .bind (S.ev E A h hn) λ{φ' v _ u σ'} _ E r h=>?_
  cases v with
  |ref _=>exact fnt h
  |tup l=>exact VR.tup (P:=λu=>a7 W ke VS φ' K (cD u (λ_=>.bad) (.ok (.bool (E8 k u)) σ'))) r λl' _=>by cases k<;>exact .con E rfl h
  |_=>cases r;exact .con E rfl h
 |comp elt p it ifs=>exact .bind (S.evIt E A h hn) λl E r h=>.bind (S.comp E (A.up l) r (acc:=[]) (acc':=[]) rfl h hn) λ_ E r h=>.newL E r h
end
section
variable{W:Wx}{Γ:bU}{hk:Hk}{ke:List Nat->Bool}{m n:Nat}{φ:List V}{x:XS}{σ:St}{ρ ρ':Env}
theorem a7.fl{p q:F}{K:KF}(E:Emb W φ x σ)(A:ES φ ρ ρ')(h:K (p,ρ) x=true)(f:fR φ p q):a7 W ke FS φ K (.ok (q,ρ') σ):= .here E ⟨A,f⟩ h
theorem rQ{p q:F × Env}{K:KF}{k:Env->Bool}{f:Env->R (F × Env)}(E:Emb W φ x σ)(z:FS φ p q)(h:qf p x K k=true)(g:k p.2=true->a7 W ke FS φ K (f q.2)):a7 W ke FS φ K (eS q σ f):=
 pj z h (λ_ _ h=>g h) (λ_ _ h=>.fl E z.e h rfl) (λ_ _ h=>g h) λv u _ _ r h=>.fl E z.e h ⟨u,rfl,r⟩
theorem Fe{p q:F × Env}{K:KF}{k:Env->Bool}{f:Env->R (F × Env)}(E:Emb W φ x σ)(z:FS φ p q)(h:Bj p x K k=true)(g:k p.2=true->a7 W ke FS φ K (f q.2)):a7 W ke FS φ K (bO q σ f):=
 pj z h (λ_ _ h=>g h) (λ_ _ h=>.here E z h) (λ_ _ h=>.here E z h) λ_ _ _ _ _ h=>.here E z h
theorem Mw{p q:F × Env}{K:KV}(E:Emb W φ x σ)(z:FS φ p q)(h:xJ p x K=true):a7 W ke VS φ K (nE q σ):=
 pj z h (λ_ _ h=>.con E rfl h) (λ_ _=>fnt) (λ_ _=>fnt) λv u _ _ r h=>.here E r h
theorem wc{o:Option Bool}{b:Bool}{P:Prop}(h:Qv o b=true)(f:o=some true->P)(g:b=true->P):P:=by
 cases o with
 |none=>exact g h
 |some a=>exact f (congrArg some h)
theorem xq{r u:V}{j:Nat}{K:KF}(E:Emb W φ x σ){i:Nat}(hi:VS φ (.ref i) (.ref j))(hr:VS φ r u)(h:wk ke i r x=true):a7 W ke FS φ K (ql j u σ):=by
 have h1:=aT h
 have e:=e8 h1.1 aV λe _=>e
 subst e
 cases hr
 refine a8 h1.2 aV λo eo h=>CZ h aV λo' ex h=>a8 h aV λd ed h=>?_
 subst ex ed
 have h2:=aT h
 refine E.atL (G:=λu=>u=.ref j->a7 W ke FS φ K (ql j .none σ)) hi eo nofun (λj' o2 hj os f _ _ ej=>WS os λd' z=>?_) rfl
 cases ej
 refine .some (o:=a6 σ j) (a:= .exc (some d')) (z.1▸hj) ?_
 show a7 W ke FS φ K (gd (WD j d') (Mine.atD σ d' (λes=>opt (ax es [107,105,110,100]) (λv=>jv v .exc .bad) .bad) .bad))
 refine E.sd (G:=λu=>u=.ref d'->a7 W ke FS φ K (gd (WD j d') (Mine.atD σ d' (λes=>opt (ax es [107,105,110,100]) (λv=>jv v .exc .bad) .bad) .bad))) (show VS φ (.ref d) (.ref d')from z.2) h2.2 (λk es es' hk hs eg h ek=>?_) rfl
 cases ek
 have lt:WD j d'=true:=Xv ((Nat.lt_or_eq_of_le (Wl h2.1)).elim (λq=>Y0 (E.mono _ _ _ _ _ _ eo nofun eg nofun f z.2 q)) λq=>by
  subst q
  exact nomatch eo.symm.trans eg)
 rw[lt]
 refine a8 h aV λw ew h=>cS h aV λkd ek h=>?_
 subst ek
 refine WS (hs.get.1 _ ew) λu zu=>?_
 cases(show u=.str kd from zu.2)
 refine .some (o:=a6 σ d') hk ?_
 exact .some (o:=ax es' [107,105,110,100]) zu.1 (show a7 W ke FS φ K (.exc kd)from h)
theorem Ir(S:IK W Γ hk ke m)(hn:m<=n){s:Mine.S}{K:KF}(E:Emb W φ x σ)(A:ES φ ρ ρ')(h:SX Γ ke (xl Γ hk ke m) s ρ x K=true)(mk:∀i,s=.mk i->a7 W ke FS φ K (ex Γ (n+1) (.mk i) ρ' σ)):a7 W ke FS φ K (ex Γ (n+1) s ρ' σ):=by
 cases s with
 |any=>exact fnt h
 |try_ _ _ _=>exact fnt h
 |pass=>exact .fl E A h rfl
 |cont=>exact .fl E A h rfl
 |brk=>exact .fl E A h rfl
 |expr e=>exact .bind (S.ev E A h hn) λl E r h=>.fl E (A.up l) h rfl
 |assign t e=>exact .bind (S.ev E A h hn) λl E r h=>S.store E (A.up l) r h hn
 |augN y e=>
  refine a8 h aV λv ev h=>WS (A y v ev) λu z=>?_
  show a7 W ke FS φ K ((R.of (aa ρ' y) σ).bind λa σ=>(Mine.ev Γ n e ρ' σ).bind λb σ=>(qa σ a b).bind λv σ=>.ok (.next,ag ρ' y v) σ)
  rw[z.1]
  exact .bind (r:=Mine.ev Γ n e ρ' σ) (S.ev E A h hn) λl E r h=>.bind (w4 E (z.2.up l) r h) λl2 E r h=>.fl E (ER.set (A.up (l.trans l2)) r) h rfl
 |augS o i e=>exact .bind (S.ev E A h hn) λl E r h=>.bind (S.ev E (A.up l) h hn) λl2 E r2 h=>.bind (vQ E (r.up l2) r2 h) λl3 E r3 h=>.bind (S.ev E (A.up ((l.trans l2).trans l3)) h hn) λl4 E r4 h=>.bind (w4 E (r3.up l4) r4 h) λl5 E r5 h=>.bind (z5 E (r.up (l2.trans (l3.trans (l4.trans l5)))) (r2.up (l3.trans (l4.trans l5))) r5 h) λl6 E _ h=>.fl E (A.up (l.trans (l2.trans (l3.trans (l4.trans (l5.trans l6)))))) h rfl
 |ite t a b=>exact .bind (S.tr E A h hn) λl E q h=>by cases q;exact .if h (λh=>S.exB E (A.up l) h hn) λh=>S.exB E (A.up l) h hn
 |for_ p it b=>exact .bind (S.evIt E A h hn) λl E r h=>S.loopF E (A.up l) r h hn
 |«while» t b=>exact S.loopW E A h hn
 |ret e=>
  cases e with
  |none=>exact .fl E A h ⟨_,rfl,rfl⟩
  |some e=>exact .bind (S.ev E A h hn) λl E r h=>.fl E (A.up l) h ⟨_,rfl,r⟩
 |raise es=>exact .bind (S.evs E A h hn) λl E r h=>.opt' h cA λk h=>.le (Le.app _ _) (.bind (S.callF (E.new (o:= .exc none) (o':= .exc none) rfl) (.cons (v:= .ref _) E.here (r.up (Le.app _ _))) h hn) λl' E' r' h=>xq E' (l' _ _ E.here) r' h)
 |mk i=>exact mk i rfl
theorem zH(N:mI W Γ)(HK:mi W Γ hk ke)(hd:∀(f:Nat) (d:ae),Γ.fns[f]?=some d->fL d.dflts=true)(hm: (xl Γ hk ke m).m=m)(S:IK W Γ hk ke m):IK W Γ hk ke (m+1):=by
 have dn:∀{n} {P:Nat->Prop},m+1<=n->(∀j,m<=j->P (j+1))->P n:=λ{n P} hn k=>by
  cases n with
  |zero=>exact absurd hn (Nat.not_succ_le_zero m)
  |succ j=>exact k j (Nat.le_of_succ_le_succ hn)
 constructor
 ·exact λ{n φ x σ ρ ρ' e K} E A h hn=>dn (P:=λn=>a7 W ke VS φ K (ev Γ n e ρ' σ)) hn λj hj=>IM N S hm hj E A h
 ·exact λ{n φ x σ ρ ρ' e K} E A h hn=>dn (P:=λn=>a7 W ke dS φ K (evs Γ n e ρ' σ)) hn λj hj=>by
   cases e with
   |nil=>exact .here (v:=[]) E rfl h
   |cons a r=>exact .bind (S.ev E A h hj) λl E r h=>.bind (S.evs E (A.up l) h hj) λl2 E r2 h=>.here (v:=_::_) E (.cons (r.up l2) r2) h
 ·exact λ{n φ x σ ρ ρ' e K} E A h hn=>dn (P:=λn=>a7 W ke VO φ K (evO Γ n e ρ' σ)) hn λj hj=>by
   cases e with
   |none=>exact .here (v:=none) E rfl h
   |some a=>exact .bind (S.ev E A h hj) λl E r h=>.here (v:=some _) E ⟨_,rfl,r⟩ h
 ·exact λ{n φ x σ ρ ρ' e K} E A h hn=>dn (P:=λn=>a7 W ke VS φ K (evAnd Γ n e ρ' σ)) hn λj hj=>by
   cases e with
   |nil=>exact fnt h
   |cons a r=>
    cases r with
    |nil=>exact S.ev E A h hj
    |cons c t=>exact .bind (S.ev E A h hj) λl E r h=>.bind (jm (K:=λq x=>tf q ((xl Γ hk ke m).evAnd (c::t) ρ x K) (K _ x)) E r h) λl2 E q h=>by cases q;exact .if h (λh=>S.evAnd E (A.up (l.trans l2)) h hj) λh=>.here E (r.up l2) h
 ·exact λ{n φ x σ ρ ρ' e K} E A h hn=>dn (P:=λn=>a7 W ke VS φ K (evOr Γ n e ρ' σ)) hn λj hj=>by
   cases e with
   |nil=>exact fnt h
   |cons a r=>
    cases r with
    |nil=>exact S.ev E A h hj
    |cons c t=>exact .bind (S.ev E A h hj) λl E r h=>.bind (jm (K:=λq x=>tf q (K _ x) ((xl Γ hk ke m).evOr (c::t) ρ x K)) E r h) λl2 E q h=>by cases q;exact .if h (λh=>.here E (r.up l2) h) λh=>S.evOr E (A.up (l.trans l2)) h hj
 ·exact λ{n φ x σ ρ ρ' e K} E A h hn=>dn (P:=λn=>a7 W ke SR φ K (evIt Γ n e ρ' σ)) hn λj hj=>by
   have oth: ((xl Γ hk ke m).ev e ρ x λv x=>Dp v x K)=true->a7 W ke SR φ K ((ev Γ j e ρ' σ).bind λv σ=>kA σ v):=λh=>.bind (S.ev E A h hj) λl E r h=>zc E r h
   cases e with
   |bi b es=>exact .bind (S.evs E A h hj) λl E r h=>Pb E r h
   |_=>exact oth h
 ·exact λ{n φ x σ ρ ρ' e K} E A h hn=>dn (P:=λn=>a7 W ke BQ φ K (tr Γ n e ρ' σ)) hn λj hj=>by
   have oth: ((xl Γ hk ke m).ev e ρ x λv x=>jI v x K)=true->a7 W ke BQ φ K ((ev Γ j e ρ' σ).bind λv σ=>dW σ v):=λh=>.bind (S.ev E A h hj) λl E r h=>jm E r h
   cases e with
   |not a=>exact .bind (S.tr E A h hj) λl E q h=>.here E (congrArg (!·) q) h
   |and es=>exact S.trAnd E A h hj
   |or es=>exact S.trOr E A h hj
   |ite t a b=>exact .bind (S.tr E A h hj) λl E q h=>by cases q;exact .if h (λh=>S.tr E (A.up l) h hj) λh=>S.tr E (A.up l) h hj
   |_=>exact oth h
 ·exact λ{n φ x σ ρ ρ' e K} E A h hn=>dn (P:=λn=>a7 W ke BQ φ K (trAnd Γ n e ρ' σ)) hn λj hj=>by
   cases e with
   |nil=>exact .here E rfl h
   |cons a r=>exact .bind (S.tr E A h hj) λl E q h=>by cases q;exact .if h (λh=>S.trAnd E (A.up l) h hj) λh=>.here E rfl h
 ·exact λ{n φ x σ ρ ρ' e K} E A h hn=>dn (P:=λn=>a7 W ke BQ φ K (trOr Γ n e ρ' σ)) hn λj hj=>by
   cases e with
   |nil=>exact .here E rfl h
   |cons a r=>exact .bind (S.tr E A h hj) λl E q h=>by cases q;exact .if h (λh=>.here E rfl h) λh=>S.trOr E (A.up l) h hj
 ·refine λ{n φ x σ ρ ρ' elt p src src' ifs acc acc' K} E A hs ha h hn=>dn (P:=λn=>a7 W ke dS φ K (comp Γ n elt p src' ifs ρ' σ acc')) hn λj hj=>?_
  have h:rF src x (K acc x) (λv src'=>opt (aL p v ρ) (λρ'=>(xl Γ hk ke m).trAnd ifs ρ' x λq x=>tf q ((xl Γ hk ke m).ev elt ρ' x λy x=>an (ft (len acc)) ((xl Γ hk ke m).comp elt p src' ifs ρ x (app acc [y]) K)) ((xl Γ hk ke m).comp elt p src' ifs ρ x acc K)) false)=true:=h
  cases wL E hs h with
  |no e h=>exact .some (o:=src'.next σ) e (.here E ha h)
  |go v u s t e r rs h=>
   refine .some (o:=src'.next σ) e (bind_ok r A h λη η' A' h=>.bind (S.trAnd E A' h hj) λl E q h=>?_)
   cases q
   exact .if h (λh=>.bind (S.ev E (A'.up l) h hj) λl2 E y h=>.gd h (cY (ha.ln)) λh=>S.comp E (A.up (l.trans l2)) (rs.up (l.trans l2)) ((ha.up (l.trans l2)).ap (.one y)) h hj) λh=>S.comp E (A.up l) (rs.up l) (ha.up l) h hj
 ·refine λ{n φ x σ f vs us K} E hv h hn=>dn (P:=λn=>a7 W ke VS φ K (callF Γ n f us σ)) hn λj hj=>wc h (λh=>HK.f (m:=(xl Γ hk ke m).m) h E hv _ (by rw[hm];exact XV hj)) λh=>?_
  refine a8 h aV λd ed h=>a8 h aV λη e h=>?_
  have ed:=cA.symm.trans ed
  obtain⟨η',e',A⟩:=zf hv (hd _ _ ed) e
  exact .some (o:=Γ.fns[f]?) ed (.some (o:=bindArgs d.params d.dflts us) e' (.bind (S.exB E A h hj) λl E r h=>Mw E r h))
 ·refine λ{n φ x σ ρ ρ' i K} E A h hn=>dn (P:=λn=>a7 W ke FS φ K (ex Γ (n+1) (.mk i) ρ' σ)) hn λj hj=>wc h (λh=>HK.b (m:=(xl Γ hk ke m).m) h E A _ (by rw[hm];exact XV hj)) λh=>.opt' h cA λb h=>S.exB E A h (X8 hj)
 ·exact λ{n φ x σ ρ ρ' s K} E A h hn=>dn (P:=λn=>a7 W ke FS φ K (ex Γ n s ρ' σ)) hn λj hj=>Ir S hj E A h λi e=>by
   subst e
   exact S.mb E A h hj
 ·exact λ{n φ x σ ρ ρ' t v u K} E A hv h hn=>dn (P:=λn=>a7 W ke FS φ K (store Γ n t u ρ' σ)) hn λj hj=>by
   cases t with
   |pat p=>exact bind_ok hv A h λη η' A' h=>.fl E A' h rfl
   |attr o nm=>exact .bind (S.ev E A h hj) λl E r h=>stA_ok E (A.up l) r (hv.up l) h
   |sub o i=>exact .bind (S.ev E A h hj) λl E r h=>.bind (S.ev E (A.up l) h hj) λl2 E r2 h=>.bind (z5 E (r.up l2) r2 (hv.up (l.trans l2)) h) λl3 E _ h=>.fl E (A.up ((l.trans l2).trans l3)) h rfl
 ·exact λ{n φ x σ ρ ρ' s K} E A h hn=>dn (P:=λn=>a7 W ke FS φ K (exB Γ n s ρ' σ)) hn λj hj=>by
   cases s with
   |nil=>exact .fl E A h rfl
   |cons a r=>exact .bind (S.ex E A h hj) λl E z h=>Fe E z h λh=>S.exB E z.e h hj
 ·refine λ{n φ x σ ρ ρ' p src src' b K} E A hs h hn=>dn (P:=λn=>a7 W ke FS φ K (loopF Γ n p src' b ρ' σ)) hn λj hj=>?_
  have h:rF src x (K (.next,ρ) x) (λv src'=>opt (aL p v ρ) (λρ'=>(xl Γ hk ke m).exB b ρ' x λq x=>qf q x K λρ=>(xl Γ hk ke m).loopF p src' b ρ x K) false)=true:=h
  cases wL E hs h with
  |no e h=>exact .some (o:=src'.next σ) e (.fl E A h rfl)
  |go v u s t e r rs h=>exact .some (o:=src'.next σ) e (bind_ok r A h λη η' A' h=>.bind (S.exB E A' h hj) λl E z h=>rQ E z h λh=>S.loopF E z.e (rs.up l) h hj)
 ·exact λ{n φ x σ ρ ρ' t b K} E A h hn=>dn (P:=λn=>a7 W ke FS φ K (loopW Γ n t b ρ' σ)) hn λj hj=>.bind (S.tr E A h hj) λl E q h=>by
   cases q
   exact .if h (λh=>.bind (S.exB E (A.up l) h hj) λl2 E z h=>rQ E z h λh=>S.loopW E z.e h hj) λh=>.fl E (A.up l) h rfl
theorem RJ: (xl Γ hk ke m).m=m:=by
 induction m with
 |zero=>rfl
 |succ m ih=>exact congrArg WU ih
theorem Tz(N:mI W Γ)(HK:mi W Γ hk ke)(hd:∀(f:Nat) (d:ae),Γ.fns[f]?=some d->fL d.dflts=true)(m:Nat):IK W Γ hk ke m:=by
 induction m with
 |zero=>exact⟨λ_ _=>fnt,λ_ _=>fnt,λ_ _=>fnt,λ_ _=>fnt,λ_ _=>fnt,λ_ _=>fnt,λ_ _=>fnt,λ_ _=>fnt,λ_ _=>fnt,λ_ _ _ _=>fnt,λ_ _=>fnt,λ_ _=>fnt,λ_ _=>fnt,λ_ _ _=>fnt,λ_ _=>fnt,λ_ _ _=>fnt,λ_ _=>fnt⟩
 |succ m ih=>exact zH N HK hd RJ ih
end
structure Pr where
 subs:List Nat
 tm:List V
structure Gr where
 ar:Nat->Nat
 dB:Nat->Nat
 np:Nat->Nat
 pr:Nat->Nat->Pr
mutual
inductive ur(G:Gr):Nat->List V->Prop
 |mk {t p:Nat} {ws vs:List V}:p<G.np t->Dens G (G.pr t p).subs ws->dS ws (G.pr t p).tm vs->vs.length=G.ar t->tD vs (G.dB t)->(∀v∈vs,v≠.none)->ur G t vs
 |any {w:V}:Pd w (G.dB 9)->w≠.none->ur G 9 [w]
inductive Dens(G:Gr):List Nat->List V->Prop
 |nil:Dens G [] []
 |cons {t:Nat} {vs ws:List V} {ts:List Nat}: 9<=t->ur G t vs->Dens G ts ws->Dens G (t::ts) (vs++ws)
end
section
variable{G:Gr}{t:Nat}{vs:List V}
theorem ur.pd(d:ur G t vs):tD vs (G.dB t):=by
 cases d with
 |mk _ _ _ _ p _=>exact p
 |any p _=>exact tD.cons p (b:=0) ⟨rfl,WO _⟩ (WO _) (Xu _)
theorem ur.inv(d:ur G t vs)(n:t≠9){P:Prop}(k:∀p ws,p<G.np t->Dens G (G.pr t p).subs ws->dS ws (G.pr t p).tm vs->P):P:=by
 cases d with
 |mk a b c _ _ _=>exact k _ _ a b c
 |any _ _=>exact absurd rfl n
theorem ur.nn(d:ur G t vs):∀v∈vs,v≠.none:=by
 cases d with
 |mk _ _ _ _ _ n=>exact n
 |any _ n=>exact λv h=>WF.mp h▸n
theorem ur.len(a9:G.ar 9=1)(d:ur G t vs):vs.length=G.ar t:=by
 cases d with
 |mk _ _ _ l _ _=>exact l
 |any _ _=>exact a9.symm
end
noncomputable def TY(φ:List V)(b:Nat)(vs:List V):Prop:=∀j v,vs[j]?=some v->φ[b+j]?=some v
inductive Data(G:Gr)(φ:List V)(b:Bn):Prop
 |mk (vs:List V):ur G b.t vs->vs.length=b.a->b.d=G.dB b.t->TY φ b.b vs->Data G φ b
structure tz(G:Gr)(dr en:Bool)(φ:List V)(b:Bn):Prop where
 row:b.t=0->dr=true/\φ[b.b]?=some (.ref 3)
 world:b.t=1->∀i,i<44->φ[i]?=some (.ref i)
 reads:b.t=3->dr=true/\φ[b.b]?=some (.ref 43)
 ent:b.t=5->en=true/\φ[b.b]?=some (.ref 18)
 none:b.t<9->b.a=0
 data: 9<=b.t->Data G φ b
theorem tz.up{G:Gr}{dr en:Bool}{φ ψ:List V}{b:Bn}(l:Le φ ψ)(h:tz G dr en φ b):tz G dr en ψ b:=⟨λt=>⟨(h.row t).1,l _ _ (h.row t).2⟩,λt i hi=>l _ _ (h.world t i hi),λt=>⟨(h.reads t).1,l _ _ (h.reads t).2⟩,λt=>⟨(h.ent t).1,l _ _ (h.ent t).2⟩,h.none,
 λt=>by cases h.data t with |mk vs a b c d=>exact⟨vs,a,b,c,λj v e=>l _ _ (d j v e)⟩⟩
theorem tz.of{G:Gr}{dr en:Bool}{φ:List V}{b:Bn}(t: 9<=b.t)(d:Data G φ b):tz G dr en φ b:=
 have no:∀{k:Nat} {P:Prop},k<9->b.t=k->P:=λl e=>absurd (e▸t) (Yy l)
 ⟨no (by decide),no (by decide),no (by decide),no (by decide),λl=>absurd t (Yy l),λ_=>d⟩
theorem tz.base{G:Gr}{dr en:Bool}{φ:List V}(hb:∀i,i<44->φ[i]?=some (.ref i)):tz G dr en φ ⟨0,1,0,0⟩:=⟨nofun,λ_=>hb,nofun,nofun,λ_=>rfl,λz=>absurd z (by decide)⟩
noncomputable def kB(σ:St):Prop:=∃L:List Int,a6 σ 3=some (.lst (L.map .int))/\(∀x∈L,0<=x/\x<1024)/\L.length<=160
noncomputable def lC(B c:Nat)(σ:St):Prop:=∃l,a6 σ 43=some (.lst l)/\l.length+c<=B/\B<=90000
noncomputable def ky(σ:St):Prop:=∃es,a6 σ 18=some (.sd es)/\∀n v,ax bH n=some v->ax es n=some v
noncomputable def fq(j:Nat):Prop:=j<44/\j≠12/\j≠18
noncomputable def PG(σ:St):Prop:=∀i o,a6 cE i=some o->o≠.tmp->a6 σ i=some o
structure TR(Z:Nat->Prop)(σ₀:St)(B:Nat)(dr en:Bool)(c:Nat)(σ:St):Prop where
 len:σ₀.length<=σ.length
 fr:∀j,Z j->(dr=true->¬ Yv j)->a6 σ j=a6 σ₀ j
 wr:PG σ
 row:dr=true->kB σ
 reads:dr=true->lC B c σ
 ent:en=true->ky σ
structure tF(Z:Nat->Prop)(σ₀:St)(en:Bool):Prop where
 big: 44<=σ₀.length
 lt:∀j,Z j->j<σ₀.length
 st:∀j,fq j->Z j
 en:en=true->Z 18
theorem jA:cE.length=44:=rfl
theorem cj:a6 cE 3=some .tmp/\a6 cE 12=some .tmp/\a6 cE 18=some .tmp/\a6 cE 43=some .tmp:=⟨rfl,rfl,rfl,rfl⟩
theorem cG{i:Nat}{o:O}(e:a6 cE i=some o)(n:o≠.tmp):fq i/\i≠3/\i≠43:=by
 have no:∀{k},a6 cE k=some .tmp->i≠k:=λh q=>n (Wn ((q▸e).symm.trans h))
 exact⟨⟨jA▸bK e,no cj.2.1,no cj.2.2.1⟩,no cj.1,no cj.2.2.2⟩
theorem Nc{vs:List V}:∀{j d:Nat} {v:V},tD vs d->vs[j]?=some v->Pd v d:=by
 induction vs with
 |nil=>exact λ_ e=>absurd e.symm ad
 |cons a r ih=>
  intro j d v h e
  cases j with
  |zero=>exact Wn e▸⟨(tD.inv h.1).1,Wz (Nat.le_max_left _ _) h.2⟩
  |succ j=>exact ih ⟨(tD.inv h.1).2,Wz (Nat.le_max_right _ _) h.2⟩ e
inductive Qb(G:Gr)(k j:Nat):Prop
 |mk (ws:List V):ur G (uI k) ws->ws.length=6->ws[0]?=some (.int (.ofNat j))->(∀w∈ws,w≠.none)->Qb G k j
structure mW(G:Gr):Prop where
 a9:G.ar 9=1
 nb:∀{k j:Nat},0<uI k->j<k->Qb G k j
 d:∀{k},0<uI k->G.dB (uI k)=0
theorem jO{k:Nat}{P:Nat->Nat->Prop}(a:P 2 11)(b:P 4 12)(c:P 8 13)(d:P 16 14)(e:P 32 15)(h: 0<uI k):P k (uI k):=by
 have one:∀{n t z:Nat},P n t->(Wm k n=false->0<z->P k z)->0<tf (Wm k n) t z->P k (tf (Wm k n) t z):=λ{n t z} p g h=>by
  cases q:Wm k n with
  |true=>cases Wq q;exact p
  |false=>rw[q]at h;exact g q h
 exact one a (λ_=>one b λ_=>one c λ_=>one d λ_=>one e λ_ h=>absurd h (a0t 0)) h
noncomputable def Wf(G:Gr)(NG:mW G)(Z:Nat->Prop)(σ₀:St)(B:Nat)(dr en:Bool)(oz:tF Z σ₀ en):Wx where
 Z:=Z
 HP:=tz G dr en
 GI:=TR Z σ₀ B dr en
 up:=tz.up
 dat:=λ{φ b i u} h l1 l2 e=>(Xl b.t 9).elim (λt=>by rw[h.none t]at l2;omega) λt=>by
  cases h.data t with |mk vs dn hl hd at_=>
  obtain⟨j,rfl⟩:=WM l1
  have hj:j<vs.length:=by omega
  cases(at_ j _ (Wt hj)).symm.trans e
  exact hd▸Nc dn.pd (Wt hj)
 nb:=λ{k j} φ h hj=>by
  cases NG.nb h hj with |mk ws d hl h0 nn=>
  refine⟨ws,hl,h0,nn,.of (jO (P:=λ_ t=>9<=t) (by decide) (by decide) (by decide) (by decide) (by decide) h) ⟨ws,d,hl,(NG.d h).symm,λj v e=>?_⟩⟩
  rw[WQ (WC _ _),WH]
  exact e
 same:=λ{c σ σ'} g y=>by
  have st:∀j,fq j->a6 σ' j=a6 σ j:=λj h=>y.get j (oz.st j h)
  have e3:=st 3 ⟨by decide,by decide,by decide⟩
  have e43:=st 43 ⟨by decide,by decide,by decide⟩
  refine⟨Wz g.len y.len,λj z d=>(y.get j z).trans (g.fr j z d),λi o e n=>(st i (cG e n).1).trans (g.wr i o e n),λd=>?_,λd=>?_,λd=>?_⟩
  ·unfold kB;rw[e3];exact g.row d
  ·unfold lC;rw[e43];exact g.reads d
  ·unfold ky;rw[y.get 18 (oz.en d)];exact g.ent d
 grow:=λ{φ b c σ} h t g hc=>by
  obtain⟨hd,e⟩:=h.reads t
  obtain⟨l,el,hl,hB⟩:=g.reads hd
  refine⟨_,e,⟨43,l,rfl,.inr rfl,el,λm hm=>⟨decide_eq_true (by omega),?_⟩⟩⟩
  have ne:∀{j},j≠43->a6 (az σ 43 (.lst (l++m))) j=a6 σ j:=λh=>aX (YQ h)
  refine⟨by rw[ba];exact g.len,λj z d=>(ne λq=>d hd (.inr q)).trans (g.fr j z d),λi o e n=>(ne (cG e n).2.2).trans (g.wr i o e n),λd=>?_,λd=>⟨_,dK el,by rw[Wu];omega,hB⟩,λd=>?_⟩
  ·unfold kB;rw[ne (by decide)];exact g.row d
  ·unfold ky;rw[ne (by decide)];exact g.ent d
 ent:=λh t g=>by
  obtain⟨hd,e⟩:=h.ent t
  obtain⟨es,g1,g2⟩:=g.ent hd
  exact⟨_,e,⟨18,es,rfl,g1,g2⟩⟩
noncomputable section
noncomputable def jt(θ:Nat->V)(v:V):V:=@V.rec (λ_=>V) (λ_=>List V) .none .bool .int .str (λ_ l=>.tup l) θ [] (λ_ _ a l=>a::l) v
noncomputable def iq(θ:Nat->V)(l:List V):List V:=@V.rec_1 (λ_=>V) (λ_=>List V) .none .bool .int .str (λ_ l=>.tup l) θ [] (λ_ _ a l=>a::l) l
noncomputable def C4(θ:Nat->V)(l:List (List Nat × V)):List (List Nat × V):=@WB (List Nat × V) (λ_=>List (List Nat × V)) [] (λp _ ih=>(p.1,jt θ p.2)::ih) l
noncomputable def eR(θ:Nat->V)(o:O):O:=@O.rec (λ_=>O) (λl=>.lst (iq θ l)) (λc d=>cD (θ d) (λd'=>.inst c d') .tmp) (λes=>.sd (C4 θ es)) (λks=>.nd ks) (λ_=>.tmp) (λ_=>.tmp) .tmp o
noncomputable def bk(o:O):Bool:=oO o (λ_=>false) (λ_ _=>false) (λ_=>false) (λ_=>false) (λ_=>false) (λ_=>false) true
noncomputable def oN(o:O)(k:List Int->Bool):Bool:=oO o (λ_=>false) (λ_ _=>false) (λ_=>false) k (λ_=>false) (λ_=>false) false
noncomputable def QB(θ:Nat->V)(v:V):V->Bool:=@V.rec (λ_=>V->Bool) (λ_=>List V->Bool) iM (λa u=>rv u (xU a) false) (λa u=>fp u (v6 a) false) (λa u=>jv u (bp a) false) (λ_ ih u=>ko u ih false) (λi u=>gh (θ i) u)
 emp (λ_ _ f g l=>lc l false λb r=>an (f b) (g r)) v
noncomputable def M2(θ:Nat->V)(l:List V):List V->Bool:=@V.rec_1 (λ_=>V->Bool) (λ_=>List V->Bool) iM (λa u=>rv u (xU a) false) (λa u=>fp u (v6 a) false) (λa u=>jv u (bp a) false) (λ_ ih u=>ko u ih false) (λi u=>gh (θ i) u)
 emp (λ_ _ f g l=>lc l false λb r=>an (f b) (g r)) l
noncomputable def TV(θ:Nat->V)(l:List (List Nat × V)):List (List Nat × V)->Bool:=@WB (List Nat × V) (λ_=>List (List Nat × V)->Bool) emp (λp _ ih l=>lc l false λq r=>an (bp p.1 q.1) (an (QB θ p.2 q.2) (ih r))) l
noncomputable def FQ(l:List Int):List Int->Bool:=@WB Int (λ_=>List Int->Bool) emp (λp _ ih l=>lc l false λq r=>an (v6 p q) (ih r)) l
noncomputable def Av(θ:Nat->V)(o o':O):Bool:=oO o (λl=>oL o' (M2 θ l) false) (λc d=>oC o' (λc' d'=>an (Wm c c') (gh (θ d) (.ref d'))) false) (λl=>oD o' (TV θ l) false) (λl=>oN o' (FQ l)) (λ_=>false) (λ_=>false) false
noncomputable def dA(n:Nat)(th:List V)(i:Nat):V:=tf (Wo i 44) (.ref i) (opt (nv th (WP i 44)) (λv=>v) (.ref n))
noncomputable def Kp(n:Nat)(ws:List V)(i:Nat):V:=opt (nv ws i) (λv=>v) (.ref n)
inductive Ct where
 |h (i:Nat)
 |p (k:Nat) (cs:List Ct)
 |v (u:V)
noncomputable def ng(n k:Nat):List V:=@XI (λ_=>Nat->List V) (λ_=>[]) (λ_ ih n=>.ref n::ih (WU n)) k n
noncomputable def PB(vs:List V):Bool:=@WB V (λ_=>Bool) true (λv _ ih=>an (no (iM v)) ih) vs
noncomputable def AM(n:Nat)(v:V):Bool:=@V.rec (λ_=>Bool) (λ_=>Bool) true (λ_=>true) (λ_=>true) (λ_=>true) (λ_ b=>b) (λi=>Wo i n) true (λ_ _ a b=>an a b) v
noncomputable def tq(n:Nat)(l:List V):Bool:=@V.rec_1 (λ_=>Bool) (λ_=>Bool) true (λ_=>true) (λ_=>true) (λ_=>true) (λ_ b=>b) (λi=>Wo i n) true (λ_ _ a b=>an a b) l
variable(G:Gr)
noncomputable def yC(x:XS)(t:Nat)(vs:List V):Bool:=an (Wm (len vs) (G.ar t)) (an (tq x.n vs) (an (PB vs) (AA (G.dB t) (pY x.t vs))))
noncomputable def TX(x:XS)(c:Ct):Nat->(List V->Bool)->Bool:=@Ct.rec (λ_=>Nat->(List V->Bool)->Bool) (λ_=>List Nat->(List V->Bool)->Bool)
 (λi t k=>an (WD 9 t) (opt (x.ty i) (λt'=>an (Wm t t') (k (ng i (G.ar t)))) false))
 (λp _ ih t k=>an (Wo p (G.np t)) (ih (G.pr t p).subs λws=>an (yC G x t (iq (Kp x.n ws) (G.pr t p).tm)) (k (iq (Kp x.n ws) (G.pr t p).tm))))
 (λu t k=>an (Wm t 9) (an (yC G x 9 [u]) (k [u])))
 (λts k=>lc ts (k []) λ_ _=>false)
 (λ_ _ f g ts k=>lc ts false λt r=>an (WD 9 t) (f t λvs=>g r λws=>k (app vs ws))) c
noncomputable def QV(x:XS)(cs:List Ct):List Nat->(List V->Bool)->Bool:=@Ct.rec_1 (λ_=>Nat->(List V->Bool)->Bool) (λ_=>List Nat->(List V->Bool)->Bool)
 (λi t k=>an (WD 9 t) (opt (x.ty i) (λt'=>an (Wm t t') (k (ng i (G.ar t)))) false))
 (λp _ ih t k=>an (Wo p (G.np t)) (ih (G.pr t p).subs λws=>an (yC G x t (iq (Kp x.n ws) (G.pr t p).tm)) (k (iq (Kp x.n ws) (G.pr t p).tm))))
 (λu t k=>an (Wm t 9) (an (yC G x 9 [u]) (k [u])))
 (λts k=>lc ts (k []) λ_ _=>false)
 (λ_ _ f g ts k=>lc ts false λt r=>an (WD 9 t) (f t λvs=>g r λws=>k (app vs ws))) cs
structure Pt where
 o12:O
 o18:O
 ext:List O
 t:List Bn
 c:Nat
 dr:Bool
 en:Bool
noncomputable def Pt.x(p:Pt):XS:=⟨p.o12,p.o18,p.ext,WW 44 (len p.ext),⟨0,1,0,0⟩::p.t,p.c⟩
noncomputable def vV(x:XS)(θ:Nat->V)(k:Nat)(o:O):Bool:=or (bk o) (xO x k (Av θ o))
noncomputable def TA(x:XS)(θ:Nat->V)(os:List O):Nat->List V->Bool:=@WB O (λ_=>Nat->List V->Bool) (λ_=>emp) (λo _ ih l th=>lc th false λv th=>an (AM x.n v) (an (no (iM v))
 (tf (bk o) (ih l th) (cD v (λi=>an (Wo l i) (xO x i λo'=>an (Av θ o o') (ih i th))) false)))) os
noncomputable def PZ(b:List (List Nat × V)):List (List Nat × V)->Bool:=@WB (List Nat × V) (λ_=>List (List Nat × V)->Bool) (λ_=>true) (λp _ ih l=>lc l false λq s=>an (bp p.1 q.1) (an (gh p.2 q.2) (ih s))) b
noncomputable def v8(x:XS)(i t:Nat):Bool:=opt (x.ty i) (Wm t) false
noncomputable def CU(x:XS):Bool:=or (v8 x 18 5) (xD x 18 (PZ bH))
noncomputable def OD(l:List V):List V->Bool:=@WB V (λ_=>List V->Bool) (λ_=>true) (λv _ ih l=>lc l false λu s=>an (gh v u) (ih s)) l
noncomputable def Ob{α:Type}(n:Nat):List α->List α:=@XI (λ_=>List α->List α) (λl=>l) (λ_ ih l=>lc l [] λ_ r=>ih r) n
noncomputable def QJ(x:XS)(dr en:Bool)(th:List V)(bs:List Bn):List Ct->Bool:=@WB Bn (λ_=>List Ct->Bool) emp (λb _ ih cs=>tf (WD 9 b.t)
 (lc cs false λc cs=>an (WD 44 b.b) (an (Wm b.a (G.ar b.t)) (an (Wm b.d (G.dB b.t)) (TX G x c b.t λvs=>an (OD vs (Ob (WP b.b 44) th)) (ih cs)))))
 (an (Wm b.a 0) (an (or (Wm b.t 2) (tf (Wm b.t 5) (an en (an (Wm b.b 18) (CU x))) (an dr (an (Wo b.b 44) (v8 x b.b b.t))))) (ih cs)))) bs
noncomputable def mt(x:XS)(p:Pt)(th:List V)(cs:List Ct):Bool:=an (v8 x 0 1) (an (vV x (dA x.n th) 12 p.o12) (an (vV x (dA x.n th) 18 p.o18) (an (TA x (dA x.n th) p.ext 43 th) (QJ G x p.dr p.en th p.t cs))))
end
section
variable{R S:nz}{θ:Nat->V}
theorem AD(l:∀i u,R i u↔VR S (θ i) u): (∀v u,VR R v u↔VR S (jt θ v) u)/\∀v u,aK R v u↔aK S (iq θ v) u:=
 V.ind (λ_=>.rfl) (λ_ _=>.rfl) (λ_ _=>.rfl) (λ_ _=>.rfl) (λl ih _=>⟨λh=>h.tup λ_ h=>.mkT ((ih _).mp h),λh=>VR.tup (P:=VR R (.tup l)) (l:=iq θ l) h λ_ h=>.mkT ((ih _).mpr h)⟩) (λi u=>l i u) (λ_=>.rfl)
  λv r f g _=>⟨λh=>h.inv λ_ _ a b=>.cons ((f _).mp a) ((g _).mp b),λh=>aK.inv (P:=aK R (v::r)) (a:=jt θ v) (l:=iq θ r) h λ_ _ a b=>.cons ((f _).mpr a) ((g _).mpr b)⟩
theorem VR.sub(l:∀i u,R i u↔VR S (θ i) u){v u:V}:VR R v u↔VR S (jt θ v) u:=(AD l).1 v u
theorem aK.sub(l:∀i u,R i u↔VR S (θ i) u){v u:List V}:aK R v u↔aK S (iq θ v) u:=(AD l).2 v u
theorem SDR.sub(l:∀i u,R i u↔VR S (θ i) u){v:List (List Nat × V)}:∀{u:List (List Nat × V)},SDR R v u↔SDR S (C4 θ v) u:=by
 induction v with
 |nil=>exact .rfl
 |cons p r ih=>exact⟨λh=>h.inv λ_ _ a b=>.cons ((VR.sub l).mp a) (ih.mp b),λh=>SDR.inv (P:=SDR R (p::r)) (a:=(p.1,jt θ p.2)) (l:=C4 θ r) h λ_ _ a b=>SDR.cons (n:=p.1) (v:=p.2) ((VR.sub l).mpr a) (ih.mpr b)⟩
theorem OR.sub(l:∀i u,R i u↔VR S (θ i) u){o o':O}(n:eR θ o≠.tmp):OR R o o'↔OR S (eR θ o) o':=by
 cases o with
 |lst v=>exact⟨Xq λ_ z=>⟨z.1,(aK.sub l).mp z.2⟩,Xq λ_ z=>⟨z.1,(aK.sub l).mpr z.2⟩⟩
 |sd v=>exact⟨Xq λ_ z=>⟨z.1,(SDR.sub l).mp z.2⟩,Xq λ_ z=>⟨z.1,(SDR.sub l).mpr z.2⟩⟩
 |nd v=>exact .rfl
 |inst c d=>
  have z:eR θ (.inst c d)=cD (θ d) (λd'=>.inst c d') .tmp:=rfl
  rw[z]at n ⊢
  have l:=l d
  cases q:θ d with
  |ref d2=>
   rw[q]at l
   exact⟨Xq λ_ z=>⟨z.1,(l _).mp z.2⟩,Xq λ_ z=>⟨z.1,(l _).mpr z.2⟩⟩
  |_=>rw[q]at n;exact absurd rfl n
 |_=>exact absurd rfl n
theorem sN: (∀v u,QB θ v u=true->jt θ v=u)/\∀v u,M2 θ v u=true->iq θ v=u:=
 V.ind (λ_ h=>e8 h aV λe _=>e.symm) (λa _ h=>ji h aV λb e h=>(congrArg V.bool (l8 h)).trans e.symm) (λa _ h=>aR h aV λb e h=>(congrArg V.int (lE h)).trans e.symm) (λa _ h=>cS h aV λb e h=>(congrArg V.str (eqN_eq h)).trans e.symm)
  (λa ih _ h=>cy h aV λb e h=>(congrArg V.tup (ih b h)).trans e.symm) (λi _ h=>fh h) (λ_ h=>(gS h).symm)
  λa x f g b h=>by cases b with |nil=>exact fnt h|cons b y=>exact congr (a₁:=iq θ x) (congrArg Zi (f b (aT h).1)) (g y (aT h).2)
theorem HD{a:List (List Nat × V)}:∀{b:List (List Nat × V)},TV θ a b=true->C4 θ a=b:=by
 induction a with
 |nil=>exact λh=>(gS h).symm
 |cons p a ih=>
  intro b h
  cases b with
  |nil=>exact fnt h
  |cons q b=>exact congr (a₁:=C4 θ a) (congrArg Zi (Prod.ext (x:=(p.1,jt θ p.2)) (y:=q) (eqN_eq (aT h).1) (sN.1 _ _ (aT (aT h).2).1))) (ih (aT (aT h).2).2)
theorem AH{a:List Int}:∀{b:List Int},FQ a b=true->a=b:=by
 induction a with
 |nil=>exact λh=>(gS h).symm
 |cons p a ih=>
  intro b h
  cases b with
  |nil=>exact fnt h
  |cons q b=>exact congr (congrArg Zi (lE (aT h).1)) (ih (aT h).2)
theorem CX{o o':O}(h:Av θ o o'=true):eR θ o=o'/\o'≠.tmp:=by
 cases o with
 |lst l=>exact v7 h aV λm e h=>⟨(congrArg O.lst (sN.2 _ _ h)).trans e.symm,λq=>nomatch e.symm.trans q⟩
 |sd l=>exact uh h aV λm e h=>⟨(congrArg O.sd (HD h)).trans e.symm,λq=>nomatch e.symm.trans q⟩
 |inst c d=>exact uN h aV λc' d' e h=>⟨by
   show cD (θ d) (λd'=>O.inst c d') O.tmp=_
   rw[fh (aT h).2,e,Wq (aT h).1]
   rfl,λq=>nomatch e.symm.trans q⟩
 |nd l=>cases o' with
  |nd m=>exact⟨congrArg O.nd (AH h),nofun⟩
  |_=>exact fnt h
 |_=>exact fnt h
theorem dP{o:O}(h:bk o=true):o=.tmp:=by cases o<;>first|rfl|exact fnt h
theorem lN{o:O}(h:bk o=false):o≠.tmp:=λe=>by subst e;exact Ww h.symm
end
structure Ge(th ψ φ:List V):Prop where
 len:φ.length=44+th.length
 base:∀i,i<44->φ[i]?=some (.ref i)
 th:∀i v,th[i]?=some v->∃w,φ[44+i]?=some w/\VS ψ v w
section
variable{G:Gr}{NG:mW G}{Z:Nat->Prop}{σ₀:St}{B:Nat}{dr en:Bool}{oz:tF Z σ₀ en}{ψ:List V}{x:XS}{σ:St}
theorem gq{k:Nat}:∀{n:Nat},(ng n k).length=k:=by
 induction k with
 |zero=>exact rfl
 |succ k ih=>exact congrArg WU ih
theorem gy{k:Nat}:∀{n j:Nat} {v:V},(ng n k)[j]?=some v->v=.ref (n+j)/\j<k:=by
 induction k with
 |zero=>exact λh=>absurd h.symm ad
 |succ k ih=>
  intro n j v h
  cases j with
  |zero=>exact⟨(Wn h).symm,Nat.succ_pos _⟩
  |succ j=>
   have z:=ih (n:=WU n) h
   exact⟨by rw[z.1,Nat.succ_add];rfl,Nat.succ_lt_succ z.2⟩
theorem aK.of_get{R:nz}{vs:List V}:∀{us:List V},us.length=vs.length->(∀(j:Nat) (v:V),vs[j]?=some v->∃u,us[j]?=some u/\VR R v u)->aK R vs us:=by
 induction vs with
 |nil=>exact λh _=>Xc h
 |cons v vs ih=>
  intro us h k
  cases us with
  |nil=>exact nomatch h
  |cons u us=>
   refine .cons ?_ (ih (YZ h) λj v e=>k (j+1) v e)
   obtain⟨w,e,r⟩:=k 0 v rfl
   exact Wn e▸r
theorem vn{vs:List V}(h:PB vs=true):∀v∈vs,v≠.none:=by
 induction vs with
 |nil=>exact λv m=>absurd m WT
 |cons a r ih=>
  refine λv m=>(WJ.mp m).elim (λe q=>?_) (ih (aT (b:=PB r) h).2 v)
  have z:=QK (aT (b:=PB r) h).1
  rw[<-e,q]at z
  exact Ww z.symm
theorem VS.nn(E:Emb (Wf G NG Z σ₀ B dr en oz) ψ x σ){v w:V}(h:VS ψ v w)(n:v≠.none):w≠.none:=λe=>n (e8 ((pQ E h).trans (by rw[e];rfl)) aV λe _=>e)
theorem aK.nn(E:Emb (Wf G NG Z σ₀ B dr en oz) ψ x σ){vs:List V}:∀{us:List V},dS ψ vs us->(∀v∈vs,v≠V.none)->∀u∈us,u≠V.none:=by
 induction vs with
 |nil=>exact λh _ u hu=>by cases h.nil;exact absurd hu WT
 |cons v r ih=>exact λh=>h.inv λw m a b n u hu=>(WJ.mp hu).elim (λe=>e▸VS.nn E a (n v (.head _))) (ih b (λv h=>n v (.tail _ h)) u)
theorem CN(E:Emb (Wf G NG Z σ₀ B dr en oz) ψ x σ){t:Nat}{vs us:List V}(h:yC G x t vs=true)(r:dS ψ vs us):us.length=G.ar t/\tD us (G.dB t)/\∀u∈us,u≠.none:=
 have h1:=aT h
 have h2:=aT (aT h1.2).2
 ⟨r.ln.symm.trans (Wq h1.1),Am E r h2.2,aK.nn E r (vn h2.1)⟩
theorem zK: (∀v,AM ψ.length v=true->∃w,VS ψ v w)/\∀v,tq ψ.length v=true->∃w,dS ψ v w:=
 V.ind (λ_=>⟨_,rfl⟩) (λ_ _=>⟨_,rfl⟩) (λ_ _=>⟨_,rfl⟩) (λ_ _=>⟨_,rfl⟩) (λl ih h=>(ih h).imp' V.tup λm r=>.mkT r) (λi h=>⟨_,Wt (Wl h)⟩) (λ_=>⟨_,rfl⟩)
  λv l f g h=>WS (f (aT h).1) λw a=>WS (g (aT h).2) λm b=>⟨w::m,.cons a b⟩
theorem Bz(E:Emb (Wf G NG Z σ₀ B dr en oz) ψ x σ){t:Nat}{vs:List V}(h:yC G x t vs=true):∃us,dS ψ vs us:=zK.2 vs (E.len▸(aT (aT h).2).1)
theorem DE{n:Nat}{ws us:List V}(hn:ψ.length=n)(r:dS ψ ws us):∀i u,pt us i u↔VS ψ (Kp n ws i) u:=λi u=>by
 unfold Kp
 rw[cA]
 cases q:ws[i]? with
 |none=>
  have e:us[i]?=none:=r.get_none q
  have f:ψ[n]?=none:=XT (Zn hn)
  exact⟨λh=>ka e h,λh=>ka f (show ψ[n]?=some u from h)⟩
 |some v=>exact r.get q λw e z=>⟨λh=>Wn (e.symm.trans h)▸z,λh=>VS.det z h▸e⟩
inductive Mk(G:Gr)(ψ:List V)(D:List V->Prop)(k:List V->Bool):Prop
 |mk (vs us:List V):dS ψ vs us->D us->k vs=true->Mk G ψ D k
theorem Ct.ind{p:Ct->Prop}{q:List Ct->Prop}(h:∀i,p (.h i))(pr:∀k cs,q cs->p (.p k cs))(v:∀u,p (.v u))(n:q [])(c:∀a l,p a->q l->q (a::l)): (∀c,p c)/\∀cs,q cs:=⟨λa=>@Ct.rec p q h pr v n c a,λa=>@Ct.rec_1 p q h pr v n c a⟩
theorem Fg(E:Emb (Wf G NG Z σ₀ B dr en oz) ψ x σ): (∀c,∀{t:Nat} {k:List V->Bool},TX G x c t k=true->Mk G ψ (ur G t) k)/\∀cs,∀{ts:List Nat} {k:List V->Bool},QV G x cs ts k=true->Mk G ψ (Dens G ts) k:=by
 refine Ct.ind (λi {t k} h=>?_) (λp cs ih {t k} h=>?_) (λu {t k} h=>?_) (λ{ts k} h=>?_) λc cs f g {ts k} h=>?_
 ·refine a8 (aT h).2 aV λt' e h2=>?_
  cases Wq (aT h2).1
  obtain⟨b,m,eb,et⟩:=gG e
  subst eb et
  cases(E.hp b m).data (Wl (aT h).1)with |mk us d hl _ hat=>
  have l:=d.len NG.a9
  refine⟨_,us,aK.of_get (l.trans gq.symm) λj v e=>?_,d,(aT h2).2⟩
  obtain⟨rfl,lt⟩:=gy e
  have lt:j<us.length:=l.symm▸lt
  exact⟨us[j],Wt lt,hat j _ (Wt lt)⟩
 ·cases ih (aT h).2 with |mk ws us r ds h2=>
  obtain⟨zs,hz⟩:=Bz E (aT h2).1
  have f:=CN E (aT h2).1 hz
  exact⟨_,zs,hz,.mk (Wl (aT h).1) ds ((aK.sub (DE E.len r)).mpr hz) f.1 f.2.1 f.2.2,(aT h2).2⟩
 ·cases Wq (aT h).1
  have h2:=aT (aT h).2
  obtain⟨us,r⟩:=Bz E h2.1
  refine r.one_inv (P:=λus=>Mk G ψ (ur G 9) k) λw hw=>?_
  have f:=CN E h2.1 (aK.one hw)
  exact⟨[u],[w],.one hw,.any ⟨(tD.inv f.2.1.1).1,Wz (Nat.le_max_left _ _) f.2.1.2⟩ (f.2.2 w (WF.mpr rfl)),h2.2⟩
 ·cases ts with
  |nil=>exact⟨[],[],rfl,.nil,h⟩
  |cons _ _=>exact fnt h
 ·cases ts with
  |nil=>exact fnt h
  |cons t ts=>
   cases f (aT h).2 with |mk v1 u1 r1 d1 h1=>
   cases g h1 with |mk v2 u2 r2 d2 h2=>
   exact⟨_,u1++u2,r1.ap r2,.cons (Wl (aT h).1) d1 d2,h2⟩
theorem qp{i k:Nat}(h:v8 x i k=true):∃b∈x.t,b.b=i/\b.t=k:=a8 h aV λt e h=>Wq h▸gG e
theorem Ge.at{N:Nat}(hN:ψ.length<=N)(hb:∀i,i<44->ψ[i]?=some (.ref i)){th φ:List V}(C:Ge th ψ φ):∀i u,pt φ i u↔VS ψ (dA N th i) u:=i4 (λi l u=>by
 unfold dA
 rw[yQ l]
 have a:=C.base i l
 have b:=hb i l
 exact⟨λh=>Wn (a.symm.trans h)▸b,λh=>Wn (b.symm.trans h)▸a⟩) λj u=>by
 have e:dA N th (44+j)=opt th[j]? (λv=>v) (.ref N):=by
  unfold dA
  rw[Fi (WC 44 j),<-cA]
  exact congrArg (λk=>opt (nv th k) (λv=>v) (.ref N)) (WH ..)
 rw[e]
 cases q:th[j]? with
 |some v=>
  obtain⟨w,e,z⟩:=C.th j v q
  exact⟨λh=>Wn (e.symm.trans h)▸z,λh=>VS.det z h▸e⟩
 |none=>
  have e:φ[44+j]?=none:=by
   rw[Yn]at q ⊢
   rw[C.len]
   omega
  have f:ψ[N]?=none:=XT hN
  exact⟨λh=>ka e h,λh=>ka f (show ψ[N]?=some u from h)⟩
theorem gQ{N q:Nat}{th:List V}{v:V}(e:th[q]?=some v):dA N th (44+q)=v:=by
 unfold dA
 rw[Fi (WC 44 q),show nv th (WP (44+q) 44)=some v from(congrArg (nv th) (WH ..)).trans (cA.trans e)]
 rfl
end
section
variable{φ:List V}(hb:∀i,i<44->φ[i]?=some (.ref i))
include hb
theorem qW: (∀v,AM 44 v=true->VS φ v v)/\∀v,tq 44 v=true->dS φ v v:=
 V.ind (λ_=>rfl) (λ_ _=>rfl) (λ_ _=>rfl) (λ_ _=>rfl) (λl ih h=>.mkT (ih h)) (λi h=>hb i (Wl h)) (λ_=>rfl) λv l f g h=>.cons (f (aT h).1) (g (aT h).2)
theorem yj{v:List (List Nat × V)}(h: (v.all λp=>AM 44 p.2)=true):SDR (pt φ) v v:=by
 induction v with
 |nil=>exact rfl
 |cons p r ih=>exact SDR.cons (n:=p.1) ((qW hb).1 _ (y6 (a0v▸h)).1) (ih (y6 (a0v▸h)).2)
omit hb in
noncomputable def Rg(o:O):Bool:=oO o (tq 44) (λ_ d=>Wo d 44) (λl=>l.all λp=>AM 44 p.2) (λ_=>false) (λ_=>false) (λ_=>false) true
omit hb in
theorem Bc:cE.all Rg=true:=by rfl
theorem F1{i:Nat}{o:O}(e:a6 cE i=some o):OS φ o o:=by
 have h:=Xi.mp Bc o (WN ((aj _ _).symm.trans e))
 cases o with
 |lst l=>exact⟨l,rfl,(qW hb).2 l h⟩
 |inst c d=>exact⟨d,rfl,hb d (Wl h)⟩
 |sd l=>exact⟨l,rfl,yj hb h⟩
 |tmp=>trivial
 |_=>exact fnt h
end
theorem As{p:Pt}{k:Nat}{o:O}{P:Prop}(e:p.x.get k=some o)(a:k=12->o=p.o12->P)(b:k=18->o=p.o18->P)(c:k<44->k≠12->k≠18->a6 cE k=some o->P)(d:∀q,k=44+q->p.ext[q]?=some o->P):P:=by
 revert e a b c d
 refine i4 (λk l e a b c _=>?_) (λq e _ _ _ d=>d q rfl ((aj _ _).symm.trans (XS.hi.symm.trans e))) k
 rw[XS.lo l]at e
 exact gR e a b (c l)
theorem xh{p:Pt}{q:Nat}{o:O}(e:p.ext[q]?=some o):p.x.get (44+q)=some o:=XS.hi.trans ((aj _ _).trans e)
theorem pn{p:Pt}:p.x.n=44+p.ext.length:=congrArg (44 + ·) aQ
theorem Q9{x:XS}:∃l,x.get 42=some (.lst l):=⟨_,(XS.lo (by decide)).trans rfl⟩
structure Se(x:XS)(θ:Nat->V)(l:Nat)(os:List O)(th:List V):Prop where
 len:th.length=os.length
 ok:∀(q:Nat) (v:V),th[q]?=some v->AM x.n v=true/\v≠.none
 ob:∀(q:Nat) (o:O),os[q]?=some o->o≠.tmp->∃i o',th[q]?=some (V.ref i)/\l<i/\x.get i=some o'/\Av θ o o'=true
 lt:∀(q q':Nat) (o o':O) (i i':Nat),os[q]?=some o->o≠.tmp->os[q']?=some o'->o'≠.tmp->th[q]?=some (V.ref i)->th[q']?=some (V.ref i')->q<q'->i<i'
theorem IT{x:XS}{θ:Nat->V}{os:List O}:∀{th:List V} {l:Nat},TA x θ os l th=true->Se x θ l os th:=by
 induction os with
 |nil=>exact λh=>by cases gS h;exact⟨rfl,λ_ _ e=>absurd e.symm ad,λ_ _ e=>absurd e.symm ad,λ_ _ _ _ _ _ e=>absurd e.symm ad⟩
 |cons o os ih=>
  intro th l h
  cases th with
  |nil=>exact fnt h
  |cons v th=>
  have h1:=aT h
  have h2:=aT h1.2
  have hv:v≠.none:=λe=>by subst e;exact fnt h2.1
  have mk:∀{l'},Se x θ l' os th->l<=l'->(o≠.tmp->∃i o',v=.ref i/\l<i/\i<=l'/\x.get i=some o'/\Av θ o o'=true)->Se x θ l (o::os) (v::th):=λ{l'} X hl ho=>by
   refine⟨congrArg WU X.len,λq w e=>?_,λq p e n=>?_,λq q' p p' i i' e n e' n' f f' lt=>?_⟩
   ·cases q with
    |zero=>exact Wn e▸⟨h1.1,hv⟩
    |succ q=>exact X.ok q w e
   ·cases q with
    |zero=>
     cases e
     obtain⟨i,o',ev,a,_,b,c⟩:=ho n
     exact⟨i,o',congrArg some ev,a,b,c⟩
    |succ q=>
     obtain⟨i,o',a,b,c⟩:=X.ob q p e n
     exact⟨i,o',a,X5 hl b,c⟩
   ·cases q' with
    |zero=>exact absurd lt (Nat.not_lt_zero _)
    |succ q'=>
     cases q with
     |zero=>
      cases e
      obtain⟨i2,o',ev,a,b,_⟩:=ho n
      obtain⟨i3,o3,g,l3,_⟩:=X.ob q' p' e' n'
      exact gX (g.symm.trans f')▸X5 (gX ((congrArg some ev).symm.trans f)▸b) l3
     |succ q=>exact X.lt q q' p p' i i' e n e' n' f f' (Nat.lt_of_succ_lt_succ lt)
  refine au h2.2 (λt h=>mk (ih h) (WO l) λn=>absurd (dP t) n) λt h=>aM h aV λi ei h=>?_
  refine a8 (aT h).2 aV λo' g h3=>?_
  have lt:=Wl (aT h).1
  exact mk (ih (aT h3).2) (Y0 lt) λ_=>⟨i,o',ei,lt,WO i,g,(aT h3).1⟩
theorem zW{x:XS}{θ:Nat->V}{k:Nat}{o:O}(h:vV x θ k o=true)(n:o≠.tmp):∃o',x.get k=some o'/\Av θ o o'=true:=(yx h).elim (λh=>absurd (dP h) n) λh=>a8 h aV λo' e h=>⟨o',e,h⟩
theorem F8{n:Nat}{l:List V}(h:∀(q:Nat) (v:V),l[q]?=some v->AM n v=true):tq n l=true:=by
 induction l with
 |nil=>rfl
 |cons v r ih=>
  show an (AM n v) (tq n r)=true
  rw[h 0 v rfl]
  exact ih λq w e=>h (q+1) w e
theorem Fb{vs:List V}:∀{l:List V},OD vs l=true->∀(j:Nat) (v:V),vs[j]?=some v->l[j]?=some v:=by
 induction vs with
 |nil=>exact λ_ _ _ e=>absurd e.symm ad
 |cons w r ih=>
  intro l h j v e
  cases l with
  |nil=>exact fnt h
  |cons u s=>
   cases j with
   |zero=>rw[<-Wn e,fh (aT h).1];rfl
   |succ j=>exact ih (aT h).2 j v e
theorem tK{α:Type}{n:Nat}:∀{l:List α},Ob n l=l.drop n:=by
 induction n with
 |zero=>exact rfl
 |succ n ih=>exact λ{l}=>by cases l with |nil=>rfl|cons _ _=>exact ih
theorem EJ{n:List Nat}{v:V}{b:List (List Nat × V)}:∀{es:List (List Nat × V)},PZ b es=true->ax b n=some v->ax es n=some v:=by
 induction b with
 |nil=>exact λ_ e=>absurd e.symm ad
 |cons p r ih=>
  intro es h e
  cases es with
  |nil=>exact fnt h
  |cons q s=>
   have h2:=aT (aT h).2
   have e:tf (bp p.1 n) (some p.2) (ax r n)=some v:=e
   show tf (bp q.1 n) (some q.2) (ax s n)=some v
   rw[<-eqN_eq (aT h).1,<-fh h2.1]
   exact au e (λq e=>by rw[q];exact e) λq e=>by rw[q];exact ih h2.2 e
theorem xm{n:List Nat}{v:V}(e:ax bH n=some v):kM v=true:=by
 have hb: (bH.all λp=>kM p.2)=true:=by rfl
 have hg:∀es:List (List Nat × V),(es.all λp=>kM p.2)=true->ax es n=some v->kM v=true:=λes=>by
  induction es with
  |nil=>exact λ_ e=>absurd e.symm ad
  |cons p r ih=>
   intro a e
   have a:=a0v▸a
   exact au (b:=bp p.1 n) (t:=some p.2) (e:=ax r n) e (λ_ e=>Wn e▸(y6 a).1) λ_ e=>ih (y6 a).2 e
 exact hg _ hb e
structure Bo(ψ:List V)(x:XS)(σ:St)(φ:List V)(k:Nat)(o:O)(i j:Nat)(o':O):Prop where
 known:∃p,x.get i=some p/\p≠.tmp
 at_:ψ[i]?=some (.ref j)
 wok:wok i=true
 kd: (k=i/\(k=12\/k=18))\/(44<=k/\44<=i/\44<=j)
 id:φ[k]?=some (.ref j)
 get:a6 σ j=some o'
 os:OS φ o o'
 y: ¬ Yv j
inductive Qq(ψ:List V)(x:XS)(σ:St)(th φ:List V)(k:Nat)(o:O):Prop
 |st:fq k->a6 σ k=some o->OS φ o o->k≠3->k≠43->Qq ψ x σ th φ k o
 |bo (i j:Nat) (o':O):dA x.n th k=.ref i->Bo ψ x σ φ k o i j o'->Qq ψ x σ th φ k o
structure Mt(ψ:List V)(x:XS)(σ:St)(p:Pt)(th:List V)(φ:List V):Prop where
 cor:Ge th ψ φ
 len:φ.length=p.x.n
 sub:∀i u,pt φ i u↔VS ψ (dA x.n th i) u
 nn:∀(i:Nat) (u:V),φ[i]?=some u->u≠V.none
 ob:∀k o,p.x.get k=some o->o≠.tmp->Qq ψ x σ th φ k o
 mono:∀(i k:Nat) (o q:O) (j l:Nat),p.x.get i=some o->o≠O.tmp->p.x.get k=some q->q≠O.tmp->φ[i]?=some (V.ref j)->φ[k]?=some (V.ref l)->i<k->j<l
section
variable{G:Gr}{NG:mW G}{Z:Nat->Prop}{σ₀:St}{B:Nat}{dr en:Bool}{oz:tF Z σ₀ en}{ψ:List V}{x:XS}{σ:St}
theorem AZ(E:Emb (Wf G NG Z σ₀ B dr en oz) ψ x σ)(hb:∀i,i<44->ψ[i]?=some (.ref i))(h:CU x=true):ky σ:=(yx h).elim (λq=>by
 obtain⟨b,m,e1,e2⟩:=qp q
 exact E.gi.ent ((E.hp b m).ent e2).1) λh=>E.sd (G:=λu=>u=.ref 18->ky σ) (hb 18 (by decide):VS ψ (.ref 18) (.ref 18)) h (λj es es' hj hs _ h ej=>by
 cases ej
 refine⟨es',hj,λn v e=>?_⟩
 obtain⟨w,e',r⟩:=hs.get.1 v (EJ h e)
 exact VS.det r (jk.1 v (xm e))▸e') rfl
theorem FB(E:Emb (Wf G NG Z σ₀ B dr en oz) ψ x σ){p:Pt}{th:List V}{cs:List Ct}(h:mt G x p th cs=true): (∀i,i<44->ψ[i]?=some (.ref i))/\QJ G x p.dr p.en th p.t cs=true/\∃φ,Mt ψ x σ p th φ:=by
 have h1:=aT h
 have h2:=aT h1.2
 have h3:=aT h2.2
 have h4:=aT h3.2
 obtain⟨b,m,e1,e2⟩:=qp h1.1
 have hb:=(E.hp b m).world e2
 refine⟨hb,h4.2,?_⟩
 have X:=IT h4.1
 obtain⟨ws,hw⟩:∃ws,dS ψ th ws:=zK.2 th (F8 λq v e=>E.len▸(X.ok q v e).1)
 have C:∃bs:List V,bs.length=44/\∀i,i<44->bs[i]?=some (V.ref i):=⟨(Zb 44).map V.ref,rfl,λi l=>by rw[List.getElem?_map,List.getElem?_range l];rfl⟩
 obtain⟨bs,bl,blo⟩:=C
 have lo:∀{i},i<44->(bs++ws)[i]?=some (V.ref i):=λ{i} l=>(WE (bl.symm▸l)).trans (blo i l)
 have hi:∀{i:Nat},(bs++ws)[44+i]?=ws[i]?:=λ{i}=>by
  rw[WQ (bl.symm▸WC 44 i),bl,WH]
 have C:Ge th ψ (bs++ws):=⟨by rw[Wu,bl,hw.len],λi l=>lo l,λi v e=>hw.get e λw e' r=>⟨w,hi.trans e',r⟩⟩
 have S:=C.at (N:=x.n) (Zn E.len) hb
 have big:∀{i j o'},44<=i->x.get i=some o'->o'≠.tmp->ψ[i]?=some (.ref j)->44<=j:=λ{i j o'} l g n f=>by
  obtain⟨l42,g42⟩:=@Q9 x
  have lt:=E.mono 42 i (.lst l42) o' 42 j g42 nofun g n (hb 42 (by decide)) f (WV (by decide) l)
  cases E.obj i o' g n with |mk j' o2 a _ _ _ y=>
  have ej:=gX (a.symm.trans f)
  subst ej
  exact Nat.lt_of_le_of_ne lt λq=>y (.inr q.symm)
 have bo:∀{k o i o'},dA x.n th k=.ref i->x.get i=some o'->Av (dA x.n th) o o'=true->wok i=true->(k=i/\(k=12\/k=18))\/(44<=k/\44<=i)->∃j o',Bo ψ x σ (bs++ws) k o i j o':=λ{k o i o'} ht g hs hw hk=>by
  obtain⟨es,nt⟩:=CX hs
  cases E.obj i o' g nt with |mk j o2 a b c _ y=>
  exact⟨j,o2,⟨o',g,nt⟩,a,hw,hk.imp id (λz=>⟨z.1,z.2,big z.2 g nt a⟩),(S k _).mpr (ht▸a),b,(OR.sub S (es▸nt)).mpr (es▸c),y⟩
 have ext:∀{q o},p.ext[q]?=some o->o≠.tmp->∃i j o',th[q]?=some (V.ref i)/\Bo ψ x σ (bs++ws) (44+q) o i j o':=λ{q o} e n=>by
  obtain⟨i,o',et,li,g,hs⟩:=X.ob q o e n
  obtain⟨j,o2,B⟩:=bo (gQ et) g hs (by unfold wok;rw[Xv (show 44<=i from li)];rfl) (.inr ⟨WC _ _,li⟩)
  exact⟨i,j,o2,et,B⟩
 have D2:∀{k o},k=12\/k=18->vV x (dA x.n th) k o=true->o≠.tmp->Qq ψ x σ th (bs++ws) k o:=λ{k o} hk hm n=>by
  obtain⟨o',g,hs⟩:=zW hm n
  have tk:dA x.n th k=.ref k:=hk.elim (λe=>by subst e;rfl) λe=>by subst e;rfl
  obtain⟨j,o2,B⟩:=bo tk g hs (hk.elim (λe=>by subst e;rfl) λe=>by subst e;rfl) (.inl ⟨rfl,hk⟩)
  exact .bo k j o2 tk B
 refine⟨bs++ws,C,by rw[C.len,X.len,pn],S,λi=>i4 (P:=λi=>∀u,(bs++ws)[i]?=some u->u≠V.none) (λi l u e=>?_) (λq u e=>?_) i,λk o e n=>?_,λi k o o2 j l ei ni ek nk fi fk lt=>?_⟩
 ·exact λq=>nomatch ((lo l).symm.trans e).trans (congrArg some q)
 ·rw[hi]at e
  exact aK.nn E hw (λv hv=>(List.mem_iff_getElem?.mp hv).elim λq e=>(X.ok q v e).2) u (WN e)
 ·refine As e (λek eo=>?_) (λek eo=>?_) (λl _ _ e=>?_) λq ek e2=>?_
  ·subst ek eo;exact D2 (.inl rfl) h2.1 n
  ·subst ek eo;exact D2 (.inr rfl) h3.1 n
  ·have s:=cG e n
   exact .st s.1 (E.gi.wr k o e n) (F1 (λi l=>lo l) e) s.2.1 s.2.2
  ·subst ek
   obtain⟨i,j,o',et,B⟩:=ext e2 n
   exact .bo i j o' (gQ et) B
 ·have kl:∀{k l:Nat},k<44->(bs++ws)[k]?=some (V.ref l)->k=l:=λh f=>gX ((lo h).symm.trans f)
  rcases Xl k 44 with hk|hk
  ·exact kl (Nat.lt_trans lt hk) fi▸kl hk fk▸lt
  ·obtain⟨q,rfl⟩:=WM hk
   obtain⟨i2,j2,o',et,B⟩:=ext (q:=q) ((aj _ _).symm.trans (XS.hi.symm.trans ek)) nk
   have e2:=gX (B.id.symm.trans fk)
   subst e2
   obtain⟨p2,g2,n2⟩:=B.known
   have l44: 44<=_:=B.kd.elim (λz=>by omega) λz=>z.2.2
   rcases Xl i 44 with hi|hi
   ·exact kl hi fi▸WV hi l44
   ·obtain⟨q0,rfl⟩:=WM hi
    obtain⟨i0,j0,o0,et0,B0⟩:=ext (q:=q0) ((aj _ _).symm.trans (XS.hi.symm.trans ei)) ni
    have e0:=gX (B0.id.symm.trans fi)
    subst e0
    obtain⟨p0,g0,n0⟩:=B0.known
    exact E.mono i0 i2 p0 p2 _ _ g0 n0 g2 n2 B0.at_ B.at_ (X.lt q0 q o o2 i0 i2 ((aj _ _).symm.trans (XS.hi.symm.trans ei)) ni ((aj _ _).symm.trans (XS.hi.symm.trans ek)) nk et0 et (by omega))
end
section
variable{G:Gr}{NG:mW G}{Z:Nat->Prop}{σ₀:St}{B:Nat}{dr en:Bool}{oz:tF Z σ₀ en}{ψ φ:List V}{x:XS}{σ:St}
theorem Ai{k:Nat}(h:wok k=true)(s:fq k):False:=vG h (λl=>Z1 l s.1) (λe=>s.2.1 e) λe=>s.2.2 e
theorem IW(E:Emb (Wf G NG Z σ₀ B dr en oz) ψ x σ)(hb:∀i,i<44->ψ[i]?=some (.ref i)){th:List V}(C:Ge th ψ φ){dr' en':Bool}{bs:List Bn}:∀{cs:List Ct},QJ G x dr' en' th bs cs=true->∀b∈bs,tz G dr' en' φ b:=by
 induction bs with
 |nil=>exact λ_ _ h=>absurd h WT
 |cons b0 bs ih=>
  intro cs h b hm
  refine au h (λq h=>?_) λq h=>?_
  ·have q:=Wl q
   cases cs with
   |nil=>exact fnt h
   |cons c cs=>
    have h1:=aT h
    have h2:=aT h1.2
    have h3:=aT h2.2
    cases(Fg E).1 c h3.2 with |mk vs us r d h4=>
    refine(WJ.mp hm).elim (λe=>?_) (ih (aT h4).2 b)
    subst e
    refine .of q ⟨us,d,(d.len NG.a9).trans (Wq h2.1).symm,Wq h3.1,λj u eu=>?_⟩
    obtain⟨i,hi⟩:=WM (Wl h1.1)
    have hj:j<vs.length:=r.len▸(Wv.mp eu).1
    have ev:=Wt hj
    have p:=Fb (aT h4).1 j _ ev
    rw[tK,Zf,hi,show WP (44+i) 44=i from WH ..]at p
    obtain⟨w,e1,z1⟩:=C.th _ _ p
    refine r.get ev λw2 e2 z2=>?_
    rw[hi,Xm,e1,VS.det z1 z2]
    exact e2.symm.trans eu
  ·have q:b0.t<9:=Nat.lt_of_not_le λl=>Ww (q.symm.trans (Xv l))
   have h1:=aT h
   have h2:=aT h1.2
   refine(WJ.mp hm).elim (λe=>?_) (ih h2.2 b)
   subst e
   have ha:=Wq h1.1
   have big: 9<=b.t->Data G φ b:=λl=>absurd q (Z1 l)
   refine(yx h2.1).elim (λq2=>?_) λh3=>au h3 (λq5 h=>?_) λq5 h=>?_
   ·have e:=Wq q2
    exact⟨λz=>by omega,λz=>by omega,λz=>by omega,λz=>by omega,λ_=>ha,big⟩
   ·have e:=Wq q5
    exact⟨λz=>by omega,λz=>by omega,λz=>by omega,λ_=>⟨(aT h).1,Wq (aT (aT h).2).1▸C.base 18 (by decide)⟩,λ_=>ha,big⟩
   ·have h5:=aT (aT h).2
    obtain⟨b2,m,e1,e2⟩:=qp h5.2
    have hp:=E.hp b2 m
    have l:=Wl h5.1
    have same:φ[b.b]?=ψ[b2.b]?:=(C.base _ l).trans ((hb _ l).symm.trans (by rw[e1]))
    exact⟨λz=>⟨(aT h).1,same.trans (hp.row (e2.trans z)).2⟩,λz=>C.base,λz=>⟨(aT h).1,same.trans (hp.reads (e2.trans z)).2⟩,λz=>absurd z (Xp q5),λ_=>ha,big⟩
theorem Mt.emb(E:Emb (Wf G NG Z σ₀ B dr en oz) ψ x σ)(hb:∀i,i<44->ψ[i]?=some (.ref i)){p:Pt}{th:List V}{cs:List Ct}(ht:QJ G x p.dr p.en th p.t cs=true)(M:Mt ψ x σ p th φ){Z':Nat->Prop}{σ₀':St}{B':Nat}{oz':tF Z' σ₀' p.en}(zl:∀j,Z' j->j<σ.length)
  (hz:∀k o i j o',p.x.get k=some o->o≠.tmp->Bo ψ x σ φ k o i j o'->¬ Z' j)(gi:TR Z' σ₀' B' p.dr p.en p.c σ):Emb (Wf G NG Z' σ₀' B' p.dr p.en oz') φ p.x σ where
 len:=M.len
 ne:=pn
 nn:=M.nn
 obj:=λk o e n=>by
  cases M.ob k o e n with
  |st s g os n3 n43=>exact⟨k,o,M.cor.base k s.1,g,os,λw=>(Ai w s).elim,λy=>y.elim n3 n43⟩
  |bo i j o' _ b=>exact⟨j,o',b.id,b.get,b.os,λ_=>hz k o i j o' e n b,b.y⟩
 mono:=M.mono
 zl:=λj z=>z.elim (zl j) λy=>WV (y.elim (λe=>e▸by decide) λe=>e▸by decide) (Wz oz'.big gi.len)
 hp:=λb hb'=>(WJ.mp hb').elim (λe=>e▸ .base M.cor.base) (IW E hb M.cor ht b)
 gi:=gi
end
noncomputable section
variable{α:Type}
noncomputable def qz(n:Nat)(k:Nat->α):α:=@XI (λ_=>α) (k 0) (λm _=>k (WU m)) n
noncomputable def RH(i:Int)(k:Int->α):α:=@Int.rec (λ_=>α) (λn=>qz n λn=>k (.ofNat n)) (λn=>qz n λn=>k (.negSucc n)) i
noncomputable def R8(b:Bool)(k:Bool->α):α:=tf b (k true) (k false)
noncomputable def Qo(v:V): (V->α)->α:=@V.rec (λ_=>(V->α)->α) (λ_=>(List V->α)->α)
 (λk=>k .none) (λb k=>R8 b λb=>k (.bool b)) (λi k=>RH i λi=>k (.int i)) (λs k=>k (.str s)) (λ_ ih k=>ih λl=>k (.tup l)) (λn k=>qz n λn=>k (.ref n))
 (λk=>k []) (λ_ _ a b k=>a λv=>b λr=>k (v::r)) v
noncomputable def uK(l:List V): (List V->α)->α:=@V.rec_1 (λ_=>(V->α)->α) (λ_=>(List V->α)->α)
 (λk=>k .none) (λb k=>R8 b λb=>k (.bool b)) (λi k=>RH i λi=>k (.int i)) (λs k=>k (.str s)) (λ_ ih k=>ih λl=>k (.tup l)) (λn k=>qz n λn=>k (.ref n))
 (λk=>k []) (λ_ _ a b k=>a λv=>b λr=>k (v::r)) l
noncomputable def Sr(l:List (List Nat × V))(k:List (List Nat × V)->α):α:=@WB (List Nat × V) (λ_=>(List (List Nat × V)->α)->α) (λk=>k []) (λp _ ih k=>Qo p.2 λv=>ih λr=>k ((p.1,v)::r)) l k
noncomputable def Qd(l:Env)(k:Env->α):α:=@WB (Nat × V) (λ_=>(Env->α)->α) (λk=>k []) (λp _ ih k=>Qo p.2 λv=>ih λr=>k ((p.1,v)::r)) l k
noncomputable def Qy(o:O)(k:O->α):α:=@O.rec (λ_=>α) (λl=>uK l λl=>k (.lst l)) (λc d=>qz d λd=>k (.inst c d)) (λl=>Sr l λl=>k (.sd l)) (λl=>k (.nd l)) (λl=>k (.arg l)) (λd=>k (.exc d)) (k .tmp) o
noncomputable def K6(l:List O)(k:List O->α):α:=@WB O (λ_=>(List O->α)->α) (λk=>k []) (λo _ ih k=>Qy o λo=>ih λr=>k (o::r)) l k
noncomputable def F6(l:List Bn)(k:List Bn->α):α:=@WB Bn (λ_=>(List Bn->α)->α) (λk=>k []) (λb _ ih k=>qz b.b λx=>qz b.t λt=>qz b.a λa=>qz b.d λd=>ih λr=>k (⟨x,t,a,d⟩::r)) l k
noncomputable def Qt(x:XS)(k:XS->α):α:=Qy x.o12 λo12=>Qy x.o18 λo18=>K6 x.e λe=>qz x.n λn=>F6 x.t λt=>qz x.c λc=>k ⟨o12,o18,e,n,t,c⟩
end
section
variable{α:Type}
theorem dg(n:Nat)(k:Nat->α):qz n k=k n:=by cases n<;>rfl
theorem Kk(i:Int)(k:Int->α):RH i k=k i:=by
 cases i with
 |ofNat n=>exact dg n λn=>k (.ofNat n)
 |negSucc n=>exact dg n λn=>k (.negSucc n)
theorem Hu(b:Bool)(k:Bool->α):R8 b k=k b:=by cases b<;>rfl
theorem pf: (∀v,∀k:V->α,Qo v k=k v)/\∀l,∀k:List V->α,uK l k=k l:=
 V.ind (λ_=>rfl) (λb k=>Hu b λb=>k (.bool b)) (λi k=>Kk i λi=>k (.int i)) (λ_ _=>rfl) (λ_ ih k=>ih λl=>k (.tup l)) (λn k=>dg n λn=>k (.ref n)) (λ_=>rfl) λv l f g k=>(f λv=>uK l λr=>k (v::r)).trans (g λr=>k (v::r))
theorem Bl(l:Env):∀k:Env->α,Qd l k=k l:=by
 induction l with
 |nil=>exact λ_=>rfl
 |cons p r ih=>exact λk=>(pf.1 p.2 λv=>Qd r λr=>k ((p.1,v)::r)).trans (ih λr=>k (p::r))
theorem NH(l:List (List Nat × V)):∀k:List (List Nat × V)->α,Sr l k=k l:=by
 induction l with
 |nil=>exact λ_=>rfl
 |cons p r ih=>exact λk=>(pf.1 p.2 λv=>Sr r λr=>k ((p.1,v)::r)).trans (ih λr=>k (p::r))
theorem tV(o:O)(k:O->α):Qy o k=k o:=by
 cases o with
 |lst l=>exact pf.2 l λl=>k (.lst l)
 |sd l=>exact NH l λl=>k (.sd l)
 |inst c d=>exact dg d λd=>k (.inst c d)
 |_=>rfl
theorem DK(l:List O):∀k:List O->α,K6 l k=k l:=by
 induction l with
 |nil=>exact λ_=>rfl
 |cons o r ih=>exact λk=>(tV o λo=>K6 r λr=>k (o::r)).trans (ih λr=>k (o::r))
theorem w5(l:List Bn):∀k:List Bn->α,F6 l k=k l:=by
 induction l with
 |nil=>exact λ_=>rfl
 |cons b r ih=>
  intro k
  show qz b.b (λx=>qz b.t λt=>qz b.a λa=>qz b.d λd=>F6 r λr=>k (⟨x,t,a,d⟩::r))=_
  rw[dg,dg,dg,dg,ih]
theorem BJ(x:XS)(k:XS->α):Qt x k=k x:=by
 unfold Qt
 rw[tV,tV,DK,dg,w5,dg]
end
inductive hP where
 |f (f:Nat) (vs:List V)
 |b (i:Nat) (ρ:Env)
structure hR where
 p:Pt
 v:V
 ρ:Env
structure dl where
 p:Pt
 m:Nat
 j:hP
 alts:List hR
noncomputable section
noncomputable def hR.at(S:dl)(a:hR):Pt:=⟨a.p.o12,a.p.o18,a.p.ext,a.p.t,a.p.c,S.p.dr,S.p.en⟩
noncomputable def GL(Γ:bU)(n:Nat)(j:hP)(σ:St):R (V × Env):=@hP.rec (λ_=>R (V × Env)) (λf us=>(callF Γ n f us σ).bind λv σ=>.ok (v,[]) σ) (λi ρ=>(ex Γ (n+1) (.mk i) ρ σ).bind λq σ=>vd q.1 (.ok (.none,q.2) σ) .bad .bad λ_=>.bad) j
noncomputable def JR(R:nz)(j k:hP):Prop:=@hP.rec (λ_=>Prop) (λf vs=>∃us,k=.f f us/\aK R vs us) (λi ρ=>∃ρ',k=.b i ρ'/\ER R ρ ρ') j
inductive Ended(W:Wx)(S:dl)(φ:List V)(r:R (V × Env)):Prop
 |mk (a:hR) (φ':List V) (u:V) (ρ':Env) (σ':St):a∈S.alts->r=.ok (u,ρ') σ'->Emb W φ' (a.at S).x σ'->(∀(i:Nat),i<φ.length->φ'[i]?=φ[i]?)->VS φ' a.v u->ES φ' a.ρ ρ'->Ended W S φ r
noncomputable def sA(G:Gr)(NG:mW G)(Γ:bU)(S:dl):Prop:=∀(Z:Nat->Prop) (B:Nat) (φ:List V) (σ:St) (oz:tF Z σ S.p.en),Emb (Wf G NG Z σ B S.p.dr S.p.en oz) φ S.p.x σ->∀j,JR (pt φ) S.j j->∀n,S.m<=n->Ended (Wf G NG Z σ B S.p.dr S.p.en oz) S φ (GL Γ n j σ)
noncomputable def ul(θ:Nat->V)(l:Env):Env:=@WB (Nat × V) (λ_=>Env) [] (λp _ ih=>(p.1,jt θ p.2)::ih) l
noncomputable def Sj(θ:Nat->V)(j:hP):hP:=@hP.rec (λ_=>hP) (λf vs=>.f f (iq θ vs)) (λi ρ=>.b i (ul θ ρ)) j
noncomputable def QM(θ:Nat->V)(l:Env)(η:Env):Bool:=@WB (Nat × V) (λ_=>Bool) true (λp _ ih=>an (opt (aa η p.1) (QB θ p.2) false) ih) l
noncomputable def Sd(θ:Nat->V)(j k:hP):Bool:=@hP.rec (λ_=>Bool) (λf vs=>@hP.rec (λ_=>Bool) (λg us=>an (Wm f g) (M2 θ vs us)) (λ_ _=>false) k) (λi ρ=>@hP.rec (λ_=>Bool) (λ_ _=>false) (λk η=>an (Wm i k) (QM θ ρ η)) k) j
noncomputable def rK(θ:Nat->V)(l:List O):List O:=@WB O (λ_=>List O) [] (λo _ ih=>eR θ o::ih) l
noncomputable def Rs(m d:Nat)(l:List Bn):List Bn:=@WB Bn (λ_=>List Bn) [] (λb _ ih=>⟨WW d (WP b.b m),b.t,b.a,b.d⟩::ih) l
noncomputable def Dj{α:Type}(l m:List α):List α:=lc m l λ_ _=>app l m
noncomputable def hG(θ:Nat->V)(os:List O):List O->List V->List O->List O:=@WB O (λ_=>List O->List V->List O->List O) (λ_ _ e=>e) (λo _ ih as th e=>lc as e λa as=>lc th e λv th=>tf (bk o) (ih as th e) (cD v (λi=>ih as th (az e (WP i 44) (eR θ a))) (ih as th e))) os
noncomputable def DY(x:XS)(S:dl)(a:hR)(th:List V):List V:=app th (ng x.n (WP (len a.p.ext) (len S.p.ext)))
noncomputable def EH(x:XS)(S:dl)(a:hR):Nat:=WW x.n (WP (len a.p.ext) (len S.p.ext))
noncomputable def qT(θ:Nat->V)(o p a:O):O:=tf (bk p) o (eR θ a)
noncomputable def after(x:XS)(S:dl)(a:hR)(θ:Nat->V)(th:List V):XS:=
 ⟨qT θ x.o12 S.p.o12 a.p.o12,qT θ x.o18 S.p.o18 a.p.o18,Dj (hG θ S.p.ext a.p.ext th x.e) (rK θ (Ob (len S.p.ext) a.p.ext)),EH x S a,app (Rs (WW 44 (len S.p.ext)) x.n a.p.t) x.t,WP x.c S.p.c⟩
noncomputable def C0(l:List O):Bool:=@WB O (λ_=>Bool) true (λo _ ih=>an (bk o) ih) l
noncomputable def EN(f:Bn->Bool)(l:List Bn):Bool:=@WB Bn (λ_=>Bool) true (λb _ ih=>an (f b) ih) l
noncomputable def G7(os:List O):List O->Bool:=@WB O (λ_=>List O->Bool) (λ_=>true) (λo _ ih l=>lc l false λa as=>an (xU (bk o) (bk a)) (ih as)) os
noncomputable def Gd(S:dl)(a:hR):Bool:=an (G7 S.p.ext a.p.ext) (an (xU (bk S.p.o12) (bk a.p.o12)) (an (xU (bk S.p.o18) (bk a.p.o18)) (an (WD (len S.p.ext) (len a.p.ext)) (EN (λb=>an (WD 9 b.t) (an (WD (WW 44 (len S.p.ext)) b.b) (WD (WW b.b b.a) (WW 44 (len a.p.ext))))) a.p.t))))
variable(G:Gr)
noncomputable def TQ(S:dl)(th:List V)(cs:List Ct)(lv:Nat)(x:XS):Bool:=an (WD S.m lv) (an (WD S.p.c x.c) (an (mt G x S.p th cs) (an (or (no S.p.dr) (an (v8 x 3 0) (v8 x 43 3))) (or (no S.p.en) (an (bk S.p.o18) (CU x))))))
noncomputable def DX(f:hR->Bool)(l:List hR):Bool:=@WB hR (λ_=>Bool) true (λa _ ih=>an (f a) ih) l
noncomputable def ST(S:dl)(th:List V)(x:XS)(K:V->Env->XS->Bool):Bool:=DX (λa=>an (Gd S a) (qz (EH x S a) λn=>uK (DY x S a th) λta=>Qo (jt (dA n ta) a.v) λv=>Qd (ul (dA n ta) a.ρ) λρ=>
 tf (an (C0 S.p.ext) (Wm (len S.p.ext) (len a.p.ext))) (K v ρ (after x S a (dA n ta) th)) (Qt (after x S a (dA n ta) th) λy=>K v ρ y))) S.alts
end
section
variable{R S:nz}{θ:Nat->V}
theorem rM{n:Nat}{ρ:Env}:aa (ul θ ρ) n=opt (aa ρ n) (λv=>some (jt θ v)) none:=by
 induction ρ with
 |nil=>rfl
 |cons p r ih=>
  show tf (Wm p.1 n) (some (jt θ p.2)) (aa (ul θ r) n)=opt (tf (Wm p.1 n) (some p.2) (aa r n)) _ none
  rw[ih]
  cases Wm p.1 n<;>rfl
theorem ER.sub(l:∀i u,R i u↔VR S (θ i) u){ρ ρ':Env}:ER R ρ ρ'↔ER S (ul θ ρ) ρ':=
 ⟨λh n a e=>a8 (rM.symm.trans e) ad λb e1 e2=>(h n b e1).imp λw z=>⟨z.1,Wn e2▸(VR.sub l).mp z.2⟩,λh n a e=>(h n (jt θ a) (by rw[rM,e];rfl)).imp λw z=>⟨z.1,(VR.sub l).mpr z.2⟩⟩
theorem zv{ρ η:Env}(h:QM θ ρ η=true){n:Nat}{a:V}:aa ρ n=some a->aa η n=some (jt θ a):=by
 induction ρ with
 |nil=>exact λe=>absurd e.symm ad
 |cons p r ih=>
  have h1:=aT (b:=QM θ r η) h
  exact λe=>au (b:=Wm p.1 n) (t:=some p.2) (e:=aa r n) e (λq e=>a8 h1.1 aV λv g h=>Wn e▸Wq q▸sN.1 _ _ h▸g) λ_ e=>ih h1.2 e
theorem Ic(l:∀i u,R i u↔VR S (θ i) u){j j' k:hP}(h:Sd θ j j'=true)(r:JR S j' k):JR R j k:=by
 cases j with
 |f f vs=>
  cases j' with
  |f g us=>
   have h:=aT h
   cases Wq h.1
   exact Xq (λ_ z=>⟨z.1,(aK.sub l).mpr (sN.2 _ _ h.2▸z.2)⟩) r
  |b _ _=>exact fnt h
 |b i ρ=>
  cases j' with
  |f _ _=>exact fnt h
  |b k η=>
   have h:=aT h
   cases Wq h.1
   exact Xq (λ_ z=>⟨z.1,λn a e=>(z.2 n _ (zv h.2 e)).imp λw y=>⟨y.1,(VR.sub l).mpr y.2⟩⟩) r
end
theorem CY{f:hR->Bool}{l:List hR}:DX f l=true->∀a∈l,f a=true:=by
 induction l with
 |nil=>exact λ_ _ h=>absurd h WT
 |cons b l ih=>exact λh a m=>(WJ.mp m).elim (λe=>e▸(aT (b:=DX f l) h).1) (ih (aT (b:=DX f l) h).2 a)
theorem AE{f:Bn->Bool}{l:List Bn}:EN f l=true->∀a∈l,f a=true:=by
 induction l with
 |nil=>exact λ_ _ h=>absurd h WT
 |cons b l ih=>exact λh a m=>(WJ.mp m).elim (λe=>e▸(aT (b:=EN f l) h).1) (ih (aT (b:=EN f l) h).2 a)
theorem sw{θ:Nat->V}{l:List O}:∀{i:Nat} {o:O},a6 (rK θ l) i=some o->∃a,l[i]?=some a/\o=eR θ a:=by
 induction l with
 |nil=>exact λh=>absurd h.symm ad
 |cons a l ih=>exact λ{i o} h=>by cases i with |zero=>exact⟨a,rfl,(Wn h).symm⟩|succ i=>exact ih h
theorem su{θ:Nat->V}{l:List O}: (rK θ l).length=l.length:=by
 induction l with
 |nil=>rfl
 |cons a l ih=>exact congrArg WU ih
theorem vy{α:Type}{l m:List α}:Dj l m=l++m:=by
 cases m with
 |nil=>exact(Xh l).symm
 |cons _ _=>exact c5
theorem DV{m d:Nat}{l:List Bn}{b:Bn}:b∈Rs m d l->∃c∈l,b=⟨d+(c.b-m),c.t,c.a,c.d⟩:=by
 induction l with
 |nil=>exact λh=>absurd h WT
 |cons c l ih=>exact λh=>(WJ.mp h).elim (λe=>⟨c,.head _,e⟩) λh=>(ih h).imp λ_ z=>⟨.tail _ z.1,z.2⟩
theorem AI{os:List O}:∀{as:List O} {q:Nat} {o a:O},G7 os as=true->os[q]?=some o->as[q]?=some a->o≠.tmp->a≠.tmp:=by
 induction os with
 |nil=>exact λ_ e=>absurd e.symm ad
 |cons p os ih=>
  intro as q o a h e f n
  cases as with
  |nil=>exact fnt h
  |cons b as=>
   cases q with
   |zero=>
    have z:=l8 (aT h).1
    cases e;cases f
    exact λq=>n (dP (z.trans (by rw[q];rfl)))
   |succ q=>exact ih (aT h).2 e f n
structure Fq(S:dl)(a:hR):Prop where
 len:S.p.ext.length<=a.p.ext.length
 t:∀b∈a.p.t,9<=b.t/\44+S.p.ext.length<=b.b/\b.b+b.a<=44+a.p.ext.length
 ext:∀{q:Nat} {o a':O},S.p.ext[q]?=some o->a.p.ext[q]?=some a'->o≠.tmp->a'≠.tmp
 lo:∀{k:Nat} {o a':O},k=12\/k=18->S.p.x.get k=some o->a.p.x.get k=some a'->o≠.tmp->a'≠.tmp
theorem xn{S:dl}{a:hR}(h:Gd S a=true):Fq S a:=by
 have h0:=aT h
 have h1:=aT h0.2
 have h2:=aT h1.2
 have h3:=aT h2.2
 rw[aQ,aQ]at h3
 have no:∀{o a' p q:O},xU (bk o) (bk a')=true->some o=some p->some a'=some q->p≠.tmp->q≠.tmp:=λh e f n q=>by
  cases e;cases f
  exact n (dP ((l8 h).trans (by rw[q];rfl)))
 refine⟨Wl h3.1,λb hb=>?_,λe f n=>AI h0.1 e f n,λ{k o a'} hk e f n=>hk.elim (λq=>?_) λq=>?_⟩
 ·have k:=aT (AE h3.2 b hb)
  exact⟨Wl k.1,Wl (aT k.2).1,Wl (aT k.2).2⟩
 ·subst q;exact no h1.1 e f n
 ·subst q;exact no h2.1 e f n
inductive uP(θ:Nat->V)(os as:List O)(th:List V)(e:List O)(k:Nat)(o:O):Prop
 |new (q i:Nat) (o0 a0:O):os[q]?=some o0->o0≠.tmp->as[q]?=some a0->th[q]?=some (V.ref i)->i-44=k->o=eR θ a0->uP θ os as th e k o
 |old:a6 e k=some o->(∀(q i:Nat) (o0 a0:O),os[q]?=some o0->o0≠.tmp->as[q]?=some a0->th[q]?=some (V.ref i)->i-44≠k)->uP θ os as th e k o
theorem mN{θ:Nat->V}{os:List O}:∀{as:List O} {th:List V} {e:List O},(hG θ os as th e).length=e.length:=by
 induction os with
 |nil=>exact rfl
 |cons o os ih=>
  intro as th e
  cases as with
  |nil=>rfl
  |cons a as=>
   cases th with
   |nil=>rfl
   |cons v th=>
    show(tf (bk o) (hG θ os as th e) (cD v (λi=>hG θ os as th (az e (WP i 44) (eR θ a))) (hG θ os as th e))).length=_
    cases bk o with
    |true=>exact ih
    |false=>cases v with
     |ref i=>exact ih.trans ba
     |_=>exact ih
theorem CI{θ:Nat->V}{os:List O}:∀{as:List O} {th:List V} {e:List O} {k:Nat} {o:O},a6 (hG θ os as th e) k=some o->uP θ os as th e k o:=by
 induction os with
 |nil=>exact λh=>.old h λ_ _ _ _ e=>absurd e.symm ad
 |cons p os ih=>
  intro as th e k o h
  cases as with
  |nil=>exact .old h λ_ _ _ _ _ _ e=>absurd e.symm ad
  |cons a as=>
  cases th with
  |nil=>exact .old h λ_ _ _ _ _ _ _ e=>absurd e.symm ad
  |cons v th=>
  have skip: (p≠.tmp->∀i,v≠.ref i)->a6 (hG θ os as th e) k=some o->uP θ (p::os) (a::as) (v::th) e k o:=λn h=>by
   cases ih h with
   |new q i o0 a0 e1 n1 e2 e3 e4 e5=>exact .new (q+1) i o0 a0 e1 n1 e2 e3 e4 e5
   |old g z=>
    refine .old g λq i o0 a0 e1 n1 e2 e3=>?_
    cases q with
    |zero=>cases e1;cases e3;exact absurd rfl (n n1 i)
    |succ q=>exact z q i o0 a0 e1 n1 e2 e3
  have h:a6 (tf (bk p) (hG θ os as th e) (cD v (λi=>hG θ os as th (az e (WP i 44) (eR θ a))) (hG θ os as th e))) k=some o:=h
  have cs: (bk p=true/\a6 (hG θ os as th e) k=some o->uP θ (p::os) (a::as) (v::th) e k o)->(bk p=false->a6 (cD v (λi=>hG θ os as th (az e (WP i 44) (eR θ a))) (hG θ os as th e)) k=some o->uP θ (p::os) (a::as) (v::th) e k o)->uP θ (p::os) (a::as) (v::th) e k o:=λf g=>by
   cases q:bk p with
   |true=>rw[q]at h;exact f ⟨q,h⟩
   |false=>rw[q]at h;exact g q h
  refine cs (λz=>skip (λn=>absurd (dP z.1) n) z.2) λt h=>?_
  cases v with
  |ref i=>
   have h:a6 (hG θ os as th (az e (WP i 44) (eR θ a))) k=some o:=h
   cases ih h with
   |new q i o0 a0 e1 n1 e2 e3 e4 e5=>exact .new (q+1) i o0 a0 e1 n1 e2 e3 e4 e5
   |old g z=>
    refine(YA (i-44=k)).elim (λq=>?_) λq=>.old ((aX q).symm.trans g) λq' i' o0 a0 e1 n1 e2 e3=>?_
    ·have l:=bK g
     rw[ba]at l
     subst q
     exact .new 0 i p a rfl (lN t) rfl rfl rfl (Wn (g.symm.trans (dK ((aj _ _).trans (Wt l)))))
    ·cases q' with
     |zero=>cases e3;exact q
     |succ q'=>exact z q' i' o0 a0 e1 n1 e2 e3
  |_=>exact skip (λ_ _=>nofun) h
inductive O7(x:XS)(S:dl)(a:hR)(θ:Nat->V)(th:List V)(i:Nat)(o:O):Prop
 |trn (k:Nat) (o0 a0:O):S.p.x.get k=some o0->o0≠.tmp->¬ fq k->k<44+S.p.ext.length->(∀N,dA N th k=.ref i)->a.p.x.get k=some a0->o=eR θ a0->i<x.n->O7 x S a θ th i o
 |old:x.get i=some o->(∀k o0 N,S.p.x.get k=some o0->o0≠.tmp->¬ fq k->dA N th k≠.ref i)->i<x.n->O7 x S a θ th i o
 |new (q:Nat) (a0:O):i=x.n+q->a.p.x.get (44+S.p.ext.length+q)=some a0->o=eR θ a0->O7 x S a θ th i o
theorem y0{x:XS}{S:dl}{a:hR}{θ:Nat->V}{th:List V}{i:Nat}{o:O}(ne:x.n=44+x.e.length)(tl:th.length=S.p.ext.length)(ha:S.p.ext.length<=a.p.ext.length)(h44:∀(q i:Nat),th[q]?=some (V.ref i)->∀o:O,S.p.ext[q]?=some o->o≠.tmp->44<=i)(h: (after x S a θ th).get i=some o):O7 x S a θ th i o:=by
 have kl:∀{k o0 N},S.p.x.get k=some o0->¬ fq k->k<44->dA N th k=.ref k/\(k=12\/k=18):=λ{k o0 N} e s l=>⟨by unfold dA;rw[yQ l];rfl,As e (λe _=>.inl e) (λe _=>.inr e) (λl n1 n2 _=>absurd ⟨l,n1,n2⟩ s) λq e _=>by omega⟩
 revert h
 refine i4 (λi l h=>?_) (λk h=>?_) i
 ·have hn:i<x.n:=by omega
  rw[XS.lo l]at h
  have big:∀{k o0 N},44<=k->S.p.x.get k=some o0->o0≠.tmp->dA N th k=.ref i->False:=λ{k o0 N} lk e n t=>by
   obtain⟨q,rfl⟩:=WM lk
   have e:=(aj _ _).symm.trans (XS.hi.symm.trans e)
   have lq:q<th.length:=tl.symm▸(Wv.mp e).1
   have et:=Wt lq
   have:=h44 q i (et.trans (congrArg some ((gQ et).symm.trans t))) _ e n
   omega
  have one:∀{m:Nat} {p b c:O},(m=12\/m=18)->S.p.x.get m=some p->a.p.x.get m=some b->x.get m=some c->i=m->o=qT θ c p b->O7 x S a θ th i o:=λ{m p b c} hm e1 e2 e3 ei eo=>by
   have lm:m<44:=by omega
   have ns: ¬ fq m:=λs=>hm.elim s.2.1 s.2.2
   subst ei
   have tk:∀N,dA N th i=.ref i:=λN=>by unfold dA;rw[yQ l];rfl
   cases q:bk p with
   |true=>
    unfold qT at eo
    rw[q]at eo
    refine .old (e3.trans (congrArg some eo.symm)) (λk o0 N e n s t=>?_) hn
    rcases Xl k 44 with lk|lk
    ·have z:=kl (N:=N) e s lk
     have:k=i:=by cases z.1.symm.trans t;rfl
     subst this
     exact n (Wn (e.symm.trans e1)▸dP q)
    ·exact big lk e n t
   |false=>
    unfold qT at eo
    rw[q]at eo
    exact .trn i p b e1 (lN q) ns (by omega) tk e2 eo hn
  refine gR h (λe q=>one (.inl rfl) (p:=S.p.o12) (b:=a.p.o12) (c:=x.o12) rfl rfl rfl e q) (λe q=>one (.inr rfl) (p:=S.p.o18) (b:=a.p.o18) (c:=x.o18) rfl rfl rfl e q) λn1 n2 e=>.old (by rw[XS.lo l];unfold D2;rw[jz n1,jz n2];exact e) (λk o0 N e n s t=>?_) hn
  rcases Xl k 44 with lk|lk
  ·have z:=kl (N:=N) e s lk
   have:k=i:=by cases z.1.symm.trans t;rfl
   exact s (this▸⟨l,n1,n2⟩)
  ·exact big lk e n t
 ·have h:a6 (Dj (hG θ S.p.ext a.p.ext th x.e) (rK θ (Ob (len S.p.ext) a.p.ext))) k=some o:=XS.hi.symm.trans h
  rw[vy]at h
  refine im h (λh=>?_) λq ek h=>?_
  ·have hn: 44+k<x.n:=by
    have:=bK h
    rw[mN]at this
    omega
   cases CI h with
   |new q i o0 a0 e1 n1 e2 e3 e4 e5=>
    have:=h44 q i e3 o0 e1 n1
    have ei:i=44+k:=by omega
    subst ei
    exact .trn (44+q) o0 a0 (xh e1) n1 (λs=>by have:=s.1;omega) (by have:=(Wv.mp e1).1;omega) (λN=>gQ e3) (xh e2) e5 hn
   |old g z=>
    refine .old (XS.hi.trans g) (λm o0 N e n s t=>?_) hn
    rcases Xl m 44 with lm|lm
    ·have z:=kl (N:=N) e s lm
     cases z.1.symm.trans t
     omega
    ·obtain⟨q,rfl⟩:=WM lm
     have e:=(aj _ _).symm.trans (XS.hi.symm.trans e)
     have lq:=(Wv.mp e).1
     have et:=Wt (tl.symm▸lq:q<th.length)
     exact z q (44+k) o0 _ e n (Wt (WV lq ha)) (et.trans (congrArg some ((gQ et).symm.trans t))) (WH ..)
  ·rw[mN]at ek
   obtain⟨a0,e1,eo⟩:=sw h
   rw[tK,aQ,Zf]at e1
   exact .new q a0 (by rw[ek,ne,Xm]) (by rw[Xm];exact xh e1) eo
section
variable{G:Gr}{NG:mW G}{Γ:bU}{Z:Nat->Prop}{σ₀:St}{B:Nat}{dr en:Bool}{oz:tF Z σ₀ en}{ψ φ φ':List V}{x:XS}{σ σ':St}{S:dl}{a:hR}{th:List V}{p:Pt}
structure Zc(p:Pt)(ψ:List V)(x:XS)(σ:St)(φ:List V)(j:Nat):Prop where
 lt:j<σ.length
 no:∀k o i j' o',p.x.get k=some o->o≠.tmp->Bo ψ x σ φ k o i j' o'->j'≠j
theorem Bo.noZ(E:Emb (Wf G NG Z σ₀ B dr en oz) ψ x σ){k i j:Nat}{o o':O}(b:Bo ψ x σ φ k o i j o'): ¬ Z j:=by
 obtain⟨p,g,n⟩:=b.known
 cases E.obj i p g n with |mk j1 o1 a _ _ z _=>
 exact gX (a.symm.trans b.at_)▸z b.wok
theorem Zc.of(E:Emb (Wf G NG Z σ₀ B dr en oz) ψ x σ){j:Nat}(z:Z j):Zc p ψ x σ φ j:=⟨E.zl j (.inl z),λk o i j' o' _ _ b e=>b.noZ E (e▸z)⟩
theorem Zc.ok(E:Emb (Wf G NG Z σ₀ B dr en oz) ψ x σ)(hb:∀i,i<44->ψ[i]?=some (.ref i)){en':Bool}(h18:en'=true->p.o18=.tmp):tF (Zc p ψ x σ φ) σ en' where
 big:=Wz oz.big E.gi.len
 lt:=λj z=>z.lt
 st:=λj s=>Zc.of E (oz.st j s)
 en:=λe=>by
  refine⟨WV (by decide) (Wz oz.big E.gi.len),λk o i j' o' g n b q=>b.kd.elim (λz=>?_) λz=>by omega⟩
  have ek:=z.1
  subst ek
  refine z.2.elim (λe12=>?_) λe18=>?_
  ·subst e12
   exact absurd ((gX ((hb 12 (by decide)).symm.trans b.at_)).trans q) (by decide)
  ·subst e18
   exact n ((Wn ((show p.x.get 18=some p.o18 from rfl).symm.trans g)).symm.trans (h18 e))
structure Fin(ψ φ φ':List V)(x:XS)(S:dl)(a:hR)(th:List V):Prop where
 le:Le ψ (ψ++φ'.drop φ.length)
 sub:∀i u,pt φ' i u↔VS (ψ++φ'.drop φ.length) (dA (EH x S a) (DY x S a th) i) u
 new:∀q,(ψ++φ'.drop φ.length)[x.n+q]?=φ'[44+S.p.ext.length+q]?
theorem Fin.mk'(E:Emb (Wf G NG Z σ₀ B dr en oz) ψ x σ)(hb:∀i,i<44->ψ[i]?=some (.ref i))(M:Mt ψ x σ S.p th φ)(ha:S.p.ext.length<=a.p.ext.length)(hl:φ'.length=44+a.p.ext.length)(old:∀(i:Nat),i<φ.length->φ'[i]?=φ[i]?):Fin ψ φ φ' x S a th:=by
 have le:=Le.app ψ (φ'.drop φ.length)
 have pl:φ.length=44+S.p.ext.length:=M.len.trans pn
 have tl:th.length=S.p.ext.length:=by have:=M.cor.len;omega
 have new:∀q,(ψ++φ'.drop φ.length)[x.n+q]?=φ'[44+S.p.ext.length+q]?:=λq=>by
  rw[<-E.len,WQ (WC _ _),WH,Zf,pl]
 have el:WP (len a.p.ext) (len S.p.ext)=a.p.ext.length-S.p.ext.length:=by rw[aQ,aQ];rfl
 have ea:DY x S a th=th++ng x.n (a.p.ext.length-S.p.ext.length):=by unfold DY;rw[c5,el]
 have eN:EH x S a=x.n+(a.p.ext.length-S.p.ext.length):=by unfold EH;rw[el];rfl
 have C:Ge (DY x S a th) (ψ++φ'.drop φ.length) φ':=by
  rw[ea]
  refine⟨by rw[Wu,gq,hl];omega,λi l=>(old i (by omega)).trans (M.cor.base i l),λi v e=>?_⟩
  rcases Xl i th.length with l|l
  ·rw[WE l]at e
   obtain⟨w,e1,r⟩:=M.cor.th i v e
   exact⟨w,(old _ (by omega)).trans e1,VR.up le r⟩
  ·obtain⟨q,rfl⟩:=WM l
   rw[WQ l,WH]at e
   obtain⟨rfl,lt⟩:=gy e
   have hlt: 44+(th.length+q)<φ'.length:=by omega
   refine⟨φ'[44+(th.length+q)],Wt hlt,(new q).trans ?_⟩
   rw[<-tl,Xm]
   exact Wt hlt
 exact⟨le,Ge.at (by rw[Wu,Yu,hl,pl,eN,E.len];omega) (λi l=>le _ _ (hb i l)) C,new⟩
end
section
variable{G:Gr}{NG:mW G}{Γ:bU}{Z:Nat->Prop}{σ₀:St}{B:Nat}{dr en:Bool}{oz:tF Z σ₀ en}{ψ φ φ':List V}{x:XS}{σ σ':St}{S:dl}{a:hR}{th:List V}{p:Pt}
theorem Bo.ns{k i j:Nat}{o o':O}(b:Bo ψ x σ φ k o i j o'): ¬ fq k:=λs=>b.kd.elim (λz=>z.2.elim s.2.1 s.2.2) λz=>Z1 z.1 s.1
theorem xH(E:Emb (Wf G NG Z σ₀ B dr en oz) ψ x σ)(hb:∀i,i<44->ψ[i]?=some (.ref i))(M:Mt ψ x σ S.p th φ)(A:Fq S a){B':Nat}{oz':tF (Zc S.p ψ x σ φ) σ S.p.en}(E':Emb (Wf G NG (Zc S.p ψ x σ φ) σ B' S.p.dr S.p.en oz') φ' (a.at S).x σ')(old:∀(i:Nat),i<φ.length->φ'[i]?=φ[i]?)(F:Fin ψ φ φ' x S a th)
  (hd:S.p.dr=true->dr=true)(hB:dr=true->S.p.dr=true->B<=90000->B'+(x.c-S.p.c)<=B){θ:Nat->V}(hθ:θ=dA (EH x S a) (DY x S a th)):Emb (Wf G NG Z σ₀ B dr en oz) (ψ++φ'.drop φ.length) (after x S a θ th) σ':=by
 have Fs:∀i u,pt φ' i u↔VS (ψ++φ'.drop φ.length) (θ i) u:=hθ▸F.sub
 have pl:φ.length=44+S.p.ext.length:=M.len.trans pn
 have tl:th.length=S.p.ext.length:=by have:=M.cor.len;omega
 have al:φ'.length=44+a.p.ext.length:=E'.len.trans pn
 have ha:=A.len
 have kn:∀{k o0 a0},S.p.x.get k=some o0->o0≠.tmp->¬ fq k->a.p.x.get k=some a0->a0≠.tmp:=λ{k o0 a0} e n s f=>As e (λek _=>A.lo (.inl ek) e f n) (λek _=>A.lo (.inr ek) e f n) (λl n1 n2 _=>absurd ⟨l,n1,n2⟩ s) λq ek e1=>by
  subst ek
  exact A.ext e1 ((aj _ _).symm.trans (XS.hi.symm.trans f)) n
 have bo:∀{k o0 i},S.p.x.get k=some o0->o0≠.tmp->¬ fq k->dA x.n th k=.ref i->∃j o',Bo ψ x σ φ k o0 i j o':=λ{k o0 i} e n s t=>by
  cases M.ob k o0 e n with
  |st z=>exact absurd z s
  |bo i2 j o' t2 b=>
   have:i2=i:=by cases t2.symm.trans t;rfl
   exact⟨j,o',this▸b⟩
 have getA:∀{i o},(after x S a θ th).get i=some o->O7 x S a θ th i o:=λh=>y0 E.ne tl ha (λq i et o e n=>by
  obtain⟨j,o',b⟩:=bo (xh e) n (λs=>by have:=s.1;omega) (gQ et)
  exact b.kd.elim (λz=>by omega) λz=>z.2.1) h
 have same:∀{j},Zc S.p ψ x σ φ j->(S.p.dr=true->¬ Yv j)->a6 σ' j=a6 σ j:=λ{j} z y=>E'.gi.fr j z y
 have known:∀{i o},(after x S a θ th).get i=some o->o≠.tmp->i<x.n->(∃p,x.get i=some p/\p≠.tmp)/\At (Wf G NG Z σ₀ B dr en oz) (ψ++φ'.drop φ.length) σ' i o:=λ{i o} e n lt=>by
  cases getA e with
  |trn k o0 a0 e1 n1 s lk t e2 eo _=>
   obtain⟨j,o1,b⟩:=bo e1 n1 s (t _)
   cases E'.obj k a0 e2 (kn e1 n1 s e2)with |mk j2 o' c d os _ y=>
   have ej:=gX (((old k (pl▸lk)).trans b.id).symm.trans c)
   subst ej eo
   obtain⟨p,g,np⟩:=b.known
   cases E.obj i p g np with |mk j3 o3 c3 d3 os3 z3 y3=>
   have ej:=gX (b.at_.symm.trans c3)
   subst ej
   exact⟨b.known,j,o',F.le _ _ b.at_,d,(OR.sub Fs n).mp os,z3,y3⟩
  |old e no _=>
   cases E.obj i o e n with |mk j o' c d os z y=>
   refine⟨⟨o,e,n⟩,j,o',F.le _ _ c,(same ⟨bK d,λk o0 i0 j0 o1 g n0 b q=>?_⟩ λ_=>y).trans d,os.up F.le,z,y⟩
   subst q
   obtain⟨p0,g0,np0⟩:=b.known
   have hi:i0=i:=E.inj g0 np0 e n b.at_ c
   subst hi
   cases M.ob k o0 g n0 with
   |st s=>exact b.ns s
   |bo i2 j2 o2 t2 b2=>
    have ej:=gX (b2.id.symm.trans b.id)
    subst ej
    obtain⟨p2,g2,np2⟩:=b2.known
    have hi:i2=i0:=E.inj g2 np2 e n b2.at_ c
    subst hi
    exact no k o0 _ g n0 b.ns t2
  |new q a0 ei _ _=>omega
 have newk:∀{i o},(after x S a θ th).get i=some o->o≠.tmp->x.n<=i->∃q a0,i=x.n+q/\a.p.x.get (44+S.p.ext.length+q)=some a0/\a0≠.tmp/\o=eR θ a0:=λ{i o} e n l=>by
  cases getA e with
  |new q a0 ei e1 eo=>exact⟨q,a0,ei,e1,λz=>n (by rw[eo,z];rfl),eo⟩
  |trn _ _ _ _ _ _ _ _ _ _ lt=>omega
  |old _ _ lt=>omega
 have newj:∀{k j a0 o'},44+S.p.ext.length<=k->a.p.x.get k=some a0->a0≠.tmp->φ'[k]?=some (V.ref j)->a6 σ' j=some o'->(wok k=true->¬ Zc S.p ψ x σ φ j)->σ.length<=j:=λ{k j a0 o'} lk e n f g z=>Zt λlt=>by
  refine z (by unfold wok;rw[Xv (show 44<=k by omega)];rfl) ⟨lt,λk0 o0 i0 j0 o1 g0 n0 b q=>?_⟩
  subst q
  have l0:k0<φ.length:=(Wv.mp b.id).1
  have e0:∃a1,a.p.x.get k0=some a1:=As g0 (λe _=>⟨a.p.o12,by rw[e];rfl⟩) (λe _=>⟨a.p.o18,by rw[e];rfl⟩) (λl n1 n2 _=>absurd ⟨l,n1,n2⟩ b.ns) λq e e1=>⟨_,by rw[e];exact xh (Wt (WV (Wv.mp e1).1 ha))⟩
  obtain⟨a1,e0⟩:=e0
  exact a0t _ (E'.mono k0 k a1 a0 j0 j0 e0 (kn g0 n0 b.ns e0) e n ((old k0 l0).trans b.id) f (by omega))
 have idn:∀{q},(ψ++φ'.drop φ.length)[x.n+q]?=φ'[44+S.p.ext.length+q]?:=λ{q}=>F.new q
 have ido:∀{i u},i<x.n->(ψ++φ'.drop φ.length)[i]?=some u->ψ[i]?=some u:=λ{i u} l e=>(WE (E.len▸l)).symm.trans e
 have len':σ.length<=σ'.length:=E'.gi.len
 have nN: (after x S a θ th).n=x.n+(a.p.ext.length-S.p.ext.length):=by
  show WW x.n (WP (len a.p.ext) (len S.p.ext))=_
  rw[aQ,aQ]
  rfl
 constructor
 ·rw[Wu,Yu,al,pl,nN,E.len]
  omega
 ·rw[nN,E.ne]
  show _=44+(Dj (hG θ S.p.ext a.p.ext th x.e) (rK θ (Ob (len S.p.ext) a.p.ext))).length
  rw[vy,Wu,mN,su,tK,aQ,Yu,Xm]
 ·exact λi u e=>(Xl i x.n).elim (λl=>E.nn i u (ido l e)) λl=>(WM l).elim λq eq=>by
   subst eq
   exact E'.nn _ u (idn.symm.trans e)
 ·refine λi o e n=>(Xl i x.n).elim (λl=>(known e n l).2) λl=>?_
  obtain⟨q,a0,rfl,e2,n2,rfl⟩:=newk e n l
  cases E'.obj _ a0 e2 n2 with |mk j o' c d os z y=>
  have lj:=newj (WC _ q) e2 n2 c d z
  exact⟨j,o',idn.trans c,d,(OR.sub Fs n).mp os,λ_ z=>absurd (E.zl j (.inl z)) (Z1 lj),y⟩
 ·refine λi k o o2 j l ei ni ek nk fi fk lt=>(Xl k x.n).elim (λlk=>?_) λlk=>?_
  ·obtain⟨p1,g1,n1⟩:=(known ei ni (Nat.lt_trans lt lk)).1
   obtain⟨p2,g2,n2⟩:=(known ek nk lk).1
   exact E.mono i k p1 p2 j l g1 n1 g2 n2 (ido (Nat.lt_trans lt lk) fi) (ido lk fk) lt
  ·obtain⟨q,a2,rfl,e2,n2,rfl⟩:=newk ek nk lk
   have fk:=idn.symm.trans fk
   cases E'.obj _ a2 e2 n2 with |mk l' o' c d os z y=>
   have el:=gX (fk.symm.trans c)
   subst el
   have ll:=newj (WC _ q) e2 n2 c d z
   refine(Xl i x.n).elim (λli=>?_) λli=>?_
   ·obtain⟨p1,g1,n1⟩:=(known ei ni li).1
    cases E.obj i p1 g1 n1 with |mk j1 o1 c1 d1 _ _ _=>
    exact WV (gX ((ido li fi).symm.trans c1)▸bK d1) ll
   ·obtain⟨q0,a1,rfl,e1,n1,rfl⟩:=newk ei ni li
    exact E'.mono _ _ a1 a2 j l e1 n1 e2 n2 (idn.symm.trans fi) fk (by omega)
 ·exact λj z=>WV (E.zl j z) len'
 ·intro b hb'
  have hb':b∈app (Rs (WW 44 (len S.p.ext)) x.n a.p.t) x.t:=hb'
  rw[c5]at hb'
  refine(X1.mp hb').elim (λm=>?_) λm=>tz.up F.le (E.hp b m)
  obtain⟨c,mc,rfl⟩:=DV m
  obtain⟨h9,hlo,hhi⟩:=A.t c mc
  cases(E'.hp c (.tail _ mc)).data h9 with |mk vs d hl hD hat=>
  refine .of h9 ⟨vs,d,hl,hD,λj v e=>?_⟩
  obtain⟨r,hr⟩:=WM hlo
  have ei:x.n+(c.b-WW 44 (len S.p.ext))+j=x.n+(r+j):=by rw[aQ,hr,show 44+S.p.ext.length+r-WW 44 S.p.ext.length=r from WH ..,Xm]
  show(ψ++φ'.drop φ.length)[x.n+(c.b-WW 44 (len S.p.ext))+j]?=_
  rw[ei,idn,<-Xm,<-hr]
  exact hat j v e
 ·have un:∀{j},Z j->(dr=true->¬ Yv j)->a6 σ' j=a6 σ j:=λ{j} z y=>same (Zc.of E z) λd=>y (hd d)
  have e3:S.p.dr=false->a6 σ' 3=a6 σ 3/\a6 σ' 43=a6 σ 43:=λq=>
   ⟨same (Zc.of E (oz.st 3 ⟨by decide,by decide,by decide⟩)) (λz=>absurd (q.symm.trans z) Ww),same (Zc.of E (oz.st 43 ⟨by decide,by decide,by decide⟩)) λz=>absurd (q.symm.trans z) Ww⟩
  refine⟨Wz E.gi.len len',λj z y=>(un z y).trans (E.gi.fr j z y),E'.gi.wr,λd=>?_,λd=>?_,λd=>?_⟩
  ·cases q:S.p.dr with
   |true=>exact E'.gi.row q
   |false=>unfold kB;rw[(e3 q).1];exact E.gi.row d
  ·obtain⟨l0,el0,hl0,h90⟩:=E.gi.reads d
   cases q:S.p.dr with
   |true=>
    obtain⟨l,el,hl,_⟩:=E'.gi.reads q
    exact⟨l,el,Wz (YY (Wz (WC _ _) hl) _) (hB d q h90),h90⟩
   |false=>exact⟨l0,(e3 q).2.trans el0,Wz (XC (Nat.sub_le _ _) _) hl0,h90⟩
  ·unfold ky
   rw[un (oz.en d) λ_ y=>y.elim (λq=>absurd q (by decide)) λq=>absurd q (by decide)]
   exact E.gi.ent d
end
noncomputable section
structure Gs where
 i:Nat
 th:List V
 cs:List Ct
structure O2 where
 sch:Nat->dl
 look:Nat->hP->XS->Option Gs
noncomputable def Ry(G:Gr)(T:O2)(ok:Nat->Bool)(lv:Nat)(j:hP)(x:XS)(K:V->Env->XS->Bool):Option Bool:=opt (T.look lv j x) (λp=>tf (an (ok p.i) (an (Sd (dA x.n p.th) (T.sch p.i).j j) (TQ G (T.sch p.i) p.th p.cs lv x))) (some (ST (T.sch p.i) p.th x K)) none) none
noncomputable def P0(G:Gr)(T:O2)(ok:Nat->Bool):Hk:=⟨λlv f vs x K=>Ry G T ok lv (.f f vs) x λv _ x=>K v x,λlv i ρ x K=>Ry G T ok lv (.b i ρ) x λ_ ρ x=>K (.next,ρ) x⟩
end
section
variable{G:Gr}{NG:mW G}{Γ:bU}{Z:Nat->Prop}{σ₀:St}{B:Nat}{dr en:Bool}{oz:tF Z σ₀ en}{ψ:List V}{x:XS}{σ:St}{S:dl}{th:List V}{cs:List Ct}{lv:Nat}
inductive uJ(W:Wx)(ψ:List V)(K:V->Env->XS->Bool)(r:R (V × Env)):Prop
 |mk (ψ':List V) (u:V) (ρ':Env) (σ':St) (v:V) (ρ:Env) (x':XS):r=.ok (u,ρ') σ'->Le ψ ψ'->Emb W ψ' x' σ'->VS ψ' v u->ES ψ' ρ ρ'->K v ρ x'=true->uJ W ψ K r
theorem Du(VA:sA G NG Γ S)(h:TQ G S th cs lv x=true){K:V->Env->XS->Bool}(g:ST S th x K=true)(E:Emb (Wf G NG Z σ₀ B dr en oz) ψ x σ){j j':hP}(hm:Sd (dA x.n th) S.j j'=true)(hj:JR (pt ψ) j' j){n:Nat}(hn:lv+1<=n):uJ (Wf G NG Z σ₀ B dr en oz) ψ K (GL Γ n j σ):=by
 have h1:=aT h
 have h2:=aT h1.2
 have h3:=aT h2.2
 have h4:=aT h3.2
 have hc:=Wl h2.1
 obtain⟨hb,ht,φ,M⟩:=FB E h3.1
 have hd:S.p.dr=true->dr=true:=λd=>(yx h4.1).elim (λq=>absurd (d.symm.trans (QK q)) aV) λh=>by
  obtain⟨b,m,_,e⟩:=qp (aT h).1
  exact((E.hp b m).row e).1
 have he:S.p.en=true->S.p.o18=.tmp/\ky σ:=λd=>(yx h4.2).elim (λq=>absurd (d.symm.trans (QK q)) aV) λh=>⟨dP (aT h).1,AZ E hb (aT h).2⟩
 have oz':tF (Zc S.p ψ x σ φ) σ S.p.en:=Zc.ok E hb λd=>(he d).1
 have E0:Emb (Wf G NG (Zc S.p ψ x σ φ) σ (B-(x.c-S.p.c)) S.p.dr S.p.en oz') φ S.p.x σ:=M.emb E hb ht (λj z=>z.lt) (λk o i j o' g n b z=>z.no k o i j o' g n b rfl)
  ⟨WO _,λ_ _ _=>rfl,E.gi.wr,λd=>E.gi.row (hd d),λd=>by
   obtain⟨l,el,hl,h9⟩:=E.gi.reads (hd d)
   exact⟨l,el,by omega,by omega⟩,λd=>(he d).2⟩
 cases VA _ _ φ σ oz' E0 j (Ic M.sub hm hj) n (Wz (Wl h1.1) (WR hn))with |mk a φ' u ρ' σ' ma run E' old hv hρ=>
 have ga:=aT (CY g a ma)
 have gk:=ga.2
 rw[dg,pf.2,pf.1,Bl]at gk
 have gk:K (jt (dA (EH x S a) (DY x S a th)) a.v) (ul (dA (EH x S a) (DY x S a th)) a.ρ) (after x S a (dA (EH x S a) (DY x S a th)) th)=true:=au gk (λ_ h=>h) λ_ h=>(BJ _ _).symm.trans h
 have A:=xn ga.1
 have F:=Fin.mk' (a:=a) E hb M A.len (E'.len.trans pn) old
 exact⟨_,u,ρ',σ',_,_,_,run,F.le,xH E hb M A E' old F hd (λd _ h9=>by
  obtain⟨l,_,hl,_⟩:=E.gi.reads d
  omega) rfl,(VR.sub F.sub).mp hv,(ER.sub F.sub).mp hρ,gk⟩
theorem zA{α β:Type}{r:R α}{f:α->St->R β}{b:β}{σ:St}{P:Prop}(h:r.bind f=.ok b σ)(k:∀a σ',r=.ok a σ'->f a σ'=.ok b σ->P):P:=by
 cases r with
 |ok a σ'=>exact k a σ' rfl h
 |_=>exact nomatch h
theorem D1{T:O2}{ok:Nat->Bool}(VA:∀i,ok i=true->sA G NG Γ (T.sch i)){ke:List Nat->Bool}:mi (Wf G NG Z σ₀ B dr en oz) Γ (P0 G T ok) ke:=by
 have main:∀{lv:Nat} {j k:hP} {x:XS} {K:V->Env->XS->Bool} {φ:List V} {σ:St},Ry G T ok lv j x K=some true->Emb (Wf G NG Z σ₀ B dr en oz) φ x σ->JR (pt φ) j k->∀n,lv+1<=n->uJ (Wf G NG Z σ₀ B dr en oz) φ K (GL Γ n k σ):=λ{lv j k x K φ σ} h E jr n hn=>
  a8 h ad λp e h=>am h ad λq h=>Du (VA _ (aT q).1) (aT (aT q).2).2 (Wn h) E (aT (aT q).2).1 jr hn
 refine⟨λ{m f vs x K φ us σ} h E hv n hn=>?_,λ{m i ρ x K φ ρ' σ} h E A n hn=>?_⟩
 ·cases main (j:= .f f vs) (k:= .f f us) h E ⟨us,rfl,hv⟩ n hn with |mk ψ' u ρ' σ' v ρ x' run le E' r _ k=>
  refine zA (r:=callF Γ n f us σ) (f:=λv σ=>R.ok (v,([]:Env)) σ) run λa s e e2=>?_
  rw[e]
  cases e2
  exact .ret le E' r k
 ·cases main (j:= .b i ρ) (k:= .b i ρ') h E ⟨ρ',rfl,A⟩ n hn with |mk ψ' u η' σ' v η0 x' run le E' _ r k=>
  refine zA (r:=ex Γ (n+1) (.mk i) ρ' σ) (f:=λq σ=>vd q.1 (.ok (V.none,q.2) σ) .bad .bad λ_=>.bad) run λa s e e2=>?_
  rw[e]
  obtain⟨f,η2⟩:=a
  cases f with
  |next=>cases e2;exact .ret (P:=FS) (v:=(.next,η0)) le E' ⟨r,rfl⟩ k
  |_=>exact nomatch e2
end
theorem mA{L:List Int}:aG (L.map .int)=true/\jd (L.map .int)=0:=by
 induction L with
 |nil=>exact⟨rfl,rfl⟩
 |cons a r ih=>exact⟨ih.1,by show max 0 (jd (r.map .int))=0;rw[ih.2];rfl⟩
theorem ra{n:Nat}{q:Bool}{v:V}{σ σ₁ σ₂:St}(t:tr ΓP (n+16) (a0H .ne (a0F 87) (.lst [])) [(87,.ref 3)] σ=.ok q σ₁)(e:tf q (ev ΓP (n+16) (a0J (a0F 87) gv []) [(87,.ref 3)] σ₁) (ev ΓP (n+16) (.c (.int 0)) [(87,.ref 3)] σ₁)=.ok v σ₂):callF ΓP (n+20) 89 [.ref 3] σ=.ok v σ₂:=by
 show((((tr ΓP (n+16) (a0H .ne (a0F 87) (.lst [])) [(87,.ref 3)] σ).bind λq σ=>tf q (ev ΓP (n+16) (a0J (a0F 87) gv []) [(87,.ref 3)] σ) (ev ΓP (n+16) (.c (.int 0)) [(87,.ref 3)] σ)).bind λv σ=>R.ok (F.ret v,[(87,V.ref 3)]) σ).bind λq σ=>bO q σ λρ=>exB ΓP (n+18) [] ρ σ).bind nE=_
 rw[t]
 show(((tf q (ev ΓP (n+16) (a0J (a0F 87) gv []) [(87,.ref 3)] σ₁) (ev ΓP (n+16) (.c (.int 0)) [(87,.ref 3)] σ₁)).bind λv σ=>R.ok (F.ret v,[(87,V.ref 3)]) σ).bind λq σ=>bO q σ λρ=>exB ΓP (n+18) [] ρ σ).bind nE=_
 rw[e]
 rfl
inductive Nxt(σ:St):Prop
 |mk (k:Int) (σ':St): (∀n,30<=n->callF ΓP n 89 [.ref 3] σ=.ok (.int k) σ')->kB σ'->σ.length<=σ'.length->(∀j,j<σ.length->j≠3->a6 σ' j=a6 σ j)->Nxt σ
theorem yA{σ:St}(h:kB σ):Nxt σ:=by
 obtain⟨L,e,hL,hl⟩:=h
 have e':a6 (σ++[O.lst []]) 3=some (.lst (L.map .int)):=stGet_app e
 have e2:a6 (σ++[O.lst []]) σ.length=some (.lst []):=jZ (i:=0)
 have t:∀n q,BG (L.map V.int) []= !q->tr ΓP (n+16) (a0H .ne (a0F 87) (.lst [])) [(87,.ref 3)] σ=.ok q (σ++[O.lst []]):=λn q hq=>by
  show((zP (E3 (σ++[O.lst []]) 3 σ.length)).bind λq σ=>R.ok (.bool q) σ).bind (λv σ=>dW σ v)=_
  rw[show E3 (σ++[O.lst []]) 3 σ.length=gd (aG (L.map V.int)&&aG []&&jq (jd (L.map V.int)+1) (jd []+1)) (.ok (BG (L.map V.int) []) _)from(d8 e').trans (d8 e2),mA.1,mA.2,hq]
  cases q<;>rfl
 have le:σ.length<=(σ++[O.lst []]).length:=by rw[Wu];exact WC _ _
 have up:∀{P:Nat->Prop},(∀n,P (n+20))->∀n,30<=n->P n:=λ{P} k n hn=>(WM (Wz (show 20<=30 by decide) hn)).elim λm e=>by
  rw[e,Nat.add_comm]
  exact k m
 rcases List.eq_nil_or_concat L with rfl| ⟨r,a,rfl⟩
 ·exact⟨0,σ++[.lst []],up λn=>ra (t n false rfl) rfl,⟨[],e',nofun,Xu _⟩,le,λj l _=>dv l⟩
 ·rw[List.concat_eq_append]at e hL hl e' t
  refine⟨a,az (σ++[O.lst []]) 3 (.lst (r.map .int)),up λn=>ra (t n true (by cases r<;>rfl)) ?_,⟨r,dK e',λx hx=>hL x (ZG _ hx),?_⟩,by rw[ba];exact le,λj l q=>(aX (YQ q)).trans (dv l)⟩
  ·show mM ΓP (lw ΓP (n+15)) (.ref 3) gv [] [(87,.ref 3)] (σ++[O.lst []])=_
   show opt (a6 (σ++[O.lst []]) 3) (ub ΓP (lw ΓP (n+15)) 3 gv [] [(87,.ref 3)] (σ++[O.lst []])) .bad=_
   rw[e']
   show Mine.atL (σ++[O.lst []]) 3 (λl=>iG (σ++[O.lst []]) 3 l gv []) .bad=_
   rw[d8 e',Yb]
   show lc (r.map V.int++[V.int a]).reverse .bad (λv r=>jT (σ++[O.lst []]) 3 v r.reverse)=_
   rw[List.reverse_append]
   show jT (σ++[O.lst []]) 3 (.int a) (r.map V.int).reverse.reverse=_
   rw[List.reverse_reverse]
   rfl
  ·rw[Wu]at hl
   exact Wz (WC _ _) hl
theorem lO{G:Gr}{NG:mW G}{Z:Nat->Prop}{σ₀:St}{B:Nat}{dr en:Bool}{oz:tF Z σ₀ en}:mI (Wf G NG Z σ₀ B dr en oz) ΓP:=λ{φ x σ b} E m t=>by
 obtain⟨hd,e⟩:=(E.hp b m).row t
 cases yA (E.gi.row hd)with |mk k σ' c r l g=>
 have big:=Wz oz.big E.gi.len
 have gg:∀{j},j<44->j≠3->a6 σ' j=a6 σ j:=λh q=>g _ (WV h big) q
 refine⟨.ref 3,e,k,σ',c,E.len,E.ne,E.nn,λi o e n=>?_,E.mono,λj z=>WV (E.zl j z) l,E.hp,Wz E.gi.len l,λj z y=>(g j (E.zl j (.inl z)) λq=>y hd (.inl q)).trans (E.gi.fr j z y),λi o e n=>(gg (cG e n).1.1 (cG e n).2.1).trans (E.gi.wr i o e n),λ_=>r,λd=>?_,λd=>?_⟩
 ·cases E.obj i o e n with |mk j o' a b os z y=>
  exact⟨j,o',a,(g j (bK b) λq=>y (.inl q)).trans b,os,z,y⟩
 ·unfold lC;rw[gg (by decide) (by decide)];exact E.gi.reads d
 ·unfold ky;rw[gg (by decide) (by decide)];exact E.gi.ent d
noncomputable section
variable(G:Gr)
noncomputable def V6(n:Nat)(l:List V):List V:=iq (λq=>.ref (WW n q)) l
noncomputable def yX(ts:List Nat):Nat->List Bn:=@WB Nat (λ_=>Nat->List Bn) (λ_=>[]) (λt _ ih n=>⟨n,t,G.ar t,G.dB t⟩::ih (WW n (G.ar t))) ts
noncomputable def LZ(l:List Nat):Nat:=@WB Nat (λ_=>Nat) 0 (λt _ ih=>WW (G.ar t) ih) l
noncomputable def HW(vs:List V):List V->List V:=@WB V (λ_=>List V->List V) (λl=>l) (λv _ ih l=>lc l [] λ_ s=>v::ih s) vs
noncomputable def Me(i:Nat)(vs:List V):List V->List V:=@XI (λ_=>List V->List V) (HW vs) (λ_ ih l=>lc l [] λu s=>u::ih s) i
noncomputable def Ty(op:Nat->Bool)(bs:List Bn):Nat->List V->List Bn->(Nat->List V->List Bn->Bool)->Bool:=@WB Bn (λ_=>Nat->List V->List Bn->(Nat->List V->List Bn->Bool)->Bool) (λn θ t k=>k n θ t) (λb _ ih n θ t k=>
 tf (op b.t) (an (WD 44 b.b) (an (WD 10 b.t) (qb (G.np b.t) λp=>ih (WW n (LZ G (G.pr b.t p).subs)) (Me (WP b.b 44) (V6 n (G.pr b.t p).tm) θ) (app t (yX G (G.pr b.t p).subs n)) k))) (ih n θ (app t [b]) k)) bs
noncomputable def O3(p:Pt)(n:Nat)(θ:List V)(t:List Bn):Pt:=⟨eR (dA n θ) p.o12,eR (dA n θ) p.o18,app (rK (dA n θ) p.ext) (rep .tmp (WP n (WW 44 (len p.ext)))),t,p.c,p.dr,p.en⟩
noncomputable def Nt(hk:Hk)(m:Nat)(j:hP)(x:XS)(K:V->Env->XS->Bool):Bool:=@hP.rec (λ_=>Bool) (λf vs=>(xl ΓP hk (λ_=>false) m).callF f vs x λv x=>K v [] x) (λi ρ=>(xl ΓP hk (λ_=>false) m).mb i ρ x λq x=>vd q.1 (K .none q.2 x) false false λ_=>false) j
noncomputable def UO(j:hP)(k:hP->Bool):Bool:=@hP.rec (λ_=>Bool) (λf vs=>uK vs λvs=>k (.f f vs)) (λi ρ=>Qd ρ λρ=>k (.b i ρ)) j
noncomputable def vz(S:dl)(x:XS)(v:V)(ρ:Env)(θ:List V)(a:hR)(g:Option Gs):Bool:=opt g (λg=>an (WD a.p.c x.c) (an (mt G x (a.at S) (app θ g.th) g.cs) (an (QB (dA x.n (app θ g.th)) a.v v) (QM (dA x.n (app θ g.th)) a.ρ ρ)))) false
noncomputable def yI(f:hR->Bool)(l:List hR):Bool:=@WB hR (λ_=>Bool) false (λa _ ih=>or (f a) ih) l
noncomputable def NU(T:O2)(ok op:Nat->Bool)(gs:hR->XS->V->Env->List V->Option Gs)(S:dl):Bool:=
 Ty G op S.p.t (WW 44 (len S.p.ext)) (ng 44 (len S.p.ext)) [] λn θ t=>qz n λn=>F6 t λt=>Qt (O3 S.p n θ t).x λx=>UO (Sj (dA n θ) S.j) λj=>Nt (P0 G T ok) S.m j x λv ρ x=>yI (λa=>vz G S x v ρ θ a (gs a x v ρ θ)) S.alts
end
section
variable{G:Gr}{NG:mW G}{Z:Nat->Prop}{σ₀:St}{B:Nat}{dr en:Bool}{oz:tF Z σ₀ en}{φ:List V}{σ:St}
theorem zX{f:hR->Bool}{l:List hR}:yI f l=true->∃a∈l,f a=true:=by
 induction l with
 |nil=>exact fnt
 |cons a l ih=>exact λh=>(yx (b:=yI f l) h).elim (λh=>⟨a,.head _,h⟩) λh=>(ih h).imp λb z=>⟨.tail _ z.1,z.2⟩
theorem Bs{vs:List V}:∀{l:List V} {i:Nat} {v:V},(HW vs l)[i]?=some v->vs[i]?=some v\/l[i]?=some v:=by
 induction vs with
 |nil=>exact .inr
 |cons w vs ih=>
  intro l i v h
  cases l with
  |nil=>exact absurd h.symm ad
  |cons u l=>cases i with
   |zero=>exact .inl h
   |succ i=>exact ih h
theorem CA{vs:List V}:∀{l:List V},(HW vs l).length=l.length:=by
 induction vs with
 |nil=>exact rfl
 |cons w vs ih=>exact λ{l}=>by cases l with |nil=>rfl|cons _ _=>exact congrArg WU ih
theorem Cu{vs:List V}{j:Nat}:∀{l:List V} {i:Nat} {v:V},(Me j vs l)[i]?=some v->(∃q,i=j+q/\vs[q]?=some v)\/l[i]?=some v:=by
 induction j with
 |zero=>exact λ{_ i _} h=>(Bs h).imp (λe=>⟨i,(a03 i).symm,e⟩) id
 |succ j ih=>
  intro l i v h
  cases l with
  |nil=>exact absurd h.symm ad
  |cons u l=>cases i with
   |zero=>exact .inr h
   |succ i=>exact(ih (l:=l) h).imp (λz=>z.imp λq y=>⟨by rw[y.1,Nat.succ_add],y.2⟩) id
theorem CO{vs:List V}{j:Nat}:∀{l:List V},(Me j vs l).length=l.length:=by
 induction j with
 |zero=>exact CA
 |succ j ih=>exact λ{l}=>by cases l with |nil=>rfl|cons _ _=>exact congrArg WU ih
structure KM(G:Gr)(dr en:Bool)(φ φ':List V)(n:Nat)(θ:List V)(t:List Bn):Prop where
 len:φ'.length=n
 le:Le φ φ'
 thl:φ.length=44+θ.length
 th:∀i v,θ[i]?=some v->∃w,φ[44+i]?=some w/\VS φ' v w
 hp:∀b∈t,tz G dr en φ' b
 nn:∀(i:Nat) (u:V),φ'[i]?=some u->u≠V.none
structure Sub(G:Gr)(dr en:Bool)(φ:List V)(ts:List Nat)(ws:List V):Prop where
 len:ws.length=LZ G ts
 nn:∀w∈ws,w≠V.none
 hp:∀b∈yX G ts φ.length,∀ψ,tz G dr en (φ++ws++ψ) b
theorem Em(a9:G.ar 9=1){ts:List Nat}:∀{ws φ:List V},Dens G ts ws->Sub G dr en φ ts ws:=by
 induction ts with
 |nil=>exact λd=>by cases d;exact⟨rfl,λ_ h=>absurd h WT,λ_ h=>absurd h WT⟩
 |cons t ts ih=>
  intro ws φ d
  cases d with | @cons _ vs ws _ t9 d ds=>
  have l:=d.len a9
  have z:=ih (φ:=φ++vs) ds
  refine⟨by rw[Wu,l,z.len];rfl,λw hw=>(X1.mp hw).elim (d.nn w) (z.nn w),λb hb ψ=>?_⟩
  rw[show φ++(vs++ws)++ψ=φ++vs++ws++ψ from by rw[Xb φ vs ws]]
  refine(WJ.mp hb).elim (λe=>?_) λhb=>z.hp b (by rw[Wu,l];exact hb) ψ
  subst e
  refine .of t9 ⟨vs,d,l,rfl,λj v ev=>?_⟩
  have lj:=(Wv.mp ev).1
  rw[Xb,Xb,WQ (WC _ _),WH,WE lj]
  exact ev
theorem JY(a9:G.ar 9=1){op:Nat->Bool}{P:Prop}{k:Nat->List V->List Bn->Bool}(kk:∀n θ t φ',k n θ t=true->KM G dr en φ φ' n θ t->P){bs:List Bn}:∀{n:Nat} {θ:List V} {t:List Bn} {φ':List V},Ty G op bs n θ t k=true->(∀b∈bs,tz G dr en φ b)->KM G dr en φ φ' n θ t->P:=by
 induction bs with
 |nil=>exact λh _ O=>kk _ _ _ _ h O
 |cons b bs ih=>
  intro n θ t φ' h hb O
  have hb0:=hb b (.head _)
  have hbs:∀b∈bs,tz G dr en φ b:=λb h=>hb b (.tail _ h)
  refine au h (λq h=>?_) λq h=>?_
  ·have h1:=aT h
   have h2:=aT h1.2
   have b44:=Wl h1.1
   have t10:=Wl h2.1
   cases hb0.data (by omega)with |mk vs d _ _ at_=>
   refine d.inv (by omega) λp ws hp ds hv=>?_
   have h3:=gw h2.2 p hp
   rw[c5]at h3
   have z:=Em (dr:=dr) (en:=en) (φ:=φ') a9 ds
   have le:=Le.app φ' ws
   refine ih h3 hbs ⟨by rw[Wu,O.len,z.len];rfl,O.le.trans le,by rw[CO];exact O.thl,λi v e=>?_,λc hc=>?_,λi u e=>?_⟩
   ·refine(Cu e).elim (λz=>z.elim λr y=>?_) λe=>(O.th i v e).imp λw y=>⟨y.1,VR.up le y.2⟩
    have cor:∀i u,pt ws i u↔VS (φ'++ws) (V.ref (n+i)) u:=λi u=>by
     show _↔(φ'++ws)[n+i]?=some u
     rw[<-O.len,WQ (WC _ _),WH]
    refine((aK.sub cor).mp hv).get y.2 λw ew z=>⟨w,?_,z⟩
    have:=at_ r w ew
    rw[<-this,y.1]
    congr 1
    have:WP b.b 44=b.b-44:=rfl
    omega
   ·refine(X1.mp hc).elim (λhc=>(O.hp c hc).up le) λhc=>?_
    have y:=z.hp c (O.len▸hc) []
    rw[Xh]at y
    exact y
   ·rcases Xl i φ'.length with l|l
    ·exact O.nn i u ((WE l).symm.trans e)
    ·rw[WQ l]at e
     exact z.nn u (WN e)
  ·rw[c5]at h
   exact ih h hbs ⟨O.len,O.le,O.thl,O.th,λc hc=>(X1.mp hc).elim (O.hp c) λe=>WF.mp e▸hb0.up O.le,O.nn⟩
theorem KM.sub{φ':List V}{n:Nat}{θ:List V}{t:List Bn}(O:KM G dr en φ φ' n θ t)(hb:∀i,i<44->φ[i]?=some (.ref i)):∀i u,pt φ i u↔VS φ' (dA n θ i) u:=
 Ge.at (Zn O.len) (λi l=>O.le _ _ (hb i l)) ⟨O.thl,hb,O.th⟩
inductive SS(p:Pt)(θ:Nat->V)(k:Nat)(o:O):Prop
 |mk (o0:O):p.x.get k=some o0->o0≠.tmp->(o=o0\/o=eR θ o0)->SS p θ k o
theorem qm{p:Pt}{n:Nat}{θ:List V}{t:List Bn}{k:Nat}{o:O}(e: (O3 p n θ t).x.get k=some o)(ne:o≠.tmp):SS p (dA n θ) k o:=by
 have sb:∀{o0},o=eR (dA n θ) o0->o0≠.tmp:=λe z=>ne (by rw[e,z];rfl)
 refine As e (λek eo=>?_) (λek eo=>?_) (λl n1 n2 eo=>?_) λq ek eo=>?_
 ·exact ek▸⟨p.o12,rfl,sb eo,.inr eo⟩
 ·exact ek▸⟨p.o18,rfl,sb eo,.inr eo⟩
 ·exact⟨o,by rw[XS.lo l];unfold D2;rw[jz n1,jz n2];exact eo,ne,.inl rfl⟩
 ·have e2: (app (rK (dA n θ) p.ext) (rep .tmp (WP n (WW 44 (len p.ext)))))[q]?=some o:=eo
  rw[c5,jG,<-aj]at e2
  refine im e2 (λe3=>?_) λr er e3=>?_
  ·obtain⟨o0,e0,ee⟩:=sw e3
   exact⟨o0,ek▸xh e0,sb ee,.inr ee⟩
  ·rw[aj]at e3
   exact absurd (a0u (WN e3)) ne
theorem KM.emb{p:Pt}(E:Emb (Wf G NG Z σ₀ B dr en oz) φ p.x σ){φ':List V}{n:Nat}{θ:List V}{t:List Bn}(O:KM G dr en φ φ' n θ t)(hb:∀i,i<44->φ[i]?=some (.ref i)):Emb (Wf G NG Z σ₀ B dr en oz) φ' (O3 p n θ t).x σ:=by
 have S:=O.sub hb
 have pl:φ.length=44+p.ext.length:=E.len.trans pn
 have ll:φ.length<=φ'.length:=Zt λl=>by
  have e:φ'[φ'.length]?=some _:=O.le _ _ (Wt l)
  exact absurd (e.symm.trans (XT (WO _))) ad
 have el: (O3 p n θ t).ext.length=n-44:=by
  show(app (rK (dA n θ) p.ext) (rep .tmp (WP n (WW 44 (Mx.len p.ext))))).length=_
  rw[c5,jG,Wu,su,YL,aQ]
  have:WP n (WW 44 p.ext.length)=n-(44+p.ext.length):=rfl
  have:=O.len
  omega
 refine⟨?_,pn,O.nn,λk o e ne=>?_,λi k o q j l ei ni ek nk fi fk lt=>?_,E.zl,λb hb'=>(WJ.mp hb').elim (λe=>e▸ .base λi l=>O.le _ _ (hb i l)) (O.hp b),E.gi⟩
 ·rw[pn,el,O.len]
  have:=O.len
  omega
 ·cases qm e ne with |mk o0 e0 n0 z=>
  cases E.obj k o0 e0 n0 with |mk j o' a b c d y=>
  refine⟨j,o',O.le _ _ a,b,z.elim (λz=>z▸c.up O.le) λz=>?_,d,y⟩
  subst z
  exact(OR.sub S ne).mp c
 ·cases qm ei ni with |mk o0 e0 n0 _=>
  cases qm ek nk with |mk q0 f0 m0 _=>
  cases E.obj i o0 e0 n0 with |mk j0 o' a _ _ _ _=>
  cases E.obj k q0 f0 m0 with |mk l0 q' b _ _ _ _=>
  have e1:=gX ((O.le _ _ a).symm.trans fi)
  have e2:=gX ((O.le _ _ b).symm.trans fk)
  subst e1 e2
  exact E.mono i k o0 q0 _ _ e0 n0 f0 m0 a b lt
theorem zS{S:dl}{φ' ψ:List V}{n:Nat}{θ:List V}{t:List Bn}{x:XS}{v u:V}{ρ ρ':Env}{σ':St}{gs:hR->Option Gs}{oz:tF Z σ₀ S.p.en}{r:R (V × Env)}(O:KM G S.p.dr S.p.en φ φ' n θ t)(hb:∀i,i<44->φ[i]?=some (.ref i))(le:Le φ' ψ)(E:Emb (Wf G NG Z σ₀ B S.p.dr S.p.en oz) ψ x σ')(hv:VS ψ v u)(hρ:ES ψ ρ ρ')
  (h:yI (λa=>vz G S x v ρ θ a (gs a)) S.alts=true)(hr:r=.ok (u,ρ') σ'):Ended (Wf G NG Z σ₀ B S.p.dr S.p.en oz) S φ r:=by
 obtain⟨a,ma,h⟩:=zX h
 refine a8 h aV λg _ h=>?_
 have h1:=aT h
 have h2:=aT h1.2
 have h3:=aT h2.2
 obtain⟨hb',ht,φ₂,M⟩:=FB E h2.1
 have E2:Emb (Wf G NG Z σ₀ B S.p.dr S.p.en oz) φ₂ (a.at S).x σ':=M.emb E hb' ht (λj z=>E.zl j (.inl z)) (λk o i j o' _ _ b=>b.noZ E) ⟨E.gi.len,E.gi.fr,E.gi.wr,E.gi.row,λd=>(E.gi.reads d).imp λ_ z=>⟨z.1,Wz (XC (Wl h1.1) _) z.2.1,z.2.2⟩,E.gi.ent⟩
 refine⟨a,φ₂,u,ρ',σ',ma,hr,E2,λi=>i4 (P:=λi=>i<φ.length->φ₂[i]?=φ[i]?) (λi l _=>(M.cor.base i l).trans (hb i l).symm) (λq l=>?_) i,(VR.sub M.sub).mpr (sN.1 _ _ h3.1▸hv),λn a e=>(hρ n _ (zv h3.2 e)).imp λw y=>⟨y.1,(VR.sub M.sub).mpr y.2⟩⟩
 have lq:q<θ.length:=by have:=O.thl;omega
 obtain⟨w,e1,r1⟩:=O.th q _ (Wt lq)
 obtain⟨w2,e2,r2⟩:=M.cor.th q _ (by rw[c5,WE lq];exact Wt lq)
 rw[e1,e2,VS.det (VR.up le r1) r2]
theorem K4{T:O2}{ok op:Nat->Bool}{gs:hR->XS->V->Env->List V->Option Gs}{S:dl}(hd:∀(f:Nat) (d:ae),ΓP.fns[f]?=some d->fL d.dflts=true)(VA:∀i,ok i=true->sA G NG ΓP (T.sch i))(h:NU G T ok op gs S=true):sA G NG ΓP S:=by
 intro Z B φ σ oz E j hj n hn
 have hb:∀i,i<44->φ[i]?=some (.ref i):=(E.hp _ (.head _)).world rfl
 have pl:φ.length=44+S.p.ext.length:=E.len.trans pn
 unfold NU at h
 rw[aQ]at h
 refine JY (φ:=φ) (φ':=φ) NG.a9 (λn' θ t φ' k O=>?_) h (λb hb=>E.hp b (.tail _ hb)) ⟨pl,tE.refl _,by rw[gq,pl],λi v e=>by
  obtain⟨rfl,l⟩:=gy e
  exact⟨_,Wt (show 44+i<φ.length by omega),Wt (show 44+i<φ.length by omega)⟩,λ_ h=>absurd h WT,E.nn⟩
 rw[dg,w5,BJ]at k
 have E1:=O.emb E hb
 have S1:=O.sub hb
 have SM:=Tz (ke:=λ_=>false) (lO (oz:=oz) (dr:=S.p.dr) (en:=S.p.en) (B:=B) (NG:=NG)) (D1 VA) hd S.m
 cases hJ:S.j with
 |f f vs=>
  rw[hJ]at k hj
  have k:uK (iq (dA n' θ) vs) (λvs=>Nt (P0 G T ok) S.m (.f f vs) (O3 S.p n' θ t).x λv ρ x=>yI (λa=>vz G S x v ρ θ a (gs a x v ρ θ)) S.alts)=true:=k
  rw[pf.2]at k
  obtain⟨us,ej,hv⟩:=hj
  subst ej
  have P:=SM.callF E1 ((aK.sub S1).mp hv) k hn
  cases e:callF ΓP n f us σ with
  |ok u σ'=>
   rw[e]at P
   cases P with |mk ψ v x' le E' r k'=>exact zS O hb le E' r (λ_ _ e=>absurd e.symm ad) k' (by show(callF ΓP n f us σ).bind _=_;rw[e];rfl)
  |exc _=>rw[e]at P;exact fnt P
  |bad=>rw[e]at P;exact P.elim
 |b i ρ=>
  rw[hJ]at k hj
  have k:Qd (ul (dA n' θ) ρ) (λρ=>Nt (P0 G T ok) S.m (.b i ρ) (O3 S.p n' θ t).x λv ρ x=>yI (λa=>vz G S x v ρ θ a (gs a x v ρ θ)) S.alts)=true:=k
  rw[Bl]at k
  obtain⟨ρ',ej,hv⟩:=hj
  subst ej
  have P:=SM.mb E1 ((ER.sub S1).mp hv) k hn
  cases e:ex ΓP (n+1) (.mk i) ρ' σ with
  |ok u σ'=>
   rw[e]at P
   cases P with |mk ψ v x' le E' r k'=>
   obtain⟨u1,u2⟩:=u
   obtain⟨v1,v2⟩:=v
   cases v1 with
   |next=>
    cases(show u1=.next from r.f)
    exact zS (v:= .none) (u:= .none) O hb le E' rfl r.e k' (by show(ex ΓP (n+1) (.mk i) ρ' σ).bind _=_;rw[e];rfl)
   |_=>exact fnt k'
  |exc _=>rw[e]at P;exact fnt P
  |bad=>rw[e]at P;exact P.elim
end
noncomputable section
noncomputable def cQ{α:Type}(f:Nat->α)(n:Nat):List α:=@XI (λ_=>List α) [] (λk ih=>f (WP n (WU k))::ih) n
noncomputable def iz{α β:Type}(f:α->β)(l:List α):List β:=@WB α (λ_=>List β) [] (λa _ ih=>f a::ih) l
noncomputable def bindL{α β:Type}(f:α->List β)(l:List α):List β:=@WB α (λ_=>List β) [] (λa _ ih=>app (f a) ih) l
noncomputable def OU{α:Type}(f:α->Bool)(l:List α):List α:=@WB α (λ_=>List α) [] (λa _ ih=>tf (f a) (a::ih) ih) l
noncomputable def rg(n:Nat):List Nat:=cQ (λi=>i) n
noncomputable def iV(n:Nat):V:= .int (.ofNat n)
noncomputable def rf(n:Nat):V:= .ref n
noncomputable def Px(s:Bool):Nat:=tf s 1 0
noncomputable def iP(n:Nat):Bool:=Wm (Za n 2) 1
noncomputable def SW(h nw w:Nat)(s:Bool):V:=tf (Wo w nw) (rf (WW h w)) (tf (an s (Wo nw w)) (rf (WW h (WP w 1))) (rf h))
noncomputable def Tt(h:Nat)(s:Bool):V:=tf s (rf (WW h 5)) (rf h)
inductive Sh where
 |nm (k:Nat)
 |num (nw:Nat) (s:Bool)
 |bin (op:Nat) (k nw:Nat) (s:Bool)
 |idx (k nw:Nat) (s:Bool)
noncomputable def za(k:Nat):V:= .tup [.str bJ,iV 0,.str [97+k]]
noncomputable def rV(h nw:Nat)(s:V):V:= .tup [.str sg,iV 0,.tup [iV nw,rf h,iV 0],s,.bool true]
noncomputable def SQ(n:Nat):List Nat:=tf (Wm n 0) uG (tf (Wm n 1) iE uv)
noncomputable def uD{α:Type}(q:Sh)(a:Nat->α)(b:Nat->Bool->α)(c:Nat->Nat->Nat->Bool->α)(d:Nat->Nat->Bool->α):α:=@Sh.rec (λ_=>α) a b c d q
noncomputable def Od(k:Nat)(u:V):V:= .tup [.str cw,iV 0,za k,u]
noncomputable def Tx(h:Nat)(q:Sh):V:=uD q za (λnw s=>rV h nw (.bool s)) (λop k nw s=>.tup [.str i5,iV 0,.str (SQ op),za k,rV h nw (.bool s)]) (λk nw s=>Od k (rV h nw (.bool s)))
noncomputable def mx(a b:Nat):Nat:=tf (WD a b) b a
noncomputable def y8(q:Sh):Nat × Bool:=uD q (λk=>(WU k,iP k)) (λnw s=>(nw,s)) (λop k nw s=>tf (Wm op 1) (1,false) (mx (WU k) nw,an (iP k) s)) (λ_ _ _=>(1,false))
noncomputable def PL(t:Nat × Bool):V:= .tup [iV t.1,.bool t.2]
noncomputable def uW(k:Nat):V:= .tup [.str cV,iV (k+1),iV k]
noncomputable def O6(v:V)(w w':Nat)(s:Bool):V:=tf (Wm w w') v (.tup [.str rZ,iV w',v,.bool s])
noncomputable def Tg(k w:Nat)(s:Bool):V:=O6 (uW k) (k+1) w s
noncomputable def Bt(h nw w:Nat)(s:Bool):V:= .tup [.str fB,iV w,SW h nw w s,iV 0]
noncomputable def SZ(h k:Nat)(s:Bool):V:= .tup [.str lh,iV 1,uW k,Tt h s]
noncomputable def Os(h nw op k w:Nat)(s:Bool)(w':Nat):V:= .tup [.str i5,iV w',.str (SQ op),Tg k w s,Bt h nw w s,.bool s]
noncomputable def MK(h:Nat)(q:Sh)(w:Nat)(s:Bool):V:=uD q (λk=>Tg k w s) (λnw _=>Bt h nw w s) (λop k nw s'=>tf (Wm op 1) (O6 (Os h nw 1 k (mx (WU k) nw) (an (iP k) s') 1) 1 w false) (Os h nw op k w s w)) (λk _ s'=>O6 (SZ h k s') 1 w s)
noncomputable def Sv(h:Nat)(q:Sh):V:=MK h q (y8 q).1 (y8 q).2
noncomputable def VV(h:Nat)(q:Sh)(w:Nat):V:=tf (WD (y8 q).1 w) (MK h q w (y8 q).2) (uD q (λ_=>O6 (Sv h q) (y8 q).1 w (y8 q).2) (λnw s=>Bt h nw w s) (λ_ _ _ _=>O6 (Sv h q) (y8 q).1 w (y8 q).2) (λ_ _ _=>O6 (Sv h q) (y8 q).1 w (y8 q).2))
noncomputable def Uc(h:Nat)(q:Sh):V:=uD q uW (λ_ _=>.none) (λ_ _ _ _=>.none) λk _ s=>SZ h k s
noncomputable def Sx(q:Sh):Nat:=uD q (λ_=>0) (λn _=>n) (λ_ _ n _=>n) λ_ n _=>n
noncomputable def Qa(q:Sh):List Nat:=uD q (λ_=>[]) (λn _=>[WW 10 n]) (λ_ _ n _=>[WW 10 n]) λ_ n _=>[WW 10 n]
noncomputable def wq:List Bool:=[false,true]
noncomputable def KN:List (Nat × Bool):=[(1,false),(1,true),(2,false),(2,true),(3,false),(3,true),(4,false),(4,true),(5,false),(5,true)]
noncomputable def UR(w:Nat)(s:Bool)(k:Nat):List Sh:=tf (Wm k 4) [.num w s]
 (app (tf (an (Wm w (WU k)) (xU (iP k) s)) [.nm k] []) (app (bindL (λp=>tf (an (Wm (mx (WU k) p.1) w) (xU (an (iP k) p.2) s)) [.bin 0 k p.1 p.2,.bin 2 k p.1 p.2] []) KN)
  (tf (an (Wm w 1) (no s)) (app (iz (λp=>Sh.bin 1 k p.1 p.2) KN) (iz (λp=>Sh.idx k p.1 p.2) KN)) [])))
noncomputable def Pp(nw x:Nat)(s:Bool):Bool:=an s (WD (Nat.pow 2 (WP nw 1)) x)
noncomputable def QW(nw x w:Nat)(s:Bool):Nat:=tf (WD w nw) (Za x (Nat.pow 2 w)) (tf (Pp nw x s) (WW x (WP (Nat.pow 2 w) (Nat.pow 2 nw))) x)
noncomputable def VJ(nw x:Nat)(s:Bool):Int:=tf (Pp nw x s) (@XI (λ_=>Int) (.ofNat 0) (λk _=>.negSucc k) (WP (Nat.pow 2 nw) x)) (.ofNat x)
noncomputable def QA(nw x i:Nat):V:=iV (tf (Wo i nw) (Za x (Nat.pow 2 i)) (QW nw x (WU i) true))
noncomputable def Ga(nw x:Nat):List V:=[iV x,QA nw x 1,QA nw x 2,QA nw x 3,QA nw x 4,.int (VJ nw x true)]
noncomputable def VU(w:Nat)(s:Bool):Nat:=WW 30 (WW (Zz 2 (WP w 1)) (Px s))
noncomputable def zB(q:Sh)(w:Nat)(s:Bool):V:=tf (WD (y8 q).1 w) (MK 0 q w s) (VV 0 q w)
noncomputable def QN(f:Nat->V):List V:=[f 1,f 2,f 3,f 4,f 5]
noncomputable def Uq(q:Sh):Pr:=⟨Qa q,Tx 0 q::app (QN λw=>zB q w (y8 q).2) (QN λw=>zB q w false)⟩
noncomputable def xW(r:Nat):Nat:=WU (Yi r 10)
noncomputable def xS(r:Nat):Bool:=iP (Yi r 5)
noncomputable def xK(r:Nat):Nat:=Za r 5
noncomputable def Ui(r:Nat):Pr:=⟨[100+r],[rf 0,rf (xW r),.bool (xS r),rf 1,rf 2,rf 3,rf 4]⟩
noncomputable def TZ(r:Nat):Pr:=⟨[100+r],[rf 0,rf 1,rf 2,rf 3,rf 4]⟩
noncomputable def V8(r:Nat):Pr:=⟨[100+r],rf 0::app (QN rf) (QN λw=>rf (5+w))⟩
noncomputable def zn(w:Nat)(key wh:V):V:= .tup [.tup [.str cV,iV w,key,.none,wh]]
noncomputable def UD(k:Nat):V:= .tup [.str jB,uW k,.bool (iP k),iV 0,iV 1]
noncomputable def T6:V:= .tup [.str o6,iV 0]
noncomputable def R7(k:Nat):Pr:=⟨[],[za k,zn (k+1) (iV k) T6]⟩
noncomputable def PX(j k:Nat):Pr:=⟨[],[Od j (za k),zn 1 (iV j) (UD k)]⟩
noncomputable def lv(w:Nat)(p:V):V:= .tup [.str Oj,iV w,p]
noncomputable def QG(k:Nat):V:=lv (k+1) (zn (k+1) (iV k) T6)
noncomputable def T5:V:= .tup [.str bJ,iV 0,.str xF]
noncomputable def yw(word:List Nat)(left right c:V):V:= .tup [.str word,iV 0,left,right,c]
noncomputable def nB(word:List Nat)(l z c:V):V:= .tup [.str word,l,z,c]
noncomputable def FK(l:List Nat)(a b:V):Pr:=⟨l,[a,b]⟩
noncomputable def Q0(w:Nat):List Pr:=app
 [FK [39+w,20] (yw bj (rf 0) (rf 2) .none) (nB bj (lv w (rf 1)) (rf (4+w)) .none),
  FK [39+w,20] (yw fO (rf 0) (rf 2) .none) (nB fO (lv w (rf 1)) (rf (4+w)) .none),
  FK [39+w,20,20] (yw bj (rf 0) (rf 2) (.tup [.str aI,rf 9])) (nB bj (lv w (rf 1)) (rf (4+w)) (.tup [.str aI,rf 10])),
  FK [39+w,20,20] (yw fO (rf 0) (rf 2) (.tup [.str aI,rf 9])) (nB fO (lv w (rf 1)) (rf (4+w)) (.tup [.str aI,rf 10]))]
 (iz (λk=>FK [39+w,20] (yw bj (rf 0) (rf 2) (.tup [.str aF,.tup [.tup [.str qY,za k],.tup [.str kG,T5]]]))
  (nB bj (lv w (rf 1)) (rf (4+w)) (.tup [.str aF,.tup [.tup [.str qY,uW k],.tup [.str kG,.tup [.str dX,iV 1,iV 6]]]]))) (rg 4))
noncomputable def Jd:List Pr:=app (bindL (λw=>Q0 (w+1)) (rg 4))
 (FK [] (.tup [.str b7,iV 0,T5]) (.tup [.str b7,iV 6])::
  FK [20] (.tup [.str hZ,iV 0,.str c8,.tup [.tup [.str qQ,iV 0,.str QS],rf 0,.none,.tup [.str bJ,iV 0,.str RN]]])
   (.tup [.str hZ,.str c8,.tup [.tup [.str Qx,.str QS],.tup [.str xF,rf 1,rf 2],.tup [.str u5],.tup [.str Af,iV 5]]])::
  iz (λk=>FK [20] (.tup [.str cb,iV 0,.tup [.str bJ,iV 0,.str PD],.tup [rf 0,za k]])
   (.tup [.str cb,iV 0,.tup [rf 5],.tup [.tup [QG k,iV 1]]])) (rg 4))
noncomputable def UL(c w:Nat)(s:Bool):Nat:=60+10*c+2*(w-1)+Px s
noncomputable def ps(w:Nat)(s:Bool):Nat:=2*(w-1)+Px s
noncomputable def KK(h n:Nat):List V:=bindL (λw=>iz (λs=>Bt h n (w+1) s) wq) (rg 5)
noncomputable def OH(w:Nat)(s:Bool):List Pr:=[⟨[10+w],rV 0 w (.bool s)::KK 0 w⟩]
noncomputable def Oy(w:Nat)(s:Bool):List Pr:=bindL (λp=>bindL (λq=>tf (an (Wm (mx p.1 q.1) w) (xU (an p.2 q.2) s)) [⟨[10+p.1,10+q.1],rV 0 p.1 (.bool p.2)::rV 6 q.1 (.bool q.2)::app (KK 0 p.1) (KK 6 q.1)⟩] []) KN) KN
noncomputable def Q4(so:Bool)(w:Nat)(s:Bool):Nat:=tf (or s (no so)) w (WW 5 w)
noncomputable def Vb(c:Nat):List Pr:=bindL (λp=>iz (λ(q:Nat × Bool)=>
 let w:=mx p.1 q.1
 let s:=p.2&&q.2
 ⟨[VU p.1 p.2,UL c q.1 q.2],app [iV w,.bool s,rf 0,iV p.1,.bool p.2] (app (cQ (λi=>rf (11+i)) c) (rf (Q4 p.2 w s)::cQ (λi=>rf (11+c+10*i+ps w s)) c))⟩) KN) KN
noncomputable def O4(o:Bool):List Nat:=tf o [50] []
noncomputable def wO(o:Bool)(n:Nat):V:=tf o (rf n) .none
noncomputable def S5(o:Bool):Nat:=tf o 2 0
noncomputable def QP(l:List Nat)(a b:V):Pr:=⟨l,[a,b,b]⟩
noncomputable def Pk(o:Bool):List Pr:=
 let f:=λs d=>QP (20::O4 o) s d
 let u:=wO o 7
 let v:=wO o 8
 app [f (.tup [.str nJ,iV 0,rf 0,u,.none]) (.tup [.str nJ,rf 1,v,.none]),
  f (.tup [.str aI,iV 0,rf 0,u]) (.tup [.str aI,rf 1,v]),
  f (.tup [.str d7,iV 0,rf 0,u]) (.tup [.str d7,rf 1,v]),
  f (.tup [.str aF,iV 0,.tup [.tup [.str jc,rf 0]],u]) (.tup [.str aF,.tup [.tup [.str jc,rf 1]],v]),
  f (.tup [.str cB,iV 0,rf 0,u]) (.tup [.str cB,rf 1,v]),
  f (.tup [.str bP,iV 0,rf 0,u]) (.tup [.str bP,rf 1,rf 2,v])]
 (iz (λw=>let p:=nB bj (lv (w+1) (rf 8)) (rf (12+w)) .none
  QP (20::(40+w)::20::O4 o) (.tup [.str gH,iV 0,.tup [rf 7,rf 9],rf 0,.tup [rf 7,rf 9],wO o 16]) (.tup [.str gH,p,rf 1,p,wO o 17])) (rg 4))
noncomputable def Ft(j k:Nat):V:= .tup (iz (λi=>V.tup [.str kG,uW i]) (OU (λi=>Wm i j||Wm i k) (rg 4)))
noncomputable def NY:List Pr:=bindL (λk=>app
 (iz (λw=>⟨[21+k],[za w,rf 0,nB bj (QG w) (rf (1+w)) .none,Ft 4 k]⟩) (rg 4))
 (iz (λj=>⟨[44+j,21+k],[rf 0,rf 2,nB bj (lv 1 (rf 1)) (rf 3) .none,Ft j k]⟩) (rg 4))) (rg 5)
noncomputable def FF(l r:V):V:= .tup [.str aF,iV 0,.tup [.str mw],yw bj l r .none]
noncomputable def OG(o p:Bool):List Pr:=iz (λw=>QP (app (O4 o) (O4 p)) (.tup [.str w,iV 0,.none,.tup [],.tup [wO o 0,wO p (S5 o)]]) (.tup [.str w,.tup [wO o 1,wO p (S5 o+1)],.int (.negSucc 0)])) [aO,eP]
noncomputable def Hs(o p:Bool):List Pr:=bindL (λc=>
 let n:=8+2*c
 let m:=n+S5 o
 let ls:=V.tup (cQ (λi=>rf (5+i)) (c+1))
 iz (λw=>⟨(51+c)::app (O4 o) (O4 p),
  [.tup [.str cz,iV 0,.str w,rf 2,.tup [.tup [ls,wO o n],.tup [.none,wO p m]]],
   .tup [.str cz,.str w,.tup [rf 2,rf 0,rf 1],.tup [.tup [.tup [ls,rf 0,rf 1],wO o (n+1)],.tup [.none,wO p (m+1)]]],
   .tup [.str cz,.str w,rf (6+c),.tup [.tup [.tup (cQ (λi=>rf (7+c+i)) (c+1)),wO o (n+1)],.tup [.none,wO p (m+1)]]]]⟩) [cz,wj,wT]) (rg 2)
noncomputable def Fw(f:Bool->Bool->List Pr):List Pr:=bindL (λo=>bindL (f o) wq) wq
noncomputable def Qc:List Pr:=⟨[50],[rf 0,rf 1,rf 1]⟩::app (bindL Pk wq) (QP [61] (FF (rf 0) (rf 1)) (.tup [.str aF,rf 3,rf 2])::app (Fw OG) (Fw Hs))
noncomputable def RW(t:Nat):List Pr:=tf (Wo t 100)
 (tf (Wo t 40)
  (tf (Wo t 20) (tf (an (Wo 10 t) (WD t 15)) (cQ (λx=>⟨[],Ga (WP t 10) x⟩) (Nat.pow 2 (WP t 10))) [])
   (tf (Wo t 30) (tf (Wm t 20) (cQ Ui 50) (tf (Wo t 26) (cQ (λi=>TZ (WW (Zz 5 i) (WP t 21))) 10) [])) (cQ (λi=>V8 (WW (Zz 5 (WP t 30)) i)) 5)))
  (tf (Wo t 60)
   (tf (Wo t 50) (tf (Wo t 44) (R7 (WP t 40)::tf (Wm t 40) (bindL (λj=>iz (PX j) (rg 4)) (rg 4)) []) (tf (Wo t 48) (iz (λj=>PX j (WP t 44)) (rg 4)) []))
    (tf (Wm t 50) Jd (tf (or (Wm t 51) (Wm t 52)) (Vb (WP t 50)) [])))
   (tf (Wm t 60) Qc (tf (Wo t 70) (tf (Wm t 61) NY []) (tf (Wo t 80) (OH (WU (Yi (WP t 70) 2)) (iP t)) (tf (Wo t 90) (Oy (WU (Yi (WP t 80) 2)) (iP t)) []))))))
 (tf (WD 150 t) [] (iz Uq (UR (xW (WP t 100)) (xS (WP t 100)) (xK (WP t 100)))))
noncomputable def kX(t:Nat):Nat:=tf (WD 100 t) 11 (tf (Wo t 20) (tf (Wm t 9) 1 6) (tf (Wo t 30) (tf (Wm t 20) 7 5) (tf (Wo t 40) 11 (tf (WD t 50) 2 (tf (Wo t 60) (WW 6 (Zz 2 (WP t 50))) (tf (Wm t 60) 3 (tf (Wm t 61) 4 (Zz 11 (Yi (WP t 60) 10)))))))))
noncomputable def SL(t:Nat):Nat:=tf (Wo t 20) (tf (Wm t 9) 8 0) (tf (Wo t 50) 6 (tf (Wm t 50) 14 (tf (Wo t 60) 8 (tf (Wm t 60) 22 (tf (Wm t 61) 14 6)))))
noncomputable def GT:Gr:=⟨kX,SL,λt=>len (RW t),λt p=>opt (nv (RW t) p) (λq=>q) ⟨[],[]⟩⟩
noncomputable def OO(nw j:Nat):Bool:=an (Wo j (GT.np (10+nw))) (an (emp (GT.pr (10+nw) j).subs) (an (vj (GT.pr (10+nw) j).tm (Ga nw j)) (an (fL (Ga nw j)) (an (Wm (len (Ga nw j)) 6) (an (PB (Ga nw j)) (an (aG (Ga nw j)) (Wm (jd (Ga nw j)) 0)))))))
end
theorem ED:qb 5 (λnw=>qb (2 ^ (nw+1)) (OO (nw+1)))=true:=by decide +kernel
theorem Eg{nw j:Nat}(h:OO nw j=true)(ha:GT.ar (10+nw)=6)(hd:GT.dB (10+nw)=0){k:Nat}(hk:uI k=10+nw):Qb GT k j:=by
 have h1:=aT h
 have h2:=aT h1.2
 have h3:=aT h2.2
 have h4:=aT h3.2
 have h5:=aT h4.2
 have h6:=aT h5.2
 have h7:=aT h6.2
 have l:=aQ.symm.trans (Wq h5.1)
 have nn:=vn h6.1
 have a:=gS h2.1
 have b:=rD h3.1
 refine⟨Ga nw j,hk▸ .mk (p:=j) (ws:=[]) (Wl h1.1) (a.symm▸ .nil) (b.symm▸jk.2 _ h4.1) (l.trans ha.symm) ⟨h7.1,?_⟩ nn,l,rfl,nn⟩
 rw[Wq h7.2]
 exact Xu _
theorem yz:mW GT where
 a9:=rfl
 nb:=λ{k j} hk hj=>by
  have main:∀nw,nw<5->GT.ar (10+(nw+1))=6->GT.dB (10+(nw+1))=0->j<2 ^ (nw+1)->uI k=10+(nw+1)->Qb GT k j:=λnw l ha hd h e=>Eg (gw (gw ED nw l) j h) ha hd e
  revert hj
  have:=jO (P:=λm t=>j<m->uI k=t->Qb GT k j) (k:=k) (main 0 (by decide) rfl rfl) (main 1 (by decide) rfl rfl) (main 2 (by decide) rfl rfl) (main 3 (by decide) rfl rfl) (main 4 (by decide) rfl rfl) hk
  exact λhj=>this hj rfl
 d:=λ{k} hk=>jO (P:=λ_ t=>GT.dB t=0) rfl rfl rfl rfl rfl hk
noncomputable section
noncomputable abbrev Th:=List (Nat × V)
noncomputable def Qr(θ:Th)(i:Nat):Option V:=@WB (Nat × V) (λ_=>Option V) none (λp _ ih=>tf (Wm p.1 i) (some p.2) ih) θ
noncomputable def jP{α β:Type}(o:Option α)(f:α->Option β):Option β:=opt o f none
noncomputable def EW{α:Type}(b:Bool)(o:Option α):Option α:=tf b o none
noncomputable def Oa(m:Nat)(v:V):V->Th->Option Th:=@V.rec (λ_=>V->Th->Option Th) (λ_=>List V->Th->Option Th) (λu θ=>EW (iM u) (some θ)) (λa u θ=>EW (rv u (xU a) false) (some θ)) (λa u θ=>EW (fp u (v6 a) false) (some θ)) (λa u θ=>EW (jv u (bp a) false) (some θ))
 (λ_ ih u θ=>ko u (λl=>ih l θ) none) (λi u θ=>tf (Wo i m) (EW (cD u (Wm i) false) (some θ)) (opt (Qr θ i) (λv=>EW (gh v u) (some θ)) (tf (iM u) none (some ((i,u)::θ)))))
 (λl θ=>lc l (some θ) λ_ _=>none) (λ_ _ f g l θ=>lc l none λb s=>jP (f b θ) (g s)) v
noncomputable def Tc(m:Nat)(l:List V):List V->Th->Option Th:=@WB V (λ_=>List V->Th->Option Th) (λl θ=>lc l (some θ) λ_ _=>none) (λa _ g l θ=>lc l none λb s=>jP (Oa m a b θ) (g s)) l
noncomputable def V9(m:Nat)(l:List (List Nat × V)):List (List Nat × V)->Th->Option Th:=@WB (List Nat × V) (λ_=>List (List Nat × V)->Th->Option Th) (λ_ θ=>some θ) (λp _ g l θ=>lc l none λq s=>jP (Oa m p.2 q.2 θ) (g s)) l
noncomputable def W7(m:Nat)(l:List V):List (Option V)->Th->Option Th:=@WB V (λ_=>List (Option V)->Th->Option Th) (λ_ θ=>some θ) (λa _ g l θ=>lc l (some θ) λb s=>opt b (λu=>jP (Oa m a u θ) (g s)) (g s θ)) l
noncomputable def Up(o o':O)(θ:Th):Option Th:=oO o (λl=>oL o' (λl'=>Tc 44 l l' θ) none) (λ_ d=>oC o' (λ_ d'=>Oa 44 (.ref d) (.ref d') θ) none) (λl=>oD o' (λl'=>V9 44 l l' θ) none) (λ_=>some θ) (λ_=>none) (λ_=>none) none
noncomputable def TC(θ:Th)(b:Nat)(n:Nat):List (Option V):=cQ (λi=>Qr θ (WW b i)) n
noncomputable def Pg(x:XS)(t:Nat)(l:List (Option V)):Nat->Option Nat:=@WB (Option V) (λ_=>Nat->Option Nat) (λ_=>none) (λo _ g q=>opt o (λv=>cD v (λi=>EW (an (WD q i) (v8 x (WP i q) t)) (some (WP i q))) none) (g (WU q))) l
noncomputable def it(v:V)(i:Nat):V:=ko v (λl=>opt (nv l i) (λu=>u) .none) .none
noncomputable def nt(v:V):Nat:=@V.rec (λ_=>Nat) (λ_=>Unit) 0 Px (λi=>nat i (λn=>n) 0) (λs=>lc s 0 λc _=>c) (λ_ _=>0) (λ_=>0) () (λ_ _ _ _=>()) v
noncomputable def bt(v:V):Bool:=rv v (λb=>b) false
noncomputable def Lm(v:V):Nat:=ko v len 0
noncomputable def D6(v:V):Nat:=WP (nt (it v 2)) 97
noncomputable def rX(w:Nat)(s:Bool)(k:Nat):Nat:=WW (Zz 5 (WW (Zz 2 (WP w 1)) (Px s))) k
noncomputable def sk(x:XS)(v:V):Nat:=cD v (λi=>opt (x.ty i) (λt=>WP t 100) 0)
 (tf (Wm (Lm v) 3) (rX (WU (D6 v)) (iP (D6 v)) (D6 v)) (tf (Wm (Lm v) 4) (rX 1 false (D6 (it v 2)))
  (rv (it v 4) (λ_=>rX (nt (it (it v 2) 0)) (bt (it v 3)) 4)
   (tf (Wm (nt (it v 2)) 61) (rX 1 false (D6 (it v 3))) (rX (mx (WU (D6 (it v 3))) (nt (it (it (it v 4) 2) 0))) (an (iP (D6 (it v 3))) (bt (it (it v 4) 3))) (D6 (it v 3)))))))
noncomputable def NI(x:XS)(t:Nat)(kn:List (Option V)):Nat × Nat:=lc kn (0,0) λo _=>opt o (λv=>tf (Wm t 20) (sk x v,1) (tf (WD 100 t) (tf (Wm (sk x v) (WP t 100)) (0,1000000) (0,0))
 (tf (an (Wo 20 t) (Wo t 26)) (tf (Wm (xK (sk x v)) (WP t 21)) (Yi (sk x v) 5,1) (0,0)) (tf (an (WD 30 t) (Wo t 40)) (tf (Wm (Yi (sk x v) 5) (WP t 30)) (Za (sk x v) 5,1) (0,0)) (0,1000000))))) (0,1000000)
noncomputable def PN(x:XS)(f:Nat):Nat->List (Option V)->Option Ct:=@XI (λ_=>Nat->List (Option V)->Option Ct) (λ_ _=>none) (λ_ ih t kn=>opt (Pg x t kn 0) (λb=>some (.h b))
 (tf (Wm t 9) (lc kn none λo _=>jP o λu=>some (.v u))
  (@WB Pr (λ_=>Nat->Nat->Option Ct) (λ_ _=>none) (λp _ go k c=>@XI (λ_=>Option Ct) none (λc _=>
   opt (jP (W7 0 p.tm kn []) λθ=>@WB Nat (λ_=>Nat->Option (List Ct)) (λ_=>some []) (λt _ gs o=>jP (ih t (TC θ o (kX t))) λc=>jP (gs (WW o (kX t))) λcs=>some (c::cs)) p.subs 0) (λcs=>some (.p k cs)) (go (WU k) c)) c)
   (Ob (NI x t kn).1 (RW t)) (NI x t kn).1 (NI x t kn).2))) f
noncomputable def Gg(vs:List V):Nat->Th->Th:=@WB V (λ_=>Nat->Th->Th) (λ_ θ=>θ) (λv _ g b θ=>(b,v)::g (WU b) θ) vs
noncomputable def Pv(x:XS)(os:List O):Nat->Th->Option Th:=@WB O (λ_=>Nat->Th->Option Th) (λ_ θ=>some θ) (λo _ g i θ=>tf (bk o) (g (WU i) θ) (opt (Qr θ i) (λv=>cD v (λr=>jP (x.get r) λo'=>jP (Up o o' θ) (g (WU i))) none) (g (WU i) θ))) os
noncomputable def U7(x:XS)(c:Ct):Nat->Option (List V):=@Ct.rec (λ_=>Nat->Option (List V)) (λ_=>List Nat->Option (List V)) (λi t=>some (ng i (kX t))) (λp _ ih t=>jP (ih (GT.pr t p).subs) λws=>some (iq (Kp x.n ws) (GT.pr t p).tm)) (λu _=>some [u]) (λ_=>some []) (λ_ _ f g ts=>lc ts none λt r=>jP (f t) λvs=>jP (g r) λws=>some (app vs ws)) c
noncomputable def Um(x:XS)(bs:List Bn):Th->List Ct->Option (Th × List Ct):=@WB Bn (λ_=>Th->List Ct->Option (Th × List Ct)) (λθ cs=>some (θ,cs)) (λb _ g θ cs=>tf (WD 9 b.t) (jP (PN x 6 b.t (TC θ b.b b.a)) λc=>jP (U7 x c b.t) λvs=>g (Gg vs b.b θ) (app cs [c])) (g θ cs)) bs
noncomputable def TF(i k:Nat)(x:XS)(p:Pt)(θ:Th):Option Gs:=jP (tf (C0 p.ext) (some θ) (jP (Pv x p.ext 44 θ) λθ=>jP (Pv x p.ext 44 θ) λθ=>jP (Pv x p.ext 44 θ) λθ=>jP (Pv x p.ext 44 θ) λθ=>Pv x p.ext 44 θ)) λθ=>jP (Um x p.t θ []) λq=>
 uK (cQ (λi=>opt (Qr q.1 (WW (WW 44 k) i)) (λv=>v) (iV 0)) (WP (len p.ext) k)) λth=>some ⟨i,th,q.2⟩
noncomputable def TW(l:Env)(ρ:Env):Th->Option Th:=@WB (Nat × V) (λ_=>Th->Option Th) some (λp _ g θ=>jP (aa ρ p.1) λv=>jP (Oa 44 p.2 v θ) g) l
noncomputable def Vc(j j':hP)(θ:Th):Option Th:=@hP.rec (λ_=>Option Th) (λf vs=>@hP.rec (λ_=>Option Th) (λg us=>EW (Wm f g) (Tc 44 vs us θ)) (λ_ _=>none) j') (λi ρ=>@hP.rec (λ_=>Option Th) (λ_ _=>none) (λk η=>EW (Wm i k) (TW ρ η θ)) j') j
noncomputable def Vr(a:hR)(x:XS)(v:V)(ρ:Env)(θ:List V):Option Gs:=jP (Oa 44 a.v v (Gg θ 44 [])) λϑ=>jP (TW a.ρ ρ ϑ) λϑ=>TF 0 (len θ) x a.p ϑ
noncomputable def Rm(sch:Nat->dl)(x:XS)(j:hP)(lv:Nat)(l:List Nat):Option Gs:=@WB Nat (λ_=>Option Gs) none (λi _ ih=>tf (WD (sch i).m lv) (opt (jP (Vc (sch i).j j []) (TF i 0 x (sch i).p)) some ih) ih) l
end
noncomputable section
noncomputable def bn(b t:Nat):Bn:=⟨b,t,kX t,SL t⟩
noncomputable def tm(n:Nat):List O:=rep .tmp n
noncomputable def Do(ext:List O)(t:List Bn)(c:Nat)(dr:Bool):Pt:=⟨.tmp,.tmp,ext,⟨18,5,0,0⟩::tf dr (⟨3,0,0,0⟩::⟨43,3,0,0⟩::t) t,c,dr,true⟩
noncomputable def al(ext:List O)(t:List Bn)(v:V):hR:=⟨⟨.tmp,.tmp,ext,t,0,false,true⟩,v,[]⟩
noncomputable def s1(m:Nat)(ext:List O)(t:List Bn)(j:hP)(v:V)(ρ:Env):dl:=⟨Do ext t 0 false,m,j,[⟨⟨.tmp,.tmp,ext,[],0,false,true⟩,v,ρ⟩]⟩
noncomputable def bd(n:Nat):Bool:=iP n
noncomputable def fZ:dl:=s1 0 (tm 6) [bn 44 10] (.b 100 []) .none []
noncomputable def HJ:List (List Nat × V):=[(aY,rf 5),(uV,rf 47),(iR,rf 17),(dG,.str aO),(bM,rf 48),(eU,.str pI),(cK,.none),(bB,rf 46),(bL,rf 49)]
noncomputable def Sw(c:Nat):List O:=match c with | 0=>[]|_=>[.sd HJ,.inst 6 44,.sd [],.tmp,.tmp,.tmp]
noncomputable def Tl(c:Nat):V:=match c with | 0=>rf 17|_=>rf 45
noncomputable def Jj(c:Nat):Nat:=44+6*c
noncomputable def sB(m c t f:Nat)(vs:List V)(v:V):dl:=s1 m (app (Sw c) (tm (kX t))) [bn (Jj c) t] (.f f (Tl c::vs)) v []
noncomputable def bl(n:Nat):V:= .bool (iP n)
noncomputable def g0(q:Nat):dl:=
 let nw:=q / 10+1
 let w:=q % 10 / 2+1
 s1 30 (tm 6) [bn 44 (10+nw)] (.f 5 [.tup [iV nw,rf 44,iV 0],iV w,bl q]) (.tup [iV w,SW 44 nw w (iP q),iV 0]) []
noncomputable def g1(q:Nat):dl:=
 let nw:=q / 8+1
 s1 60 (tm 10) [bn 44 (10+nw)] (.f 32 [rf 50,.tup [.str cw,iV 0,rf 51,rV 44 nw (bl q)],.tup [rf 52,rf 53,iV (q % 8 / 2),iV 0,.bool false]]) (.tup [.str o6,Tt 44 (iP q)]) []
noncomputable def Rx(o:Nat)(v:V):List O:=[.lst (tf (Wm o 0) [] [v])]
noncomputable def BU(n w s vs l sc:V):Env:=[(37,n),(90,w),(9,s),(78,vs),(58,l),(29,sc)]
noncomputable def BO(w s vs l sc:V):Env:=[(90,w),(9,s),(78,vs),(58,l),(29,sc)]
noncomputable def VL(q:Nat):dl:=
 let nw:=q / 20+1
 let w:=q % 20 / 4+1
 let s:=iP (q / 2)
 match Wo w nw with
 |true=>fZ
 |false=>⟨Do (app (tm 10) (Rx (q % 2) (rf 50))) [bn 44 (10+nw)] 0 false,90,.b 7 (BU (rV 44 nw (rf 51)) (iV w) (.bool s) (rf 54) (rf 52) (rf 53)),
   [⟨⟨.tmp,.tmp,app (tm 10) [.lst (app (tf (Wm (q % 2) 0) [] [rf 50]) [Bt 44 nw w s])],[],0,false,true⟩,.none,BO (iV w) (.bool s) (rf 54) (rf 52) (rf 53)⟩]⟩
noncomputable def Vf(r:Nat):Sh:=match Wo r 4 with |true=>.nm r|false=>.idx ((r-4) / 10) ((r-4) % 10 / 2+1) (iP r)
noncomputable def g2(q:Nat):dl:=
 let c:=q / 88
 let sh:=Vf (q % 44)
 s1 95 (app (Sw c) (tm (tf (Wm (Sx sh) 0) 0 6))) (tf (Wm (Sx sh) 0) [] [bn (Jj c) (10+Sx sh)]) (.f (tf (Wo (q % 88) 44) 33 34) [Tl c,Tx (Jj c) sh]) (tf (Wo (q % 88) 44) (PL (y8 sh)) (Uc (Jj c) sh)) []
noncomputable def JK(k:Nat):List V:=tf (Wm k 4) [] [iV k]
noncomputable def sL(m t:Nat)(f:Nat)(vs:List V)(l:List V):dl:=⟨Do (tm (kX t)) [bn 44 t] 0 false,m,.f f vs,[al (app (tm (kX t)) [.lst l]) [] (rf (44+kX t))]⟩
noncomputable def FZ(wd b r1 r2:V):V:= .tup [.str cz,wd,b,.tup [r1,r2]]
noncomputable def zg(m:Nat)(t:Nat)(b w:V):dl:=
 let a:=44+kX t
 let r:=λi=>rf (a+i)
 let ρ:=[(101,FZ (r 0) b (r 1) (r 2)),(102,FZ (r 0) (r 3) (r 4) (r 5)),(90,w),(9,r 6),(29,r 7)]
 s1 m (tm (kX t+8)) [bn 44 t,bn a 9] (.b 6 ρ) .none ρ
noncomputable def Qs(w t u:Nat)(s:Bool):dl:=s1 120 (tm 11) [bn 44 t] (.f 27 [rf (44+u),iV w,.bool s]) (rf (44+w)) []
noncomputable def g3(f r:Nat):dl:=
 let t:=100+r
 let w:=xW r
 let s:=xS r
 let b:=λc i=>rf (Jj c+i)
 match Wo f 17 with
 |true=>(match Wo f 2 with
  |true=>sB 150 f t 36 [b f 0] (PL (w,s))
  |false=>let c:=tf (Wo f 7||Wo 11 f) 0 1
   let u:=(f-2) % 5+1
   match Wo u w||(Wo 11 f&& !s)with
   |true=>fZ
   |false=>let z:=s&&WD f 11
    sB 150 c t 38 [b c 0,iV u,.bool z] (b c (Q4 s u z)))
 |false=>match Wo f 25 with
  |true=>let c:=(f-17) / 4
   let u:=(f-17) % 4+1
   sB 170 c t 40 [b c 0,iV u] (b c u)
  |false=>match f with
   | 25=>s1 60 (tm 12) [bn 44 t] (.f 100 [rf 55,rf 44]) (PL (w,s)) []
   | 26=>sL 60 t 93 [rf 44] (JK (xK r))
   | 31=>s1 60 (tm 13) [bn 44 t] (.b 8 [(96,rf (44+w)),(47,rf 55),(29,rf 56)]) .none [(44,.bool false),(96,rf (44+w)),(47,rf 55),(29,rf 56)]
   | 32=>sB 180 0 t 46 [.str jc,rf 44] (.tup [.str jc,rf (44+w)])
   | 33=>sB 180 0 t 51 [rf 44] (.tup [.str xF,rf (44+w),.bool s])
   | 34=>sB 180 1 t 51 [rf 50] (.tup [.str xF,rf (50+w),.bool s])
   | 45=>sB 170 0 t 39 [b 0 0] (.tup [b 0 w,.bool s])
   | 46=>sB 170 1 t 39 [b 1 0] (.tup [b 1 w,.bool s])
   | 47=>Qs 1 t (mx 1 w) s
   | 48=>Qs 2 t (mx 2 w) s
   | 49=>Qs 3 t (mx 3 w) s
   | 50=>Qs 4 t (mx 4 w) s
   |f=>match WD 35 f with
   |true=>let u:=(f-35) % 5+1
    let z:=s&&Wo f 40
    (match Wo u w||(WD 40 f&& !s)with
    |true=>fZ
    |false=>zg 70 t (rf (44+Q4 s u z)) (iV u))
   |false=>sL 60 t 11 [rf (44+(f-26))] (JK (xK r))
noncomputable def S9(m t i:Nat):dl:=
 let a:=kX t
 ⟨Do (tm a) [bn 44 t] 0 false,m,.f 93 [rf (44+i)],[al (app (tm a) [.lst []]) [] (rf (44+a)),al (app (tm a) [.lst [rf (45+a)],.tmp]) [bn (45+a) 9] (rf (44+a))]⟩
noncomputable def g4(q:Nat):dl:=match Wo q 10 with
 |true=>let c:=q / 5
  let b:=Jj c
  (match q % 5 with
  | 0=>sB 180 c 20 39 [rf b] (.tup [rf (b+1),rf (b+2)])
  |w=>sB 180 c 20 40 [rf b,iV w] (rf (b+2+w)))
 |false=>match Wo q 20 with
  |true=>(match q with
   | 10=>S9 70 20 0
   | 11=>s1 70 (tm 9) [bn 44 20] (.b 8 [(96,rf 45),(47,rf 51),(29,rf 52)]) .none [(44,.bool false),(96,rf 45),(47,rf 51),(29,rf 52)]
   | 12=>s1 70 (tm 9) [bn 44 20] (.b 8 [(96,rf 46),(47,rf 51),(29,rf 52)]) .none [(44,.bool false),(96,rf 46),(47,rf 51),(29,rf 52)]
   | 13=>sB 190 0 20 46 [.str jc,rf 44] (.tup [.str jc,rf 45])
   | 14=>sB 190 0 20 51 [rf 44] (.tup [.str xF,rf 45,rf 46])
   | 15=>sB 190 1 20 51 [rf 50] (.tup [.str xF,rf 51,rf 52])
   |_=>fZ)
  |false=>match Wo q 65 with
   |true=>let k:=(q-20) / 9
    let r:=(q-20) % 9
    let t:=21+k
    (match Wo r 4 with
    |true=>sB 180 0 t 40 [rf 44,iV (r+1)] (rf (45+r))
    |false=>(match r with
     | 8=>sL 70 t 93 [rf 44] (JK k)
     |_=>sL 70 t 11 [rf (45+(r-4))] (JK k)))
   |false=>let r:=(q-65) / 13
    let f:=(q-65) % 13
    let t:=30+r
    let w:=r / 2+1
    let s:=iP r
    (match f with
    | 0=>sB 180 0 t 36 [rf 44] (PL (w,s))
    | 1=>s1 70 (tm 12) [bn 44 t] (.f 100 [rf 55,rf 44]) (PL (w,s)) []
    | 12=>S9 70 t 0
    |f=>let u:=(f-2) % 5+1
     let z:=s&&Wo f 7
     match Wo u w||(Wo 6 f&& !s)with
     |true=>fZ
     |false=>sB 180 0 t 38 [rf 44,iV u,.bool z] (rf (44+Q4 s u z)))
noncomputable def Rd(c b:Nat):V:= .tup (cQ (λi=>rf (b+i)) c)
noncomputable def g5(f r:Nat):dl:=
 let t:=70+r
 let c:=r / 10+1
 let w:=r % 10 / 2+1
 let s:=iP r
 let l:=Rd c 44
 let b:=λi u z=>rf (44+c+10*i+ps u z)
 match Wo f 10 with
 |true=>let u:=f / 2+1
  let z:=iP f
  (match Wo u w||(z&& !s)with
  |true=>fZ
  |false=>sB 200 0 t 50 [l,iV u,.bool z] (.tup (cQ (λi=>b i u z) c)))
 |false=>match Wo f 20 with
  |true=>let u:=(f-10) / 2+1
   let z:=iP f
   s1 200 (tm (kX t)) [bn 44 t] (.b 0 [(58,l),(33,iV u),(9,.bool z),(29,rf 17)]) .none [(33,iV (mx u w)),(9,.bool (z&&s)),(29,rf 17)]
  |false=>let i:=(f-20) / 10
   let u:=(f-20) % 10 / 2+1
   let z:=iP f
   let a:=44+kX t
   (match Wo u w||(z&& !s)||WD c i with
   |true=>fZ
   |false=>⟨Do (app (tm (kX t+2)) (Rx i (b 0 u z))) [bn 44 t] 0 false,100,.b 7 (BU (rf (44+i)) (iV u) (.bool z) (rf (a+2)) (rf a) (rf (a+1))),
     [⟨⟨.tmp,.tmp,app (tm (kX t+2)) [.lst (cQ (λi=>b i u z) (i+1))],[],0,false,true⟩,.none,BO (iV u) (.bool z) (rf (a+2)) (rf a) (rf (a+1))⟩]⟩)
noncomputable def Uw(q:Nat):dl:=
 let r:=q / 10
 let w:=r / 2+1
 let s:=iP r
 let u:=q % 10 / 2+1
 let z:=iP q
 match Wo u w||(z&& !s)with
 |true=>fZ
 |false=>zg 80 (30+r) (rf (44+Q4 s u z)) (iV u)
noncomputable def g6(c f:Nat):dl:=
 let t:=51+c
 let k:=c+1
 let l:=Rd k 49
 let bs:=Rd k (51+c)
 match f with
 | 0=>sB 210 0 t 36 [rf 46] (.tup [rf 47,rf 48])
 | 1=>sB 210 0 t 38 [rf 46,rf 44,rf 45] (rf (50+c))
 | 2=>sB 210 0 t 50 [l,rf 44,rf 45] bs
 | 3=>s1 210 (tm (kX t)) [bn 44 t] (.b 0 [(58,l),(33,rf 47),(9,rf 48),(29,rf 17)]) .none [(33,rf 44),(9,rf 45),(29,rf 17)]
 | 4=>zg 90 t (rf (50+c)) (rf 44)
 | 7=>S9 80 t 2
 |f=>let i:=f-5
  let a:=44+kX t
  match WD k i with
  |true=>fZ
  |false=>⟨Do (app (tm (kX t+2)) (Rx i (rf (51+c)))) [bn 44 t] 0 false,110,.b 7 (BU (rf (49+i)) (rf 44) (rf 45) (rf (a+2)) (rf a) (rf (a+1))),
     [⟨⟨.tmp,.tmp,app (tm (kX t+2)) [.lst (cQ (λi=>rf (51+c+i)) (i+1))],[],0,false,true⟩,.none,BO (rf 44) (rf 45) (rf (a+2)) (rf a) (rf (a+1))⟩]⟩
noncomputable def wD(n:V):O:= .sd [(ah,rf 17),(bF,rf 43),(fC,n)]
noncomputable def nw(ext:List O)(b:Nat)(ts:List Nat)(v:V)(ρ:Env):hR:=⟨⟨.tmp,.tmp,app ext (tm (LZ GT ts)),yX GT ts b,0,true,true⟩,v,ρ⟩
noncomputable def sD(m c:Nat)(ext:List O)(t:List Bn)(j:hP)(alts:List hR):dl:=⟨Do ext t c true,m,j,alts⟩
noncomputable def g7(q:Nat):dl:=match Wo q 6 with
 |true=>(match q with
  | 0=>sD 110 0 [] [] (.f 92 [rf 3]) [nw [] 44 [20] (rf 44) []]
  | 1=>sD 110 0 [] [] (.f 92 [rf 3]) (cQ (λk=>nw [] 44 [21+k] (rf 44) []) 5)
  | 2=>sD 110 0 [] [] (.f 92 [rf 3]) (cQ (λk=>nw [] 44 [30+k] (rf 44) []) 10)
  | 3=>sD 110 0 [] [] (.f 94 [rf 3]) (cQ (λk=>nw [] 44 [40+k] (rf 44) []) 4)
  | 4=>sD 110 0 [] [] (.f 94 [rf 3]) (app (cQ (λk=>nw [] 44 [] (za k) []) 4) (cQ (λk=>nw [] 44 [44+k] (rf 44) []) 4))
  |_=>sD 110 0 [] [] (.f 90 [rf 3]) [nw [] 44 [9] (rf 44) []])
 |false=>match Wo q 14 with
  |true=>let c:=(q-6) / 4
   let w:=(q-6) % 4
   let b:=Jj c
   sB 200 c (40+w) 44 [rf b,.bool true] (lv (w+1) (rf (b+1)))
  |false=>match Wo q 18 with
   |true=>sB 200 0 (44+(q-14)) 44 [rf 44,.bool true] (lv 1 (rf 45))
   |false=>match WD 22 q with
   |true=>match WD 26 q with
    |true=>fZ
    |false=>s1 60 (tm 3) [bn 44 (40+(q-22))] (.f 57 [lv (q-21) (rf 45),rf 46]) .none []
   |false=>⟨Do (tm 2) [bn 44 (44+(q-18))] 0 false,80,.f 12 [lv 1 (rf 45)],[al (app (tm 2) [.lst [uW (q-18)]]) [] (rf 46)]⟩
noncomputable def U1:dl:=
 let ρ:=[(87,rf 3),(91,rf 44),(92,rf 45),(57,rf 46)]
 sD 110 0 (tm 3) [] (.b 2 ρ) (cQ (λr=>let c:=r / 10+1
  ⟨⟨.tmp,.tmp,app (tm (3+kX (70+r))) [.lst (cQ (λi=>rf (47+i)) c)],[bn 47 (70+r)],0,true,true⟩,.none,app ρ [(58,rf (47+kX (70+r)))]⟩) 20)
noncomputable def U9(q:Nat):dl:=
 let t:=30+q / 20
 let r:=q % 20
 let c:=r / 10+1
 let a:=44+11+kX (70+r)
 let ρ:=[(87,rf (a+1)),(91,rf (a+2)),(92,rf (a+3)),(57,rf 44),(58,rf a)]
 s1 110 (app (tm (11+kX (70+r))) [.lst (cQ (λi=>rf (55+i)) c),.tmp,.tmp,.tmp]) [bn 44 t,bn 55 (70+r)] (.b 3 ρ) .none
  (app ρ [(90,iV (mx ((t-30) / 2+1) (r % 10 / 2+1))),(9,.bool (iP t&&iP r))])
noncomputable def T9:O:= .sd [(ah,rf 17),(bF,rf 44),(fC,rf 46)]
noncomputable def Vl(m:Nat)(ext:List O)(t:List Bn)(j:hP)(ext':List O)(v:V):dl:=⟨Do ext t 0 false,m,j,[⟨⟨.tmp,.tmp,ext',[],0,false,true⟩,v,[]⟩]⟩
noncomputable def g8(q:Nat):dl:=match Wo q 8 with
 |true=>let w:=q / 2
  let c:=tf (iP q) (rf 56) .none
  let ext:=app [wD (rf 45)] (tm 12)
  sD 230 4 ext [bn 47 (40+w),bn 49 20] (.f 96 [rf 44,rf 46,rf 47,rf 49,c]) [nw ext 57 [] (.tup [rf 46,lv (w+1) (rf 48),rf (52+w),c]) []]
 |false=>match q with
  | 8=>let ext:=[wD (rf 45),.tmp,.tmp]
   let ρ:=[(87,rf 3),(91,rf 44),(92,rf 46)]
   sD 250 0 ext [] (.b 4 ρ) (cQ (λc=>⟨⟨.tmp,.tmp,app ext (app (tm (8+2*c)) [.lst (cQ (λi=>rf (52+i)) (c+1))]),[bn 47 (51+c)],0,true,true⟩,.none,
    app ρ [(57,rf 49),(58,rf (55+2*c)),(90,rf 47),(9,rf 48)]⟩) 2)
  |_=>match Wo q 10 with
   |true=>fZ
   |false=>
    let x:=(q-10) / 5
    let k:=(q-10) % 5
    let j:=x-4
    let li:=WD 4 x
    let e:=tf li 50 48
    let ext:=λl=>app [.lst l,T9] (tm (tf li 9 7))
    let lf:=tf li (rf 48) (za x)
    Vl 230 (ext []) (tf li [bn 48 (44+j),bn e (21+k)] [bn e (21+k)]) (.f 96 [rf 45,rf 47,lf,rf e,.none])
     (ext (app (JK k) (tf li [iV j] []))) (.tup [rf 47,tf li (lv 1 (rf 49)) (QG x),rf (e+tf li 1 (x+1)),.none])
noncomputable def S7(n:V):V:= .tup [.str bg,iV 0,.tup [.str bJ,iV 0,n]]
noncomputable def Qp(j:Nat):V:= .str [110,48+j]
noncomputable def QO(n:Nat):List O:=[.sd [(aY,rf 5),(ah,rf n),(aJ,.none)],.inst 3 (44+6*(tf (Wm n 17) 0 1))]
noncomputable def g9(q:Nat):dl:=match q with
 | 0=>let ext:=λl=>[.lst l,T9,.tmp]
  sD 260 0 (ext []) [] (.f 97 [rf 3,rf 45]) (bindL (λk=>app
   (cQ (λw=>nw (ext (JK k)) 47 [21+k] (.tup [za w,rf 47,nB bj (QG w) (rf (48+w)) .none]) []) 4)
   (cQ (λj=>nw (ext (app (JK k) [iV j])) 47 [44+j,21+k] (.tup [rf 47,rf 49,nB bj (lv 1 (rf 48)) (rf 50) .none]) []) 4)) (rg 5))
 | 1=>let ext:=[wD (rf 45),.tmp]
  sD 300 8 ext [] (.f 101 [rf 3,rf 44,iV 0]) [nw ext 46 [] (.tup [.none,.none]) [],nw ext 46 [50] (.tup [rf 46,rf 47]) []]
 | 2=>s1 340 (app (QO 17) (tm 2)) [bn 46 50] (.f 74 [rf 45,rf 46]) (rf 47) []
 | 3=>s1 340 (app (Sw 1) (app (QO 45) (tm 2))) [bn 52 50] (.f 74 [rf 51,rf 52]) (rf 53) []
 | 4=>s1 90 (tm 3) [bn 44 50] (.f 102 [rf 46,rf 45,rf 45]) (.bool true) []
 | 5=>sL 90 50 58 [rf 44] []
 | 6=>let ρ:=[(22,rf 44),(70,rf 46),(21,rf 47)]
  s1 90 (tm 4) [bn 44 50] (.b 1 ρ) .none ρ
 |_=>s1 90 (tm 4) [bn 44 50] (.b 8 [(96,rf 45),(47,rf 46),(29,rf 47)]) .none [(44,.bool true),(96,rf 45),(47,rf 46),(29,rf 47)]
noncomputable def W4(q:Nat):dl:=match q with
 | 0=>let ext:=[wD (rf 45),.tmp]
  sD 320 4 ext [] (.b 5 [(87,rf 3),(91,rf 44)]) [nw ext 46 [61] .none [(45,rf 46),(46,rf 47),(99,rf 48),(100,rf 49)]]
 | 1=>s1 400 (app (QO 17) (tm 4)) [bn 46 61] (.f 74 [rf 45,FF (rf 46) (rf 47)]) (.tup [.str aF,rf 49,rf 48]) []
 | 2=>s1 90 (tm 6) [bn 44 61] (.b 8 [(96,rf 47),(47,rf 48),(29,rf 49)]) .none [(44,.bool false),(96,rf 47),(47,rf 48),(29,rf 49)]
 | 3=>s1 90 (tm 6) [bn 44 61] (.b 8 [(96,rf 46),(47,rf 48),(29,rf 49)]) .none [(44,.bool true),(96,rf 46),(47,rf 48),(29,rf 49)]
 |_=>s1 90 (tm 5) [bn 44 61] (.f 102 [rf 48,rf 46,rf 46]) (.bool true) []
noncomputable def VN(q:Nat):dl:=tf (Wo q 2) (let ext:=λn=>[wD (iV n)]
  let nmd:=λa b=>V.tup [.tup [.str aO,iV 0,Qp q,.tup [],.tup [a,S7 (Qp q)]],.tup [.str aO,.tup [b,.tup [.str bg,Qp q]],Qp q]]
  sD 420 20 (ext q) [] (.f 101 [rf 3,rf 44,iV 1]) [nw (ext q) 45 [] (.tup [.none,.none]) [],nw (ext q) 45 [60] (.tup [rf 45,rf 46]) [],nw (ext (q+1)) 45 [] (nmd .none .none) [],nw (ext (q+1)) 45 [50] (nmd (rf 45) (rf 46)) []]) (match q with
  | 2=>s1 440 (app (QO 17) (tm 3)) [bn 46 60] (.f 74 [rf 45,rf 46]) (rf 48) []
  | 3=>s1 200 (tm 4) [bn 44 60] (.f 102 [rf 47,rf 46,rf 45]) (.bool true) []
  |_=>s1 200 (tm 5) [bn 44 60] (.b 8 [(96,rf 45),(47,rf 47),(29,rf 48)]) .none [(44,.bool true),(96,rf 45),(47,rf 47),(29,rf 48)])
end
noncomputable section
noncomputable def sch(i:Nat):dl:=
 let q:=Za i 10000
 let g:=Yi i 10000
 tf (Wo g 4) (tf (Wo g 2) (tf (Wm g 0) (g0 q) (tf (Wo q 40) (g1 q) (VL (WP q 40)))) (tf (Wm g 2) (g2 q) (g3 (Yi q 50) (Za q 50))))
  (tf (Wo g 8) (tf (Wo g 6) (tf (Wm g 4) (g4 q) (tf (Wo q 800) (g5 (Yi q 20) (Za q 20)) (Uw (WP q 800)))) (tf (Wm g 6) (g6 (Yi q 8) (Za q 8)) (tf (Wo q 30) (g7 q) (tf (Wm q 30) U1 (U9 (WP q 31))))))
   (tf (Wo g 10) (tf (Wm g 8) (g8 q) (g9 q)) (tf (Wm g 10) (W4 q) (VN q))))
noncomputable def Re(g:Nat):Nat:=opt (nv [50,140,176,2550,195,900,16,231,50,8,5,5] g) (λn=>n) 0
noncomputable def P7(f:Nat):Nat:=tf (or (an (WD 17 f) (WD f 24)) (an (WD 45 f) (WD f 46))) 4 (tf (an (WD 32 f) (WD f 34)) 5 3)
noncomputable def rk(i:Nat):Nat:=tf (Wo (Yi i 10000) 3) (Yi i 10000) (tf (Wm (Yi i 10000) 3) (P7 (Yi (Za i 10000) 50)) (WW 2 (Yi i 10000)))
noncomputable def DQ(g i:Nat):Bool:=an (Wo (rk i) g) (an (Wo (Yi i 10000) 12) (Wo (Za i 10000) (Re (Yi i 10000))))
noncomputable def QE(e:V):Nat:=tf (iM (it e 3)) (WP (nt (it e 2)) 97) (WW 4 (WW (Zz 10 (WP (nt (it (it e 2) 2)) 97)) (WW (Zz 2 (WP (nt (it (it (it e 3) 2) 0)) 1)) (nt (it (it e 3) 3)))))
noncomputable def iT(x:XS)(v:V):Nat × Nat:=cD v (λi=>@XI (λ_=>Nat × Nat) (0,0) (λk ih=>opt (x.ty (WP i k)) (λt=>tf (an (WD 20 t) (Wo k (kX t))) (t,k) ih) ih) 12) (20,0)
noncomputable def hdL(x:XS)(v:V):Option V:=cD v (λi=>jP (x.get i) λo=>oL o (λl=>lc l none λv _=>some v) none) none
noncomputable def notRef(v:V):Bool:=cD v (λ_=>false) true
noncomputable def RV(x:XS)(ver:Nat)(f:Nat)(vs:List V):List Nat:=
 let a:=it (.tup vs)
 let tp:=λi=>(iT x (a i)).1
 tf (Wo f 51) (tf (Wo f 36) (tf (Wo f 32) (tf (Wo f 11) (tf (Wm f 5) ([10*(nt (it (a 0) 0)-1)+2*(nt (a 1)-1)+nt (a 2)]) []) (tf (Wo f 12) (tf (Wm f 11) (let p:=iT x (a 0)
  tf (Wo p.1 100) [40020+9*(p.1-21)+(3+p.2)] [30000+50*(26+p.2)+(p.1-100)]) []) (tf (Wm f 12) ([70018+((iT x (it (a 0) 2)).1-44)]) (tf (Wm f 27) (let p:=iT x (a 0)
  tf (WD 100 p.1) [30000+50*(46+nt (a 1))+(p.1-100)] []) [])))) (tf (Wo f 33) (tf (Wm f 32) ([10000+8*(nt (it (it (it (a 1) 3) 2) 0)-1)+2*nt (it (a 2) 2)+nt (it (it (a 1) 3) 3)]) []) (tf (Wo f 34) (tf (Wm f 33) ([20000+QE (a 1),20088+QE (a 1)]) []) (tf (Wm f 34) ([20044+QE (a 1),20132+QE (a 1)]) [])))) (tf (Wo f 40) (tf (Wo f 38) (tf (Wm f 36) (let t:=tp 1
  tf (Wo t 100) (tf (Wo t 50) [40065+13*(t-30)] [60000+8*(t-51)]) [30000+(t-100),30050+(t-100)]) []) (tf (Wo f 39) (tf (Wm f 38) (let t:=tp 1
  let r:=t-100
  tf (Wo t 100) (tf (Wo t 50) [40065+13*(t-30)+(1+nt (a 2)+tf (iP t&& !bt (a 3)) 5 0)] [60001+8*(t-51)]) (tf (xS r&& !bt (a 3)) [30000+50*(11+nt (a 2))+r] [30000+50*(1+nt (a 2))+r,30000+50*(6+nt (a 2))+r])) []) (tf (Wm f 39) (tf (notRef (a 1)) [32250+sk x (a 1),32300+sk x (a 1)] (tf (WD 100 (tp 1)) [32250+(tp 1-100),32300+(tp 1-100)] [40000,40005])) []))) (tf (Wo f 46) (tf (Wo f 44) (tf (Wm f 40) (let t:=tp 1
  (tf (Wm t 20) ([40000+nt (a 2),40005+nt (a 2)]) (tf (Wo t 100) [40020+9*(t-21)+(nt (a 2)-1)] [30000+50*(16+nt (a 2))+(t-100),30000+50*(20+nt (a 2))+(t-100)]))) []) (tf (Wm f 44) (let t:=tf (notRef (a 1)) (tf (Wm (Lm (a 1)) 3) (40+D6 (a 1)) 40) (tp 1)
  tf (Wo t 44) [70006+(t-40),70010+(t-40)] [70014+(t-44)]) [])) (tf (Wo f 50) (tf (Wm f 46) (let t:=tp 2
  tf (Wo t 100) [40013] [31600+(t-100)]) []) (tf (Wm f 50) (let t:=(iT x (it (a 1) 0)).1
  tf (Wo t 60) [60002+8*(t-51)] [50000+20*(2*(nt (a 2)-1)+nt (a 3))+(t-70)]) []))))) (tf (Wo f 93) (tf (Wo f 74) (tf (Wo f 57) (tf (Wm f 51) (let t:=tp 1
  tf (Wo t 100) [40014,40015] [31650+(t-100),31700+(t-100)]) []) (tf (Wo f 58) (tf (Wm f 57) ([70022+((iT x (it (a 0) 2)).1-40)]) []) (tf (Wm f 58) (tf (Wm (tp 0) 50) [90005] []) []))) (tf (Wo f 90) (tf (Wm f 74) (tf (Wm (tp 1) 50) [90002,90003] (tf (Wm (tp 1) 60) [110002] (tf (Wm (iT x (it (it (a 1) 3) 2)).1 61) [100001] []))) []) (tf (Wo f 92) (tf (Wm f 90) (tf (Wm ver 3) [70005] []) []) (tf (Wm f 92) ([70000+tf (Wm ver 3) 0 ver]) [])))) (tf (Wo f 97) (tf (Wo f 94) (tf (Wm f 93) (let t:=tp 0
  tf (Wm t 20) (tf (notRef (a 0)) [] [40010]) (tf (Wo t 100) (tf (Wo t 30) [40028+9*(t-21)] (tf (Wo t 50) [40077+13*(t-30)] [60007+8*(t-51)])) [31300+(t-100)])) []) (tf (Wo f 96) (tf (Wm f 94) ([tf (Wm ver 1) 70004 70003]) []) (tf (Wm f 96) (let t:=tp 3
  tf (Wm t 20) [80000+2*(tp 2-40)+tf (iM (a 4)) 0 1] [80010+5*tf (notRef (a 2)) (D6 (a 2)) (4+(tp 2-44))+(t-21)]) []))) (tf (Wo f 101) (tf (Wo f 100) (tf (Wm f 97) ([90000]) []) (tf (Wm f 100) (let t:=tp 1
  tf (Wo t 100) [40066+13*(t-30)] [31250+(t-100)]) [])) (tf (Wo f 102) (tf (Wm f 101) (tf (Wm (nt (a 2)) 0) [90001] (tf (Wm (nt (a 2)) 1) [110000,110001] [])) []) (tf (Wm f 102) (tf (Wm (tp 2) 50) [90004] (tf (Wm (tp 2) 60) [110003] (tf (Wm (tp 2) 61) [100004] []))) [])))))
noncomputable def ev(ρ:Env)(n:Nat):V:=opt (aa ρ n) (λv=>v) .none
noncomputable def OM(x:XS)(i:Nat)(ρ:Env):List Nat:=tf (Wo 8 i) [] (tf (Wo i 4) (tf (Wo i 2) (tf (Wo i 1) ((let t:=(iT x (it (ev ρ 58) 0)).1
  tf (Wo t 60) [60003+8*(t-51)] [50000+20*(10+2*(nt (ev ρ 33)-1)+nt (ev ρ 9))+(t-70)])) ((tf (Wm (iT x (ev ρ 22)).1 50) [90006] []))) (tf (Wo i 3) (([70030])) (([70031+20*((iT x (ev ρ 57)).1-30)+((iT x (opt (hdL x (ev ρ 58)) (λv=>v) .none)).1-70)])))) (tf (Wo i 6) (tf (Wo i 5) (([80008])) (([100000]))) (tf (Wo i 7) ((let p:=iT x (it (ev ρ 101) 2)
  let t:=p.1
  tf (WD 100 t) [30000+50*(34+p.2)+(t-100)] (tf (Wo t 50) [50800+10*(t-30)+(tf (Wo p.2 6) (2*(p.2-1)+nt (.bool (iP t))) (2*(p.2-6)))] [60004+8*(t-51)]))) (tf (Wo i 8) ((let p:=iT x (ev ρ 37)
  let t:=p.1
  let w:=nt (ev ρ 90)
  let s:=nt (ev ρ 9)
  tf (Wo t 50) [10040+20*(nt (it (it (ev ρ 37) 2) 0)-1)+4*(w-1)+2*s+opt (hdL x (ev ρ 78)) (λ_=>1) 0]
   (tf (Wo t 60) [60000+8*(t-51)+p.2] [50000+20*(20+10*p.2+2*(w-1)+s)+(t-70)]))) ((let p:=iT x (ev ρ 96)
  let t:=p.1
  tf (Wm t 20) [40011,40012] (tf (Wm t 50) [90007] (tf (Wm t 60) [110004] (tf (Wm t 61) [tf (Wm p.2 3) 100002 100003] [31550+(t-100)])))))))))
noncomputable def look(g ver:Nat)(lv:Nat)(j:hP)(x:XS):Option Gs:=Rm sch x j lv (OU (DQ g) (@hP.rec (λ_=>List Nat) (RV x ver) (OM x) j))
noncomputable def TT(g ver:Nat):O2:=⟨sch,look g ver⟩
end
section
variable(Γ:bU)(hk:Hk)
noncomputable def xT(n:Nat):List Mine.S->Env->XS->(Env->XS->Bool)->Bool:=@XI (λ_=>List Mine.S->Env->XS->(Env->XS->Bool)->Bool) (λ_ _ _ _=>false) (λn ih ss ρ x K=>lc ss (K ρ x) λs r=>sT s
 (λe m z=>an (bp m [107,105,110,100]) (opt (aa ρ z) (λv=>jv v (λkd=>an (oK kd) ((xl Γ hk (λk=>bp k kd) n).ev e ρ x λ_ x=>ih r ρ x K)) false) false))
 (λt a b=>(xl Γ hk (λ_=>false) n).tr t ρ x λq x=>tf q (ih a ρ x λρ x=>ih r ρ x K) (ih b ρ x λρ x=>ih r ρ x K))
 ((xl Γ hk (λ_=>false) n).ex s ρ x λq x=>vd q.1 (ih r q.2 x K) false false λv=>rv v (λb=>b) false)) n
end
section
variable{W:Wx}{Γ:bU}{hk:Hk}{φ:List V}{x:XS}{σ:St}{ρ ρ':Env}{K:Env->XS->Bool}{r:R (F × Env)}
inductive TG(W:Wx)(φ:List V)(K:Env->XS->Bool)(r:R (F × Env)):Prop
 |yes (ρ:Env) (σ:St):r=.ok (.ret (.bool true),ρ) σ->TG W φ K r
 |nx (φ':List V) (η η':Env) (x':XS) (σ':St):r=.ok (.next,η') σ'->Le φ φ'->Emb W φ' x' σ'->ES φ' η η'->K η x'=true->TG W φ K r
theorem TG.le{φ':List V}(l:Le φ φ')(h:TG W φ' K r):TG W φ K r:=by
 cases h with
 |yes ρ σ e=>exact .yes ρ σ e
 |nx a b c d e f g E A k=>exact .nx a b c d e f (l.trans g) E A k
theorem TG.bind{K':Env->XS->Bool}{k:Env->St->R (F × Env)}(h:TG W φ K' r)(f:∀{φ' η η' x' σ'},Emb W φ' x' σ'->ES φ' η η'->K' η x'=true->TG W φ' K (k η' σ')):TG W φ K (r.bind λq σ=>bO q σ λρ=>k ρ σ):=by
 cases h with
 |yes ρ σ e=>rw[e];exact .yes ρ σ rfl
 |nx a b c d e q l E A h=>rw[q];exact .le l (f E A h)
theorem Gc(N:mI W Γ)(HK:∀ke,mi W Γ hk ke)(hd:∀(f:Nat) (d:ae),Γ.fns[f]?=some d->fL d.dflts=true){n:Nat}:∀{ss:List Mine.S} {φ:List V} {x:XS} {σ:St} {ρ ρ':Env} {K:Env->XS->Bool},Emb W φ x σ->ES φ ρ ρ'->xT Γ hk n ss ρ x K=true->TG W φ K (gY Γ n ss ρ' σ):=by
 induction n with
 |zero=>exact λ_ _=>fnt
 |succ n ih=>
  intro ss φ x σ ρ ρ' K E A h
  cases ss with
  |nil=>exact .nx φ ρ ρ' x σ rfl (tE.refl _) E A h
  |cons s r=>
  have S:=λke=>Tz (ke:=ke) N (HK ke) hd n
  have plain: ((xl Γ hk (λ_=>false) n).ex s ρ x λq x=>vd q.1 (xT Γ hk n r q.2 x K) false false λv=>rv v (λb=>b) false)=true->TG W φ K ((ex Γ n s ρ' σ).bind λq σ=>bO q σ λρ=>gY Γ n r ρ σ):=λh=>by
   have P:=(S _).ex E A h (WO n)
   cases e:ex Γ n s ρ' σ with
   |ok q σ'=>
    rw[e]at P
    cases P with |mk φ' p x' l E' z k=>
    obtain⟨p1,p2⟩:=p
    obtain⟨q1,q2⟩:=q
    cases p1 with
    |next=>cases(show q1=.next from z.f);exact .le l (ih E' z.e k)
    |ret v=>
     refine ji k aV λb eb k=>?_
     subst eb
     obtain⟨u,eu,hu⟩:=z.f
     cases(show q1=.ret u from eu)
     cases(show u=.bool b from hu)
     cases(show b=true from k)
     exact .yes q2 σ' rfl
    |_=>exact fnt k
   |exc _=>rw[e]at P;exact fnt P
   |bad=>rw[e]at P;exact P.elim
  cases s with
  |try_ e m z=>
   have h1:=aT h
   refine a8 h1.2 aV λv ev h=>cS h aV λkd ek h=>?_
   subst ek
   have h2:=aT h
   obtain⟨u,eu,hu⟩:=A z _ ev
   cases(show u=.str kd from hu)
   have P:=(S _).ev E A h2.2 (WO n)
   show TG W φ K (u7 Γ n e m z ρ' σ λσ=>gY Γ n r ρ' σ)
   unfold u7
   cases q:Mine.ev Γ n e ρ' σ with
   |ok a σ'=>
    rw[q]at P
    cases P with |mk φ' p x' l E' _ k=>exact .le l (ih E' (A.up l) k)
   |exc k=>
    rw[q]at P
    have P:bp k kd=true:=P
    show TG W φ K (gd (bp m [107,105,110,100]) (opt (aa ρ' z) (λv=>jv v (λkd'=>gd (oK kd') (.ok (.ret (.bool (bp k kd')),ρ') σ)) .bad) .bad))
    rw[h1.1,eu]
    show TG W φ K (gd (oK kd) (.ok (.ret (.bool (bp k kd)),ρ') σ))
    rw[h2.1,P]
    exact .yes ρ' σ rfl
   |bad=>rw[q]at P;exact P.elim
  |ite t a b=>
   have P:=(S _).tr E A h (WO n)
   show TG W φ K (((tr Γ n t ρ' σ).bind λq σ=>tf q (gY Γ n a ρ' σ) (gY Γ n b ρ' σ)).bind λq σ=>bO q σ λρ=>gY Γ n r ρ σ)
   cases e:tr Γ n t ρ' σ with
   |ok q σ'=>
    rw[e]at P
    cases P with |mk φ' p x' l E' z k=>
    cases z
    refine .le l ?_
    cases q with
    |true=>exact TG.bind (K':=λρ x=>xT Γ hk n r ρ x K) (ih E' (A.up l) k) λE A h=>ih E A h
    |false=>exact TG.bind (K':=λρ x=>xT Γ hk n r ρ x K) (ih E' (A.up l) k) λE A h=>ih E A h
   |exc _=>rw[e]at P;exact fnt P
   |bad=>rw[e]at P;exact P.elim
  |_=>exact plain h
end
noncomputable section
noncomputable def Oo:Mine.S:=(.expr (a0J (a0F 87) aA [.bin .mod (a0F 37) (.c (.int 1024))]))
noncomputable def Og:Mine.S:=(a0G (a0I (.name 37)) (.bin .fdiv (a0F 37) (.c (.int 1024))))
noncomputable def QT:List Mine.S:=[.ite (a0H .gt (a0F 37) (.c (.int 0))) [Oo,Og] []]
noncomputable def TB:Mine.S:=(a0G (a0I (.name 37)) (.ite (a0H .ge (a0F 88) (.c (.int 0))) (a0F 88) (.bin .sub (.c (.int 7)) (a0F 88))))
noncomputable def nY:List Mine.S:=[TB,Oo,Og,.for_ (.name 89) (.bi .range [.c (.int 30)]) QT]
noncomputable def Tp:Mine.S:=(a0G (a0I (.name 87)) (.lst []))
noncomputable def SG:Mine.S:=(.for_ (.name 88) (.slice (a0F 86) none (some (.c (.int 40)))) nY)
noncomputable def TS:Mine.S:=(a0G (a0I (.name 87)) (.slice (a0F 87) none (some (.c (.int 160)))))
noncomputable def SI:Mine.S:=(.expr (a0J (a0F 87) jE []))
end
noncomputable def G4(L:List Int):Prop:=∀x∈L,0<=x/\x<1024
noncomputable def ju(o0 o2:O)(L:List Int):St:=[o0,.lst (L.map .int),o2]
theorem G4.app{L:List Int}{z:Int}(h:G4 L):G4 (L++[ZA z 1024]):=λx hx=>(X1.mp hx).elim (h x) λhx=>WF.mp hx▸⟨Int.fmod_nonneg_of_pos z (by decide),Int.fmod_lt_of_pos z (by decide)⟩
section
variable{o0 o2:O}{ρ ρ':Env}{L:List Int}{z:Int}{σ:St}{n:Nat}
theorem envGet_ne{x y:Nat}{v:V}{ρ:Env}(h:y≠x):aa (ag ρ x v) y=aa ρ y:=by rw[aH,jz (YQ h)];rfl
theorem eE{s:Mine.S}{r:List Mine.S}{σ':St}{q:R (F × Env)}(h:ex ΓP n s ρ σ=.ok (.next,ρ') σ')(k:exB ΓP n r ρ' σ'=q):exB ΓP (n+1) (s::r) ρ σ=q:=by
 show(ex ΓP n s ρ σ).bind (λq σ=>bO q σ λρ=>exB ΓP n r ρ σ)=q
 rw[h]
 exact k
theorem wy(h1:aa ρ 87=some (.ref 1))(h2:aa ρ 37=some (.int z))(hl:L.length<=90000):ex ΓP (n+10) Oo ρ (ju o0 o2 L)=.ok (.next,ρ) (ju o0 o2 (L++[ZA z 1024])):=by
 show((R.of (aa ρ 87) (ju o0 o2 L)).bind λx σ=>mM ΓP (lw ΓP (n+8)) x aA [.bin .mod (a0F 37) (.c (.int 1024))] ρ σ).bind (λ_ σ=>R.ok (F.next,ρ) σ)=_
 rw[h1]
 show(((((R.of (aa ρ 37) (ju o0 o2 L)).bind λx σ=>(R.ok (V.int 1024) σ).bind λy σ=>gB .mod σ x y).bind λv σ=>R.ok [v] σ).bind λvs σ=>Mine.atL σ 1 (λl=>iG σ 1 l aA vs) .bad)).bind (λ_ σ=>R.ok (F.next,ρ) σ)=_
 rw[h2]
 show(gd (aU (L.map V.int).length) (jT (ju o0 o2 L) 1 .none (L.map V.int++[V.int (ZA z 1024)]))).bind (λ_ σ=>R.ok (F.next,ρ) σ)=_
 rw[show aU (L.map V.int).length=true from decide_eq_true (by rw[Xj];omega)]
 show R.ok (F.next,ρ) [o0,.lst (L.map V.int++[V.int (ZA z 1024)]),o2]=_
 rw[ju,Yb]
 rfl
theorem wo(h2:aa ρ 37=some (.int z)):ex ΓP (n+10) Og ρ σ=.ok (.next,ag ρ 37 (.int (Int.fdiv z 1024))) σ:=by
 show((R.of (aa ρ 37) σ).bind λx σ=>(R.ok (V.int 1024) σ).bind λy σ=>gB .fdiv σ x y).bind (λv σ=>R.ok (F.next,ag ρ 37 v) σ)=_
 rw[h2]
 rfl
inductive QD(o0 o2:O)(ρ:Env)(L:List Int)(k:Nat)(r:R (F × Env)):Prop
 |mk (ρ':Env) (L':List Int):r=.ok (.next,ρ') (ju o0 o2 L')->(∀x,x≠89->x≠37->aa ρ' x=aa ρ x)->G4 L'->L'.length<=L.length+k->QD o0 o2 ρ L k r
theorem El{vs:List V}:∀{ρ:Env} {L:List Int} {z:Int} {n:Nat},aa ρ 87=some (.ref 1)->aa ρ 37=some (.int z)->G4 L->L.length+vs.length<=90000->30+vs.length<=n->QD o0 o2 ρ L vs.length (loopF ΓP n (.name 89) (.vals vs) QT ρ (ju o0 o2 L)):=by
 induction vs with
 |nil=>
  intro ρ L z n h1 h2 ok hl hn
  obtain⟨n,rfl⟩:=XZ (show 1<=n by simp at hn;omega)
  exact⟨ρ,L,rfl,λ_ _ _=>rfl,ok,WO _⟩
 |cons v vs ih=>
  intro ρ L z n h1 h2 ok hl hn
  rw[a0A]at hl hn ⊢
  obtain⟨n,rfl⟩:=XZ (show 30<=n by omega)
  have g1:aa (ag ρ 89 v) 87=some (.ref 1):=aH.trans h1
  have g2:aa (ag ρ 89 v) 37=some (.int z):=aH.trans h2
  have cond:tr ΓP (n+27) (a0H .gt (a0F 37) (.c (.int 0))) (ag ρ 89 v) (ju o0 o2 L)=.ok (decide (0<z)) (ju o0 o2 L):=by
   show(((R.of (aa (ag ρ 89 v) 37) (ju o0 o2 L)).bind λx σ=>(R.ok (V.int 0) σ).bind λy σ=>(Mine.jf .gt σ x y).bind λq σ=>R.ok (V.bool q) σ)).bind (λv σ=>dW σ v)=_
   rw[g2]
   rfl
  show QD o0 o2 ρ L (vs.length+1) (((((tr ΓP (n+27) (a0H .gt (a0F 37) (.c (.int 0))) (ag ρ 89 v) (ju o0 o2 L)).bind λq σ=>tf q (exB ΓP (n+27) [Oo,Og] (ag ρ 89 v) σ) (exB ΓP (n+27) [] (ag ρ 89 v) σ)).bind λq σ=>bO q σ λρ=>exB ΓP (n+28) [] ρ σ)).bind λq σ=>eS q σ λρ=>loopF ΓP (n+29) (.name 89) (.vals vs) QT ρ σ)
  rw[cond]
  by_cases hz: 0<z
  ·rw[decide_eq_true hz]
   show QD o0 o2 ρ L (vs.length+1) (((exB ΓP (n+27) [Oo,Og] (ag ρ 89 v) (ju o0 o2 L)).bind λq σ=>bO q σ λρ=>exB ΓP (n+28) [] ρ σ).bind λq σ=>eS q σ λρ=>loopF ΓP (n+29) (.name 89) (.vals vs) QT ρ σ)
   rw[eE (n:=n+26) (wy (n:=n+16) g1 g2 (by omega)) (eE (n:=n+25) (wo (n:=n+15) g2) rfl)]
   cases ih (ρ:=ag (ag ρ 89 v) 37 (.int (Int.fdiv z 1024))) (L:=L++[ZA z 1024]) (n:=n+29) (aH.trans g1) aH ok.app (by rw[Wu];simp;omega) (by omega)with |mk ρ2 L2 e k o l=>
   refine⟨ρ2,L2,e,λx p q=>((k x p q).trans (envGet_ne q)).trans (envGet_ne p),o,?_⟩
   rw[Wu]at l
   simp at l
   omega
  ·rw[decide_eq_false hz]
   cases ih (n:=n+29) g1 g2 ok (by omega) (by omega)with |mk ρ2 L2 e k o l=>
   exact⟨ρ2,L2,e,λx p q=>(k x p q).trans (envGet_ne p),o,by omega⟩
theorem Dn{c:Int}(h:aa ρ 88=some (.int c)):∃z,ex ΓP (n+10) TB ρ σ=.ok (.next,ag ρ 37 (.int z)) σ:=by
 have cond:tr ΓP (n+8) (a0H .ge (a0F 88) (.c (.int 0))) ρ σ=.ok (decide (0<=c)) σ:=by
  show(((R.of (aa ρ 88) σ).bind λx σ=>(R.ok (V.int 0) σ).bind λy σ=>(Mine.jf .ge σ x y).bind λq σ=>R.ok (V.bool q) σ)).bind (λv σ=>dW σ v)=_
  rw[h]
  rfl
 have e:∃z,tf (decide (0<=c)) (Mine.ev ΓP (n+8) (a0F 88) ρ σ) (Mine.ev ΓP (n+8) (.bin .sub (.c (.int 7)) (a0F 88)) ρ σ)=.ok (.int z) σ:=by
  by_cases hc: 0<=c
  ·rw[decide_eq_true hc]
   exact⟨c,by show R.of (aa ρ 88) σ=_;rw[h];rfl⟩
  ·rw[decide_eq_false hc]
   exact⟨7-c,by show(R.ok (V.int 7) σ).bind (λx σ=>(R.of (aa ρ 88) σ).bind λy σ=>gB .sub σ x y)=_;rw[h];rfl⟩
 refine e.imp λz e=>?_
 show((tr ΓP (n+8) (a0H .ge (a0F 88) (.c (.int 0))) ρ σ).bind λq σ=>tf q (Mine.ev ΓP (n+8) (a0F 88) ρ σ) (Mine.ev ΓP (n+8) (.bin .sub (.c (.int 7)) (a0F 88)) ρ σ)).bind (λv σ=>R.ok (F.next,ag ρ 37 v) σ)=_
 rw[cond]
 show(tf (decide (0<=c)) (Mine.ev ΓP (n+8) (a0F 88) ρ σ) (Mine.ev ΓP (n+8) (.bin .sub (.c (.int 7)) (a0F 88)) ρ σ)).bind (λv σ=>R.ok (F.next,ag ρ 37 v) σ)=_
 rw[e]
 rfl
inductive SN(o0:O)(cs:List Int)(L:List Int)(j:Nat)(r:R (F × Env)):Prop
 |mk (ρ':Env) (L':List Int):r=.ok (.next,ρ') (ju o0 (.lst (cs.map .int)) L')->aa ρ' 87=some (.ref 1)->G4 L'->L'.length<=L.length+31*j->SN o0 cs L j r
theorem Bm{cs:List Int}:∀(j:Nat) {k n:Nat} {ρ:Env} {L:List Int},k+j=cs.length->aa ρ 87=some (.ref 1)->G4 L->L.length+31*j<=80000->100+j<=n->SN o0 cs L j (loopF ΓP n (.name 88) (.list 2 k) nY ρ (ju o0 (.lst (cs.map .int)) L)):=by
 intro j
 induction j with
 |zero=>
  intro k n ρ L hk h1 ok hl hn
  obtain⟨n,rfl⟩:=XZ (show 1<=n by omega)
  refine⟨ρ,L,?_,h1,ok,WO _⟩
  show opt (some (opt (cs.map V.int)[k]? (λv=>some (v,bA.list 2 (k+1))) none)) (λo=>opt o (λx=>opt (aL (.name 88) x.1 ρ) (λρ'=>(exB ΓP n nY ρ' (ju o0 (.lst (cs.map .int)) L)).bind λq σ=>eS q σ λρ=>loopF ΓP n (.name 88) x.2 nY ρ σ) .bad) (.ok (.next,ρ) (ju o0 (.lst (cs.map .int)) L))) .bad=_
  rw[XT (by rw[Xj];omega)]
  rfl
 |succ j ih=>
  intro k n ρ L hk h1 ok hl hn
  obtain⟨n,rfl⟩:=XZ (show 100<=n by omega)
  have hlt:k<cs.length:=by omega
  have hc:aa (ag ρ 88 (.int cs[k])) 88=some (.int cs[k]):=aH
  obtain⟨z,s1⟩:=Dn (σ:=ju o0 (.lst (cs.map .int)) L) (n:=n+88) hc
  have r2:aa (ag (ag ρ 88 (.int cs[k])) 37 (.int z)) 87=some (.ref 1):=(envGet_ne (by decide)).trans ((envGet_ne (by decide)).trans h1)
  have n2:aa (ag (ag ρ 88 (.int cs[k])) 37 (.int z)) 37=some (.int z):=aH
  have s2:=wy (o0:=o0) (o2:= .lst (cs.map .int)) (L:=L) (n:=n+87) r2 n2 (by omega)
  have s3:=wo (σ:=ju o0 (.lst (cs.map .int)) (L++[ZA z 1024])) (n:=n+86) n2
  cases El (o0:=o0) (o2:= .lst (cs.map .int)) (vs:=gF 30 []) (ρ:=ag (ag (ag ρ 88 (.int cs[k])) 37 (.int z)) 37 (.int (Int.fdiv z 1024))) (L:=L++[ZA z 1024]) (n:=n+94) ((envGet_ne (by decide)).trans r2) aH ok.app (by rw[Wu];show L.length+1+30<=90000;omega) (by show 30+30<=n+94;omega)with |mk ρ4 L4 e4 k4 o4 l4=>
  have l4:L4.length<=L.length+31:=by rw[Wu]at l4;exact l4
  have b:exB ΓP (n+99) nY (ag ρ 88 (.int cs[k])) (ju o0 (.lst (cs.map .int)) L)=.ok (.next,ρ4) (ju o0 (.lst (cs.map .int)) L4):=
   eE (n:=n+98) s1 (eE (n:=n+97) s2 (eE (n:=n+96) s3 (eE (n:=n+95) (σ':=ju o0 (.lst (cs.map .int)) L4) (ρ':=ρ4) e4 rfl)))
  cases ih (k:=k+1) (ρ:=ρ4) (L:=L4) (n:=n+99) (by omega) ((k4 _ (by decide) (by decide)).trans ((envGet_ne (by decide)).trans r2)) o4 (by omega) (by omega)with |mk ρ5 L5 e5 r5 o5 l5=>
  refine⟨ρ5,L5,?_,r5,o5,by omega⟩
  show opt (some (opt (cs.map V.int)[k]? (λv=>some (v,bA.list 2 (k+1))) none)) (λo=>opt o (λx=>opt (aL (.name 88) x.1 ρ) (λρ'=>(exB ΓP (n+99) nY ρ' (ju o0 (.lst (cs.map .int)) L)).bind λq σ=>eS q σ λρ=>loopF ΓP (n+99) (.name 88) x.2 nY ρ σ) .bad) (.ok (.next,ρ) (ju o0 (.lst (cs.map .int)) L))) .bad=_
  rw[show(cs.map V.int)[k]?=some (.int cs[k])from by rw[List.getElem?_map,Wt hlt];rfl]
  show(exB ΓP (n+99) nY (ag ρ 88 (.int cs[k])) (ju o0 (.lst (cs.map .int)) L)).bind (λq σ=>eS q σ λρ=>loopF ΓP (n+99) (.name 88) (.list 2 (k+1)) nY ρ σ)=_
  rw[b]
  exact e5
inductive SP(l:List Int)(r:R V):Prop
 |mk (o1 o2:O) (RR:List Int):r=.ok (.ref 3) [.arg (l.map .int),o1,o2,.lst (RR.map .int)]->G4 RR->RR.length<=160->SP l r
theorem rq{l:List Int}{k:Nat}:cut (l.map V.int) none (some k)=(l.take k).map .int:=(List.map_take (f:=V.int)).symm
theorem Mi(l:List Int):SP l (callF ΓP (n+200) 88 [.ref 0] [.arg (l.map .int)]):=by
 have lc: (l.take 40).length<=40:=by rw[a0B];omega
 cases Bm (o0:= .arg (l.map .int)) (cs:=l.take 40) (l.take 40).length (k:=0) (n:=n+196) (ρ:=[(86,.ref 0),(87,.ref 1)]) (L:=[]) (a03 _) rfl (λx hx=>absurd hx WT) (by simp;omega) (by omega)with |mk ρ2 L e2 r2 ok2 l2=>
 have s1:ex ΓP (n+198) Tp [(86,.ref 0)] [.arg (l.map .int)]=.ok (.next,[(86,.ref 0),(87,.ref 1)]) [.arg (l.map .int),.lst []]:=rfl
 have s2:ex ΓP (n+197) SG [(86,.ref 0),(87,.ref 1)] [.arg (l.map .int),.lst []]=.ok (.next,ρ2) (ju (.arg (l.map .int)) (.lst ((l.take 40).map .int)) L):=by
  show(((gd (aU (cut (l.map V.int) none (some 40)).length) (newL [O.arg (l.map .int),O.lst []] (cut (l.map V.int) none (some 40)))).bind λv σ=>kA σ v).bind λsrc σ=>loopF ΓP (n+196) (.name 88) src nY [(86,.ref 0),(87,.ref 1)] σ)=_
  rw[rq,show aU ((l.take 40).map V.int).length=true from decide_eq_true (by rw[Xj];omega)]
  exact e2
 have s3:ex ΓP (n+196) TS ρ2 (ju (.arg (l.map .int)) (.lst ((l.take 40).map .int)) L)=.ok (.next,ag ρ2 87 (.ref 3)) [.arg (l.map .int),.lst (L.map .int),.lst ((l.take 40).map .int),.lst ((L.take 160).map .int)]:=by
  show((R.of (aa ρ2 87) (ju (.arg (l.map .int)) (.lst ((l.take 40).map .int)) L)).bind λx σ=>sliceV σ x none (some 160)).bind (λv σ=>R.ok (F.next,ag ρ2 87 v) σ)=_
  rw[r2]
  show R.ok (F.next,ag ρ2 87 (.ref 3)) [.arg (l.map .int),.lst (L.map .int),.lst ((l.take 40).map .int),.lst (cut (L.map V.int) none (some 160))]=_
  rw[rq]
 have g3:aa (ag ρ2 87 (.ref 3)) 87=some (.ref 3):=aH
 have s4:ex ΓP (n+195) SI (ag ρ2 87 (.ref 3)) [.arg (l.map .int),.lst (L.map .int),.lst ((l.take 40).map .int),.lst ((L.take 160).map .int)]=.ok (.next,ag ρ2 87 (.ref 3)) [.arg (l.map .int),.lst (L.map .int),.lst ((l.take 40).map .int),.lst ((L.take 160).reverse.map .int)]:=by
  show((R.of (aa (ag ρ2 87 (.ref 3)) 87) [O.arg (l.map .int),O.lst (L.map .int),O.lst ((l.take 40).map .int),O.lst ((L.take 160).map .int)]).bind λx σ=>mM ΓP (lw ΓP (n+193)) x jE [] (ag ρ2 87 (.ref 3)) σ).bind (λ_ σ=>R.ok (F.next,ag ρ2 87 (.ref 3)) σ)=_
  rw[g3]
  show R.ok (F.next,ag ρ2 87 (.ref 3)) [.arg (l.map .int),.lst (L.map .int),.lst ((l.take 40).map .int),.lst ((L.take 160).map V.int).reverse]=_
  rw[<-List.map_reverse]
 refine⟨.lst (L.map .int),.lst ((l.take 40).map .int),(L.take 160).reverse,?_,λx hx=>ok2 x (List.mem_of_mem_take (List.mem_reverse.mp hx)),by rw[List.length_reverse,a0B];omega⟩
 show(exB ΓP (n+199) [Tp,SG,TS,SI,.ret (some (a0F 87))] [(86,.ref 0)] [.arg (l.map .int)]).bind nE=_
 rw[eE (n:=n+198) s1 (eE (n:=n+197) s2 (eE (n:=n+196) s3 (eE (n:=n+195) s4 rfl)))]
 show(((R.of (aa (ag ρ2 87 (.ref 3)) 87) [O.arg (l.map .int),O.lst (L.map .int),O.lst ((l.take 40).map .int),O.lst ((L.take 160).reverse.map .int)]).bind λv σ=>R.ok (F.ret v,ag ρ2 87 (.ref 3)) σ).bind λq σ=>bO q σ λρ=>exB ΓP (n+194) [] ρ σ).bind nE=_
 rw[g3]
 rfl
end
noncomputable section
noncomputable def Gn:List Mine.S:=(i8.body.drop 1).take 18
noncomputable def Q5:Env:=[(86,.ref 0),(87,.ref 3)]
noncomputable def ρW:Env:=[(86,.ref 0),(87,.ref 3),(55,.ref 5),(29,.ref 17),(28,.int 3),(107,.ref 30),(108,.ref 34),(109,.ref 39),(91,.ref 44)]
noncomputable def il:List (List Nat × V):=[(ah,.ref 17),(bF,.ref 43),(fC,.int 0)]
noncomputable def wS(o0 o1 o2 o3:O):St:=az (az (az (az (az (az (az cE 0 o0) 1 o1) 2 o2) 3 o3) 12 (.lst [.str kC])) 18 (.sd bH)) 43 (.lst [])++[.sd il]
end
theorem EY(o0 o1 o2 o3:O):gY ΓP 690 Gn Q5 [o0,o1,o2,o3]=.ok (.next,ρW) (wS o0 o1 o2 o3):=by kernel_rfl
theorem vI{b:List Mine.S}{Γ:bU}{a:List Mine.S}:∀{n:Nat} {ρ:Env} {σ:St},gY Γ n (a++b) ρ σ=(gY Γ n a ρ σ).bind λq σ=>bO q σ λρ=>gY Γ (n-a.length) b ρ σ:=by
 induction a with
 |nil=>exact λ{n ρ σ}=>by cases n<;>rfl
 |cons s r ih=>
  intro n ρ σ
  cases n with
  |zero=>rfl
  |succ n=>
  rw[a0A,Nat.add_sub_add_right]
  have go:∀q:R (F × Env),(q.bind λq σ=>bO q σ λρ=>gY Γ n (r++b) ρ σ)=(q.bind λq σ=>bO q σ λρ=>gY Γ n r ρ σ).bind λq σ=>bO q σ λρ=>gY Γ (n-r.length) b ρ σ:=λq=>by
   cases q with
   |ok q σ1=>
    cases q with |mk f ρ1=>
    cases f with
    |next=>exact ih
    |_=>rfl
   |_=>rfl
  cases s with
  |try_ e m z=>
   show u7 Γ n e m z ρ σ (λσ=>gY Γ n (r++b) ρ σ)=(u7 Γ n e m z ρ σ (λσ=>gY Γ n r ρ σ)).bind _
   unfold u7
   cases Mine.ev Γ n e ρ σ with
   |ok v σ1=>exact ih
   |exc k=>
    have stop:∀(c:Bool) (o:Option V),gd c (opt o (λv=>jv v (λkd'=>gd (oK kd') (R.ok (F.ret (V.bool (bp k kd')),ρ) σ)) R.bad) R.bad)=(gd c (opt o (λv=>jv v (λkd'=>gd (oK kd') (R.ok (F.ret (V.bool (bp k kd')),ρ) σ)) R.bad) R.bad)).bind λq σ=>bO q σ λρ=>gY Γ (n-r.length) b ρ σ:=λc o=>by
     cases c with
     |false=>rfl
     |true=>cases o with
      |none=>rfl
      |some v=>cases v with
       |str s=>show gd (oK s) _=(gd (oK s) _).bind _;cases oK s<;>rfl
       |_=>rfl
    exact stop _ _
   |bad=>rfl
  |_=>exact go _
noncomputable section
noncomputable def opOf(i t:Nat):Bool:=
 let q:=Za i 10000
 let g:=Yi i 10000
 or (Wm t 10) (tf (Wo g 5) (tf (Wm g 2) false (an (WD 10 t) (no (an (Wm g 3) (Wm (P7 (Yi q 50)) 4))))) (tf (Wo g 8)
  (tf (Wm g 5) (or (WD 30 t) (an (Wo q 800) (WD 10 t))) (tf (Wm g 6) (WD 30 t) (an (no (or (Wo q 6) (Wm q 30))) (WD 40 t))))
  (tf (Wm g 8) (an (WD 40 t) (tf (Wo q 8) (WD t 43) (an (no (Wm q 8)) (WD t 50)))) (tf (Wm g 9) (an (WD 2 q) (Wm t 50)) (tf (Wm g 10) (an (WD 1 q) (Wm t 61)) (an (WD 2 q) (Wm t 60)))))))
noncomputable def FY(i:Nat):Nat:=tf (Wm i 80008) 2 (tf (Wm i 90000) 1 0)
noncomputable def CF(i:Nat):Bool:=NU GT (TT (rk i) (FY i)) (DQ (rk i)) (opOf i) Vr (sch i)
end
theorem gA:∀(f:Nat) (d:ae),ΓP.fns[f]?=some d->fL d.dflts=true:=by
 have h: (bG.all λd=>fL d.dflts)=true:=by decide +kernel
 intro f d e
 exact Xi.mp h d (WN e)
theorem yD(all:∀i,DQ 14 i=true->CF i=true):∀g,g<=14->∀i,DQ g i=true->sA GT yz ΓP (sch i):=by
 have up:∀{g k i},DQ g i=true->g<=k->DQ k i=true:=λ{g k i} h l=>by
  have h1:=aT h
  show an (Wo (rk i) k) _=true
  rw[yQ (Wz (Wl h1.1) l)]
  exact h1.2
 intro g
 induction g with
 |zero=>exact λ_ i h=>absurd (Wl (aT h).1) (Nat.not_succ_le_zero _)
 |succ g ih=>exact λl i h=>K4 (T:=TT (rk i) (FY i)) gA (λj hj=>ih (WR l) j (up hj (Nat.le_of_lt_succ (Wl (aT h).1)))) (all i (up h l))
noncomputable section
noncomputable def F4:Hk:=P0 GT (TT 14 3) (DQ 14)
noncomputable def D3:XS:=⟨.lst [.str kC],.sd bH,[.sd il],45,[⟨0,1,0,0⟩,⟨3,0,0,0⟩,⟨43,3,0,0⟩],60⟩
noncomputable def ρN:Env:=[(87,.ref 3),(91,.ref 44),(55,.ref 5),(29,.ref 17)]
noncomputable def NN:List Mine.S:=(i8.body.drop 19).take 4
noncomputable def y7:List Mine.S:=i8.body.drop 23
noncomputable abbrev LT:List Nat->Bool:=λ_=>false
noncomputable def kN(Γ:bU)(hk:Hk)(m:Nat)(t:T)(r:List Mine.S)(ρ:Env)(K:Env->XS->Bool):KV:=λv x=>(xl Γ hk LT (m+1)).store t v ρ x λq x=>vd q.1 (xT Γ hk (m+2) r q.2 x K) false false λv=>rv v (λb=>b) false
noncomputable def tN:T:= a0I (.tup [.name 114,.name 102])
noncomputable def TK:List Mine.E:=[a0F 87,a0F 91,.c (.int 2)]
noncomputable def Ta:Mine.S:= a0G (a0I (.name 1)) (.bin .mod (.call 89 [a0F 87]) (.ite (a0H .gt (a0F 92) (.c (.int 0))) (.c (.int 15)) (.c (.int 5))))
noncomputable def SU:List Mine.S:=bW.body.drop 1
noncomputable def ρD:Env:=[(87,.ref 3),(91,.ref 44),(92,.int 2)]
noncomputable def dk(j:Nat):Bool:=(xl ΓP F4 LT 663).exB SU (ag ρD 1 (.int (.ofNat j))) D3 λq x=>xJ q x (kN ΓP F4 665 tN (y7.drop 1) ρN λ_ _=>false)
structure kz(σ:St):Prop where
 big: 45<=σ.length
 w:a6 σ 44=some (.sd il)
 a:a6 σ 12=some (.lst [.str kC])
 b:a6 σ 18=some (.sd bH)
 wr:PG σ
 row:kB σ
 reads:lC 90000 60 σ
noncomputable def ΦW:List V:=ng 0 45
end
theorem Ey{k j n:Nat}(h:j<k): (ng n k)[j]?=some (.ref (n+j)):=by
 have l:j<(ng n k).length:=gq.symm▸h
 have e:=Wt l
 exact e.trans (congrArg some (gy e).1)
theorem eQ{j:Nat}(h:j<45):ΦW[j]?=some (.ref j):=(Ey h).trans (by rw[a03])
theorem pK{j:Nat}{u:V}(h:ΦW[j]?=some u):u=.ref j/\j<45:=by
 have z:=gy h
 rw[a03]at z
 exact z
section
variable{R:nz}{n:Nat}
theorem mh(h:∀i,i<n->R i (.ref i)): (∀v,AM n v=true->VR R v v)/\∀l,tq n l=true->aK R l l:=
 V.ind (λ_=>rfl) (λ_ _=>rfl) (λ_ _=>rfl) (λ_ _=>rfl) (λ_ ih q=>.mkT (ih q)) (λi q=>h i (Wl q)) (λ_=>rfl) λ_ _ f g q=>.cons (f (aT q).1) (g (aT q).2)
noncomputable def yL(n:Nat)(l:List (List Nat × V)):Bool:=@WB (List Nat × V) (λ_=>Bool) true (λp _ ih=>an (AM n p.2) ih) l
noncomputable def qC(n:Nat)(o:O):Bool:=@O.rec (λ_=>Bool) (tq n) (λ_ d=>Wo d n) (yL n) (λ_=>true) (λ_=>false) (λ_=>false) true o
noncomputable def P5(n:Nat)(l:List O):Bool:=@WB O (λ_=>Bool) true (λo _ ih=>an (qC n o) ih) l
theorem Df(h:∀i,i<n->R i (.ref i)){l:List (List Nat × V)}:yL n l=true->SDR R l l:=by
 induction l with
 |nil=>exact λ_=>rfl
 |cons p r ih=>exact λq=>SDR.cons (n:=p.1) (v:=p.2) ((mh h).1 _ (aT (b:=yL n r) q).1) (ih (aT (b:=yL n r) q).2)
theorem lr(h:∀i,i<n->R i (.ref i)){o:O}(q:qC n o=true):OR R o o:=by
 cases o with
 |lst l=>exact⟨l,rfl,(mh h).2 l q⟩
 |inst c d=>exact⟨d,rfl,h d (Wl q)⟩
 |sd l=>exact⟨l,rfl,Df h q⟩
 |nd l=>rfl
 |tmp=>trivial
 |_=>exact fnt q
theorem CH{l:List O}:∀{i:Nat} {o:O},P5 n l=true->a6 l i=some o->qC n o=true:=by
 induction l with
 |nil=>exact λ_ e=>absurd e.symm ad
 |cons p r ih=>exact λ{i o} q e=>by cases i with |zero=>exact Wn e▸(aT q).1|succ i=>exact ih (aT q).2 e
end
theorem qG:an (P5 44 cE) (an (qC 45 (.lst [.str kC])) (an (qC 45 (.sd bH)) (qC 45 (.sd il))))=true:=by decide +kernel
theorem Dc{P:Nat->O->Prop}(h12:P 12 (.lst [.str kC]))(h18:P 18 (.sd bH))(h44:P 44 (.sd il))(hb:∀i o,i<44->a6 cE i=some o->P i o){i:Nat}{o:O}(h:D3.get i=some o):P i o:=by
 have h:tf (Wo i 44) (tf (Wm i 12) (some (.lst [.str kC])) (tf (Wm i 18) (some (.sd bH)) (a6 cE i))) (a6 [.sd il] (WP i 44))=some o:=h
 refine au h (λl h=>au h (λe h=>?_) λ_ h=>au h (λe h=>?_) λ_ h=>hb i o (Wl l) h) λl h=>?_
 ·cases Wq e;cases h;exact h12
 ·cases Wq e;cases h;exact h18
 ·have l: 44<=i:=Zt λz=>Ww (l.symm.trans (yQ z))
  obtain⟨k,rfl⟩:=WM l
  rw[show WP (44+k) 44=k from WH ..]at h
  cases k with
  |zero=>cases h;exact h44
  |succ k=>exact absurd h.symm ad
theorem PR{σ:St}(h: 45<=σ.length):tF fq σ false:=⟨WR h,λj z=>WV z.1 (WR h),λ_ z=>z,nofun⟩
theorem P9{σ:St}(L:kz σ):Emb (Wf GT yz fq σ 90000 true false (PR L.big)) ΦW D3 σ:=by
 have b:=aT qG
 have b2:=aT b.2
 have b3:=aT b2.2
 have id:∀i,i<45->pt ΦW i (.ref i):=λ_ h=>eQ h
 have at_:∀{i o},i<45->a6 σ i=some o->OS ΦW o o->(wok i=true->¬ fq i)->¬ Yv i->At (Wf GT yz fq σ 90000 true false (PR L.big)) ΦW σ i o:=λl e os w y=>⟨_,_,eQ l,e,os,w,y⟩
 refine⟨gq,rfl,λi u h=>(pK h).1▸nofun,λi o h=>Dc (P:=λi o=>o≠.tmp->At (Wf GT yz fq σ 90000 true false (PR L.big)) ΦW σ i o) ?_ ?_ ?_ ?_ h,λi k o p j l _ _ _ _ e f lt=>?_,λj z=>WV (z.elim (λz=>z.1) λz=>by rcases z with rfl|rfl<;>decide) (WR L.big),λb m=>?_,?_⟩
 ·exact λ_=>at_ (by decide) L.a (lr id b2.1) (λ_ z=>z.2.1 rfl) (by unfold Yv;decide)
 ·exact λ_=>at_ (by decide) L.b (lr id b3.1) (λ_ z=>z.2.2 rfl) (by unfold Yv;decide)
 ·exact λ_=>at_ (by decide) L.w (lr id b3.2) (λ_ z=>absurd z.1 (by decide)) (by unfold Yv;decide)
 ·refine λi o l e n=>?_
  have z:=cG e n
  refine at_ (Y4 l) (L.wr i o e n) (lr (λi h=>id i (Y4 h)) (CH b.1 e)) (λw=>?_) λy=>y.elim z.2.1 z.2.2
  refine(yx w).elim (λw=>absurd (Wl w) (Yy l)) λw=>(yx w).elim (λw=>absurd (Wq w) z.1.2.1) λw=>absurd (Wq w) z.1.2.2
 ·cases(pK e).1
  cases(pK f).1
  exact lt
 ·have hb:∀i,i<44->ΦW[i]?=some (.ref i):=λi h=>eQ (Y4 h)
  rcases WJ.mp m with rfl|m
  ·exact tz.base hb
  rcases WJ.mp m with rfl|m
  ·exact⟨λ_=>⟨rfl,eQ (by decide)⟩,nofun,nofun,nofun,λ_=>rfl,λz=>absurd z (by decide)⟩
  ·cases WF.mp m
   exact⟨nofun,nofun,λ_=>⟨rfl,eQ (by decide)⟩,nofun,λ_=>rfl,λz=>absurd z (by decide)⟩
 ·exact⟨WO _,λ_ _ _=>rfl,L.wr,λ_=>L.row,λ_=>L.reads,nofun⟩
section
variable{R:nz}{n:Nat}
theorem zE(D:DB R)(h:∀i,i<n->R i (.ref i)){l:List (List Nat × V)}:∀{m},yL n l=true->SDR R l m->m=l:=by
 induction l with
 |nil=>exact λ_ e=>e
 |cons p r ih=>
  intro m q e
  have q:=aT (b:=yL n r) q
  exact e.inv λu m' a b=>congr (congrArg Zi (congrArg (Prod.mk p.1) ((pV D).1 _ _ _ a ((mh h).1 _ q.1)))) (ih q.2 b)
theorem Au(D:DB R)(h:∀i,i<n->R i (.ref i)){o u:O}(q:qC n o=true)(ne:bk o=false)(e:OR R o u):u=o:=by
 cases o with
 |lst l=>exact WS e λm z=>z.1.trans (congrArg O.lst ((pV D).2 _ _ _ z.2 ((mh h).2 l q)))
 |inst c d=>exact WS e λm z=>z.1.trans (congrArg (λv=>cD v (O.inst c) .tmp) (D _ _ _ z.2 (h d (Wl q))))
 |sd l=>exact WS e λm z=>z.1.trans (congrArg O.sd (zE D h q z.2))
 |nd l=>exact e
 |tmp=>exact fnt ne.symm
 |_=>exact fnt q
end
noncomputable def O8(ρ:Env)(n i:Nat):Bool:=opt (aa ρ n) (λv=>cD v (Wm i) false) false
noncomputable def Qg(ρ:Env)(x:XS):Bool:=an (WD 60 x.c) (an (O8 ρ 87 3) (an (O8 ρ 91 44) (an (O8 ρ 55 5) (an (O8 ρ 29 17)
 (an (xO x 12 (Av V.ref (.lst [.str kC]))) (an (xO x 18 (Av V.ref (.sd bH))) (xO x 44 (Av V.ref (.sd il)))))))))
theorem Ex{φ:List V}{η η':Env}{n i:Nat}(A:ES φ η η')(l:Le ΦW φ)(hi:i<45)(h:O8 η n i=true):aa η' n=some (.ref i):=a8 h aV λv e h=>aM h aV λj ej h=>by
 subst ej
 cases Wq h
 obtain⟨w,e2,z⟩:=A n _ e
 exact e2.trans (congrArg some (Wn ((show φ[i]?=some w from z).symm.trans (l _ _ (eQ hi)))))
theorem mj{W:Wx}{φ:List V}{x:XS}{σ:St}(E:Emb W φ x σ)(l:Le ΦW φ){i:Nat}{o:O}(hi:i<45)(s:qC 45 o=true)(ne:bk o=false)(so:eR V.ref o=o)(h:xO x i (Av V.ref o)=true):a6 σ i=some o:=a8 h aV λp e h=>by
 obtain⟨e1,_⟩:=CX h
 rw[so]at e1
 subst e1
 cases E.obj i _ e (lN ne)with |mk j o' a b os _ _=>
 cases Wn (a.symm.trans (l _ _ (eQ hi)))
 exact b.trans (congrArg some (Au (LJ φ) (λi h=>l _ _ (eQ h)) s ne os))
theorem kz.next{σ σ':St}(L:kz σ){φ:List V}{x:XS}{η η':Env}(E:Emb (Wf GT yz fq σ 90000 true false (PR L.big)) φ x σ')(l:Le ΦW φ)(A:ES φ η η')(h:Qg η x=true):kz σ'/\ES ΦW ρN η':=by
 have b:=aT (aT qG).2
 have b2:=aT b.2
 have h1:=aT h
 have h2:=aT h1.2
 have h3:=aT h2.2
 have h4:=aT h3.2
 have h5:=aT h4.2
 have h6:=aT h5.2
 have h7:=aT h6.2
 refine⟨⟨Wz L.big E.gi.len,mj E l (by decide) b2.2 rfl rfl h7.2,mj E l (by decide) b.1 rfl rfl h6.1,mj E l (by decide) b2.1 rfl rfl h7.1,E.gi.wr,E.gi.row rfl,?_⟩,λn a he=>?_⟩
 ·obtain⟨m,e,k,B⟩:=E.gi.reads rfl
  exact⟨m,e,Wz (XC (Wl h1.1) _) k,B⟩
 ·have go:∀{m i r},i<45->O8 η m i=true->(aa r n=some a->∃b,aa η' n=some b/\VS ΦW a b)->tf (Wm m n) (some (.ref i)) (aa r n)=some a->∃b,aa η' n=some b/\VS ΦW a b:=λ{m i r} hi q k e=>au (b:=Wm m n) (t:=some (.ref i)) (e:=aa r n) e (λy z=>by
   cases Wq y
   cases z
   exact⟨_,Ex A l hi q,eQ hi⟩) λ_ e=>k e
  exact go (r:=[(91,.ref 44),(55,.ref 5),(29,.ref 17)]) (by decide) h2.1 (go (r:=[(55,.ref 5),(29,.ref 17)]) (by decide) h3.1 (go (r:=[(29,.ref 17)]) (by decide) h4.1 (go (r:=[]) (by decide) h5.1 λe=>absurd e.symm ad))) he
section
variable{Γ:bU}{hk:Hk}{ke:List Nat->Bool}{m:Nat}{ρ:Env}{x:XS}
theorem Dt{g:Nat}{es:List Mine.E}{t:T}{r:List Mine.S}{K:Env->XS->Bool}:xT Γ hk (m+3) (a0G t (.call g es)::r) ρ x K=(xl Γ hk LT m).evs es ρ x (λvs x=>(xl Γ hk LT m).callF g vs x (kN Γ hk m t r ρ K)):=rfl
theorem yf{g:Nat}{vs:List V}{K:KV}{d:ae}(h:hk.f (xl Γ hk ke m).m g vs x K=none)(hd:nv Γ.fns g=some d)(hb:bindArgs d.params d.dflts vs=some ρ): (xl Γ hk ke (m+1)).callF g vs x K=(xl Γ hk ke m).exB d.body ρ x λq x=>xJ q x K:=by
 show Qv (hk.f (xl Γ hk ke m).m g vs x K) (opt (nv Γ.fns g) (λd=>opt (bindArgs d.params d.dflts vs) (λρ=>(xl Γ hk ke m).exB d.body ρ x λq x=>xJ q x K) false) false)=_
 rw[h,hd]
 show opt (bindArgs d.params d.dflts vs) (λρ=>(xl Γ hk ke m).exB d.body ρ x λq x=>xJ q x K) false=_
 rw[hb]
 rfl
theorem exB_cons{s:Mine.S}{r:List Mine.S}{K:KF}: (xl Γ hk ke (m+1)).exB (s::r) ρ x K=(xl Γ hk ke m).ex s ρ x λq x=>Bj q x K λρ=>(xl Γ hk ke m).exB r ρ x K:=rfl
end
theorem Db{f:Nat->Bool}{n:Nat}: (∀j,j<n->f j=true)->qb n f=true:=by
 induction n with
 |zero=>exact λ_=>rfl
 |succ n ih=>exact λh=>by show an (f n) (qb n f)=true;rw[h n (XB n),ih λj l=>h j (Y4 l)];rfl
theorem PT(K:KL): (xl ΓP F4 LT 665).evs TK ρN D3 K=K [.ref 3,.ref 44,.int 2] D3:=by kernel_rfl
theorem HM(K:KV):F4.f (xl ΓP F4 LT 664).m 101 [.ref 3,.ref 44,.int 2] D3 K=none:=by kernel_rfl
theorem Ke(K:KF): (xl ΓP F4 LT 663).ex Ta ρD D3 K=qb 15 λj=>K (.next,ag ρD 1 (.int (.ofNat j))) D3:=by kernel_rfl
theorem Cr(all:∀j,j<15->dk j=true):xT ΓP F4 668 y7 ρN D3 (λ_ _=>false)=true:=by
 have e:y7=a0G tN (.call 101 TK)::y7.drop 1:=rfl
 rw[e]
 refine(Dt (m:=665)).trans ((PT _).trans ((yf (m:=664) (d:=bW) (ρ:=ρD) (HM _) rfl rfl).trans ?_))
 rw[show bW.body=Ta::SU from rfl]
 exact(exB_cons (m:=663)).trans ((Ke _).trans (Db all))
theorem BR:xT ΓP F4 672 NN ρW D3 Qg=true:=by decide +kernel
theorem zJ{n:Nat}{σ σ':St}(h:callF ΓP (n+5) 88 [.ref 0] σ=.ok (.ref 3) σ'):ex ΓP (n+7) (a0G (a0I (.name 87)) (.call 88 [a0F 86])) [(86,.ref 0)] σ=.ok (.next,Q5) σ':=by
 show((callF ΓP (n+5) 88 [.ref 0] σ).bind λv σ=>R.ok (F.next,ag [(86,.ref 0)] 87 v) σ)=_
 rw[h]
 rfl
theorem MG{Γ:bU}{n:Nat}{t:T}{e:Mine.E}{r:List Mine.S}{ρ:Env}{σ:St}:gY Γ (n+1) (a0G t e::r) ρ σ=(ex Γ n (a0G t e) ρ σ).bind λq σ=>bO q σ λρ=>gY Γ n r ρ σ:=rfl
theorem I7:i8.body=a0G (a0I (.name 87)) (.call 88 [a0F 86])::(Gn++(NN++y7)):=by kernel_rfl
theorem JT:ΓP.fns[103]?=some i8:=by kernel_rfl
theorem MX{R:nz}{n:Nat}(h:∀i,i<n->R i (.ref i)){ρ:Env}: (@WB (Nat × V) (λ_=>Bool) true (λp _ ih=>an (AM n p.2) ih) ρ)=true->ER R ρ ρ:=by
 induction ρ with
 |nil=>exact λ_ _ _ e=>absurd e.symm ad
 |cons p r ih=>
  intro q m a e
  refine au (b:=Wm p.1 m) (t:=some p.2) (e:=aa r m) e (λz w=>⟨a,e,Wn w▸(mh h).1 _ (aT q).1⟩) λz w=>?_
  obtain⟨b,e1,e2⟩:=ih (aT q).2 m a w
  cases w.symm.trans e1
  exact⟨a,e,e2⟩
theorem vT{ρ:Env}{σ:St}{k:Env->St->R (F × Env)}: ((R.ok (F.next,ρ) σ).bind λq σ=>bO q σ λρ=>k ρ σ)=k ρ σ:=rfl
theorem BA{Γ:bU}{n f:Nat}{vs:List V}{σ:St}{d:ae}{ρ:Env}(hd:Γ.fns[f]?=some d)(hb:bindArgs d.params d.dflts vs=some ρ):rj Γ n f vs σ=(gY Γ n d.body ρ σ).bind nE:=by
 unfold rj
 rw[hd]
 show opt (bindArgs d.params d.dflts vs) (λρ=>(gY Γ n d.body ρ σ).bind nE) .bad=_
 rw[hb]
 rfl
theorem Pl{o0 o1 o2 o3:O}(r:kB (wS o0 o1 o2 o3)):kz (wS o0 o1 o2 o3):=by
 refine⟨by simp[wS,ba,jA],rfl,rfl,rfl,λi o e n=>?_,r,[],rfl,by decide,by decide⟩
 have no:∀{k},a6 cE k=some .tmp->k≠i:=λh q=>n (Wn (e.symm.trans (q▸h)))
 have lt:i<44:=jA▸bK e
 unfold wS
 rw[dv (by simp only[ba];exact lt)]
 rw[aX (no cj.2.2.2),aX (no cj.2.2.1),aX (no cj.2.1),aX (no cj.1),aX (no (k:=2) rfl),aX (no (k:=1) rfl),aX (no (k:=0) rfl)]
 exact e
theorem B9(all:∀i,DQ 14 i=true->CF i=true)(kinds:∀j,j<15->dk j=true)(l:List Int):∃σ,rj ΓP 691 103 [.ref 0] [.arg (l.map .int)]=.ok (.bool true) σ:=by
 have VA:=yD all 14 (WO _)
 cases Mi l (n:=488)with |mk o1 o2 RR er okL ln=>
 have L:kz (wS (.arg (l.map .int)) o1 o2 (.lst (RR.map .int))):=Pl ⟨RR,rfl,okL,ln⟩
 have HK:∀{σ} (L:kz σ) ke,mi (Wf GT yz fq σ 90000 true false (PR L.big)) ΓP F4 ke:=λL ke=>D1 VA
 have fin:∀{σ ρ} (L:kz σ),ES ΦW ρN ρ->∃ρ' σ',gY ΓP 668 y7 ρ σ=.ok (.ret (.bool true),ρ') σ':=λL A=>by
  cases Gc lO (HK L) gA (P9 L) A (Cr kinds)with
  |yes ρ σ e=>exact⟨ρ,σ,e⟩
  |nx _ _ _ _ _ _ _ _ _ k=>exact fnt k
 have AW:ES ΦW ρW ρW:=MX (λ_ h=>eQ h) rfl
 have body:∃ρ' σ',gY ΓP 691 i8.body [(86,.ref 0)] [.arg (l.map .int)]=.ok (.ret (.bool true),ρ') σ':=by
  rw[I7,MG (n:=690),zJ (n:=683) er]
  rw[vT,vI,EY,vT,vI,show 690-Gn.length=672 from rfl,show 672-NN.length=668 from rfl]
  cases Gc lO (HK L) gA (P9 L) AW BR with
  |yes ρ σ e=>rw[e];exact⟨ρ,σ,rfl⟩
  |nx φ η η' x σ e l E A k=>
   rw[e]
   have z:=L.next E l A k
   exact fin z.1 z.2
 obtain⟨ρ',σ',e⟩:=body
 refine⟨σ',?_⟩
 rw[BA (d:=i8) JT (ρ:=[(86,.ref 0)]) rfl,e]
 rfl
end Mx
end
section
open PySem PySem.W PyProof.Rows
namespace Mine
open PySem.Challenge
noncomputable section
noncomputable def UH(f:Nat):Addr:=jS fj[f]? (λe=>e.a) 0
noncomputable def UJ(c:Nat):Addr:=jS [253,210,52,1448,1511,1537,1677,1600][c]? (λa=>a) 0
noncomputable def Wh:List (List Nat):=[dG,o6,tn,bc,rP,n8,eW,w6,vt,Fr,aY,gT,j6,zo,Cv,mo,wR,bL,dJ,bV,fz,ah,aJ,bB,bM,lg,vb,Ar,kJ,wn,yY,rS,dC,zT,oU,wz,zI,ku,j8,zh,vJ,fD,uV,iR,eU,cK]
noncomputable def KE(P:X4)(F:Nat->Yg):Frag:=xE P++fj.map λe=>(e.a,⟨.type "function",none,.func (F e.a),#[]⟩)
noncomputable def wd(w:World)(h:Heap)(P:X4)(F:Nat->Yg):Wd:=⟨pw_ok0103_01,w,h,KE P F,UH,UJ,rN,Wh,λc=>Wo c 8&& !Wm c 2⟩
noncomputable def S4{α:Type}(v:Value)(n:α)(i:Int->α)(s:YG->α)(z:α):α:=@Value.casesOn (λ_=>α) v n z z (λ_=>z) (λx _=>i x) (λ_ _=>z) (λx _=>s x) (λ_ _=>z) (λ_=>z) (λ_=>z) (λ_=>z)
noncomputable def PC(v:V)(u:Value):Bool:=S4 u (FC v true false) (λj=>fp v (λi=>i==j) false) (λy=>jv v (λx=>af x==y) false) false
noncomputable def Cq(vs:List V):List Value->Bool:=@WB V (λ_=>List Value->Bool) List.isEmpty (λv _ ih us=>lc us false λu r=>PC v u&&ih r) vs
noncomputable def pT(P:X4)(d:ae)(e:FE):Bool:=jS e.d (λT=>jS (bI (xE P) T) (λo=>(o.cls== .type "tuple")&&q9 o.data (λq=>Cq d.dflts q.toList) (λ_=>false) (λ_=>false) false) false) d.dflts.isEmpty
noncomputable def G0(W:Wd)(d:ae)(sc:Scope)(as:List Arg):Bool:=decide (as.map (·.arg)).Nodup&&(d.params.map (W.nm[·]?)==(as.map (·.arg)).map some&&(WD d.dflts.length d.params.length&&(as.map (·.arg)).all λn=>(sc.names.lookup n==some .local)||(sc.names.lookup n==some .cell)))
noncomputable def EI(W:Wd)(d:ae)(ps:Yo)(sc:Scope):Bool:=decide (sc.kind=.function)&&(!sc.isGenerator&&(!sc.isCoroutine&&(ps.posonlyargs.isEmpty&&(ps.vararg.isNone&&(ps.kwonlyargs.isEmpty&&(ps.kwarg.isNone&&G0 W d sc ps.args))))))
noncomputable def Kw(W:Wd)(P:X4)(d:ae)(e:FE):Bool:=DZ e (λps b sc=>EI W d ps sc&&(pT P d e&&mB W (lz W Mx.ΓP 3) sc.names d.body b)) false
noncomputable def fF(W:Wd)(P:X4)(ds:List ae):List FE->Bool:=@WB ae (λ_=>List FE->Bool) List.isEmpty (λd _ ih es=>lc es false λe r=>Kw W P d e&&ih r) ds
noncomputable def Bf:List Stmt:=DZ Im (λ_ b _=>b) []
noncomputable def Aw:Scope:=DZ Im (λ_ _ sc=>sc) default
noncomputable def JF(o:Option ClassData):Bool:=jS o (λcd=>cd.hasDict) false
noncomputable def wK(W:Wd)(c:Nat)(n:YG)(f:Nat):Bool:=(findIn W.K (.ref (W.ca c)) n==some (some (.ref (W.fa f))))&&(typeIn W.K (.ref (W.fa f))==some (.type "function"))
noncomputable def Nl(W:Wd)(c:Nat):Bool:=W.an.all λn=>findIn W.K (.ref (W.ca c)) (af n)==some none
noncomputable def HG(W:Wd)(c:Nat)(k:da):Bool:=JF (clsIn W.K (W.ca c))&&((findIn W.K (.ref (W.ca c)) "__getattribute__"==some (some (.builtin "object.__getattribute__")))&&((findIn W.K (.ref (W.ca c)) "__getattr__"==some none)&&((findIn W.K (.ref (W.ca c)) "__setattr__"==some (some (.builtin "object.__setattr__")))&&
 (plainOver W.K (W.ca c)&&(Nl W c&&((k.meths.all λp=>wK W c (af p.1) p.2&&keepIn W.K (.ref (W.fa p.2)))&&(makesIn W.K (W.ca c)&&wK W c "__init__" k.init)))))))
noncomputable def uy(W:Wd)(l:List da):Nat->Bool:=@WB da (λ_=>Nat->Bool) (λ_=>true) (λk _ ih c=>(Wm c 2||HG W c k)&&ih (c+1)) l
noncomputable def Sp(W:Wd)(init:Nat):Bool:=JF (clsIn W.K (W.ca 2))&&((findIn W.K (.ref (W.ca 2)) "__setattr__"==some (some (.builtin "object.__setattr__")))&&((findIn W.K (.ref (W.ca 2)) "__getattribute__"==some (some (.builtin "BaseException.__getattribute__")))&&((findIn W.K (.ref (W.ca 2)) "__getattr__"==some none)&&(Nl W 2&&wK W 2 "__init__" init))))
end
section
variable(w:World)(h:Heap)(P:X4)(F:Nat->Yg)
theorem RX:fF (wd w h P F) P ((bG.drop 0).take 13) ((fj.drop 0).take 13)=true:=by kernel_rfl
theorem PU:fF (wd w h P F) P ((bG.drop 13).take 13) ((fj.drop 13).take 13)=true:=by kernel_rfl
theorem Pa:fF (wd w h P F) P ((bG.drop 26).take 13) ((fj.drop 26).take 13)=true:=by kernel_rfl
theorem PE:fF (wd w h P F) P ((bG.drop 39).take 13) ((fj.drop 39).take 13)=true:=by kernel_rfl
theorem Ps:fF (wd w h P F) P ((bG.drop 52).take 13) ((fj.drop 52).take 13)=true:=by kernel_rfl
theorem Oi:fF (wd w h P F) P ((bG.drop 65).take 13) ((fj.drop 65).take 13)=true:=by kernel_rfl
theorem OY:fF (wd w h P F) P ((bG.drop 78).take 13) ((fj.drop 78).take 13)=true:=by kernel_rfl
theorem OK:fF (wd w h P F) P ((bG.drop 91).take 13) ((fj.drop 91).take 13)=true:=by kernel_rfl
theorem La:mL (wd w h P F) Aw.names 60 i8.body Bf=true:=by kernel_rfl
theorem HB:uy (wd w h P F) jl 0=true:=by kernel_rfl
theorem Hf:Sp (wd w h P F) 0=true:=by kernel_rfl
theorem PW:we=excClassObj (Wi "DesignError") (Wi "DesignError") 52 51 [.ref 39] [.ref 39,.type "Exception",.type "BaseException",.type "object"] true [] [] false none none (some (.ref 43)) none (some (vS "DesignError" 232)) (some (vS "DesignError" 240)) (some (.bool true)) "Exception.__new__":=by rfl
theorem OX:rN.Nodup:=by decide +kernel
theorem bN{P:Prop}(h:false=true):P:=absurd h Ww
theorem KC{α:Type}{r:α}{P:Prop}(h:none=some r):P:=absurd h.symm ad
theorem qD{x:Option ClassData}(h:JF x=true):∃cd,x=some cd/\cd.hasDict=true:=by
 cases x with
 |none=>exact bN h
 |some cd=>exact⟨cd,rfl,h⟩
theorem qE{W:Wd}{c:Nat}(h:Nl W c=true):∀n∈W.an,findIn W.K (.ref (W.ca c)) (af n)=some none:=λn hn=>XE (Xi.mp h n hn)
theorem gN{W:Wd}{c f:Nat}{n:YG}(h:wK W c n f=true):findIn W.K (.ref (W.ca c)) n=some (some (.ref (W.fa f)))/\typeIn W.K (.ref (W.fa f))=some (.type "function"):=⟨XE (ac h).1,XE (ac h).2⟩
theorem Ed{W:Wd}{c:Nat}{k:da}(h:HG W c k=true):qZ W c W.an k:=by
 have h1:=ac h
 have h2:=ac h1.2
 have h3:=ac h2.2
 have h4:=ac h3.2
 have h5:=ac h4.2
 have h6:=ac h5.2
 have h7:=ac h6.2
 have h8:=ac h7.2
 refine⟨qD h1.1,XE h2.1,XE h3.1,XE h4.1,h5.1,qE h6.1,λp hp=>?_,h8.1,gN h8.2⟩
 have z:=ac (Xi.mp h7.1 p hp)
 exact⟨(gN z.1).1,(gN z.1).2,z.2⟩
theorem yO{W:Wd}{l:List da}:∀{n c:Nat} {k:da},uy W l n=true->l[c]?=some k->n+c≠2->HG W (n+c) k=true:=by
 induction l with
 |nil=>exact λ_ q=>KC q
 |cons x r ih=>
  intro n c k h q ne
  have h:=ac (b:=uy W r (n+1)) h
  cases c with
  |zero=>cases q;exact((Yq ..).mp h.1).elim (λe=>absurd (Wq e) ne) id
  |succ c=>
   have e:n+(c+1)=n+1+c:=by rw[Xm,Nat.add_comm 1 c]
   rw[e]at ne ⊢
   exact ih h.2 q ne
theorem D7{W:Wd}{P:X4}{ds:List ae}:∀{es:List FE} {f:Nat} {d:ae},fF W P ds es=true->ds[f]?=some d->∃e,es[f]?=some e/\Kw W P d e=true:=by
 induction ds with
 |nil=>exact λ_ q=>KC q
 |cons a r ih=>
  intro es f d h q
  cases es with
  |nil=>exact bN h
  |cons e es=>
   have h:=ac (b:=fF W P r es) h
   cases f with
   |zero=>cases q;exact⟨e,rfl,h.1⟩
   |succ f=>exact ih (es:=es) h.2 q
theorem AO{W:Wd}{P:X4}{n:Nat}:∀{ds:List ae} {es:List FE},fF W P (ds.take n) (es.take n)=true->fF W P (ds.drop n) (es.drop n)=true->fF W P ds es=true:=by
 induction n with
 |zero=>exact λ_ h=>h
 |succ n ih=>
  intro ds es h k
  cases ds with
  |nil=>cases es with |nil=>rfl|cons _ _=>exact bN h
  |cons d ds=>
   cases es with
   |nil=>exact bN h
   |cons e es=>
    have h:=ac (b:=fF W P (ds.take n) (es.take n)) h
    show(Kw W P d e&&fF W P ds es)=true
    rw[h.1,ih h.2 k]
    rfl
theorem cm{W:Wd}{P:X4}{n m:Nat}(h:fF W P ((bG.drop n).take m) ((fj.drop n).take m)=true)(k:fF W P (bG.drop (n+m)) (fj.drop (n+m))=true):fF W P (bG.drop n) (fj.drop n)=true:=
 AO h (by rw[List.drop_drop,List.drop_drop];exact k)
theorem I5:fF (wd w h P F) P bG fj=true:=
 (cm (n:=0) (m:=13) (RX w h P F) (cm (n:=13) (m:=13) (PU w h P F) (cm (n:=26) (m:=13) (Pa w h P F) (cm (n:=39) (m:=13) (PE w h P F) (cm (n:=52) (m:=13) (Ps w h P F) (cm (n:=65) (m:=13) (Oi w h P F) (cm (n:=78) (m:=13) (OY w h P F) (cm (n:=91) (m:=13) (OK w h P F) (by kernel_rfl)))))))))
structure OW(h:Heap)(F:Nat->Yg)(e:FE)(ps:Yo)(b:List Stmt)(sc:Scope):Prop where
 at_:h.get? e.a=some ⟨.type "function",none,.func (F e.a),#[]⟩
 tx:∀{α:Type} (f:Yo->List Stmt->Scope->α) (d:α),DZ e f d=f ps b sc
 params: (F e.a).params=ps
 body: (F e.a).body=.stmts b
 scope: (F e.a).scope=sc
 gl: (F e.a).globals=mainGlobals
 bu: (F e.a).builtins=builtinsNs
 cl: (F e.a).closure=[]
 df: (F e.a).defaults=jS e.d Xn .none
 code:h.CodeRec (F e.a).code (F e.a).qualname
theorem Aq{α:Type}{d:Data}{f:Yg->Option α}{r:α}{P:Prop}(h:q9 d (λ_=>none) f (λ_=>none) none=some r)(k:∀fd,d=.func fd->f fd=some r->P):P:=by
 cases d with
 |func fd=>exact k fd rfl h
 |_=>exact KC h
theorem Ao{α:Type}{d:Data}{f:Array Value->Option α}{r:α}{P:Prop}(h:q9 d (λ_=>none) (λ_=>none) f none=some r)(k:∀vs,d=.fields vs->f vs=some r->P):P:=by
 cases d with
 |fields fd=>exact k fd rfl h
 |_=>exact KC h
theorem z9{d:Data}{f:Array Value->Bool}{P:Prop}(h:q9 d f (λ_=>false) (λ_=>false) false=true)(k:∀vs n,d=.seq vs n->f vs=true->P):P:=by
 cases d with
 |seq q n=>exact k q n rfl h
 |_=>exact bN h
theorem Fj{α:Type}{s:Stmt}{f:Yo->List Stmt->Scope->Option α}{r:α}{P:Prop}(h:Qw s f (λ_=>none) none=some r)(k:∀ps b sc,(∀{β:Type} (g:Yo->List Stmt->Scope->β) (c:List Stmt->β) (d:β),Qw s g c d=g ps b sc)->f ps b sc=some r->P):P:=by
 cases s with
 |FunctionDef n ps b _ _ _ sc _ _ _=>exact k ps b sc (λ_ _ _=>rfl) h
 |_=>exact KC h
theorem Dh{α:Type}{e:FE}{f:Yo->List Stmt->Scope->Option α}{r:α}{P:Prop}(h:DZ e f none=some r)(k:∀ps b sc,(∀{β:Type} (g:Yo->List Stmt->Scope->β) (d:β),DZ e g d=g ps b sc)->f ps b sc=some r->P):P:=
 c7 h λs hs h=>Fj h λps b sc g h=>k ps b sc (λf d=>by
  unfold DZ
  rw[hs]
  exact g f (λ_=>d) d) h
theorem uz{h:Heap}{c:Addr}{o:Obj}{q:YG}(ho:h.get? c=some o)(e:Tk o=some q):h.CodeRec (.ref c) q:=
 Ao e λvs hd e=>c7 e λv hv e=>by
  cases v with
  |str x t=>cases e;exact⟨c,o,vs,t,rfl,ho,hd,hv⟩
  |_=>exact KC e
noncomputable def BX(h:Heap)(a:Nat):Yg:=jS (h.get? a) (λo=>q9 o.data (λ_=>default) (λfd=>fd) (λ_=>default) default) default
theorem Kl{h:Heap}{e:FE}(x:u9 h e):∃ps b sc,OW h (BX h) e ps b sc:=by
 obtain⟨o,c,y,ho,hc,hv,he⟩:=x
 refine Dh he λps b sc tx he=>Aq hv λfd hd hv=>⟨ps,b,sc,?_⟩
 have q:=Wn (hv.trans he.symm)
 have hf:BX h e.a=fd:=by unfold BX;rw[ho];show q9 o.data _ _ _ _=_;rw[hd];rfl
 have k:fd.code=.ref e.c:=congrArg FV.cd q
 refine⟨ho.trans (congrArg some ?_),tx,hf▸congrArg FV.ps q,hf▸congrArg FV.body q,hf▸congrArg FV.sc q,hf▸congrArg FV.gl q,hf▸congrArg FV.bu q,hf▸congrArg FV.cl q,hf▸congrArg FV.df q,hf.symm▸k.symm▸uz hc (XE (congrArg FV.ok q))⟩
 have c1:o.cls=.type "function":=congrArg FV.cls q
 have c2:o.dict=none:=congrArg FV.dict q
 have c3:o.slots=#[]:=congrArg FV.slots q
 rw[hf]
 cases o with |mk a b c d=>
 cases c1;cases c2;cases c3;cases hd
 rfl
theorem ET{ι:List Addr}{h:Heap}{v:V}{u:Value}(q:PC v u=true):VR ι h v u:=by
 cases u with
 |none=>cases v with |none=>rfl|_=>exact bN q
 |int j t=>cases v with |int i=>exact⟨t,congrArg (λi=>a04 i t) (XE (show(i==j)=true from q)).symm⟩|_=>exact bN q
 |str y t=>cases v with |str x=>exact⟨t,congrArg (λi=>Value.str i t) (XE (show(af x==y)=true from q)).symm⟩|_=>exact bN q
 |_=>exact bN q
theorem DC{ι:List Addr}{h:Heap}{vs:List V}:∀{us:List Value},Cq vs us=true->aB ι h vs us:=by
 induction vs with
 |nil=>exact λ{us} q=>by cases us with |nil=>trivial|cons _ _=>exact bN q
 |cons v vs ih=>
  intro us q
  cases us with
  |nil=>exact bN q
  |cons u us=>exact⟨ET (ac (b:=Cq vs us) q).1,ih (ac (b:=Cq vs us) q).2⟩
theorem sG{l:List (Addr × Obj)}{a:Addr}{o:Obj}(h:l.lookup a=some o): (a,o)∈l:=by
 induction l with
 |nil=>exact KC h
 |cons p r ih=>
  rw[XY]at h
  cases q:a==p.1 with
  |true=>rw[q]at h;cases h;cases XE q;exact .head _
  |false=>rw[q]at h;exact .tail _ (ih h)
theorem Ot{h:Heap}{P:X4}{F:Nat->Yg}(HF:∀e∈fj,∃ps b sc,OW h F e ps b sc)(HX:FL h (xE P)): (KE P F).In h:=λa o e=>
 (X1.mp (sG e)).elim (λm=>HX _ m) λm=>(ZX.mp m).elim λx z=>by
  cases z.2
  obtain⟨_,_,_,f⟩:=HF x z.1
  exact f.at_
end
theorem TU{α:Type}{x:Option α}(h:x.isNone=true):x=none:=Xo.mp h
theorem AV{W:Wd}{d:ae}{ps:Yo}{sc:Scope}{P:Yo->Prop}(h:EI W d ps sc=true)(k:∀as kd dd,sc.kind=.function->sc.isGenerator=false->sc.isCoroutine=false->G0 W d sc as=true->P ⟨[],as,none,[],kd,none,dd⟩):P ps:=by
 have h1:=ac h
 have h2:=ac h1.2
 have h3:=ac h2.2
 have h4:=ac h3.2
 have h5:=ac h4.2
 have h6:=ac h5.2
 have h7:=ac h6.2
 have k:=λkd dd=>k ps.args kd dd (of_decide_eq_true h1.1) (xY h2.1) (xY h3.1) h7.2
 have e1:=X6.mp h4.1
 have e2:=TU h5.1
 have e3:=X6.mp h6.1
 have e4:=TU h7.1
 clear h1 h2 h3 h4 h5 h6 h7 h
 cases ps with |mk q1 as q2 q3 kd q4 dd=>
 have k:=k kd dd
 cases(show q1=[]from e1)
 cases(show q2=none from e2)
 cases(show q3=[]from e3)
 cases(show q4=none from e4)
 exact k
theorem Pq{P:X4}{h:Heap}(HX:FL h (xE P)){d:ae}{e:FE}{v:Value}(k:pT P d e=true)(r:v=jS e.d Xn .none): (v=.none/\d.dflts=[])\/∃T items,v=.ref T/\h.IsTuple T (X0 items)/\aB [] h d.dflts items:=by
 unfold pT at k
 subst r
 revert k
 cases e.d with
 |none=>exact λk=>.inl ⟨rfl,X6.mp k⟩
 |some T=>
  intro k
  have k:jS (bI (xE P) T) (λo=>(o.cls== .type "tuple")&&q9 o.data (λq=>Cq d.dflts q.toList) (λ_=>false) (λ_=>false) false) false=true:=k
  cases hg:bI (xE P) T with
  |none=>rw[hg]at k;exact bN k
  |some o=>
   rw[hg]at k
   have k:=ac (a:=o.cls== .type "tuple") k
   exact z9 k.2 λq n ed k4=>.inr ⟨T,q.toList,rfl,⟨o,HX _ (cq (l:=xE P) hg),XE k.1,n,ed⟩,DC k4⟩
theorem PY{w:World}{h:Heap}{P:X4}{F:Nat->Yg}(HX:FL h (xE P))(NL:h.NoLimit){f:Nat}{d:ae}{e:FE}(he:fj[f]?=some e){ps:Yo}{b:List Stmt}{sc:Scope}(fe:OW h F e ps b sc)(hk:EI (wd w h P F) d ps sc=true)(k2:pT P d e=true):zm (wd w h P F) f d b sc:=
 AV (P:=λps=>OW h F e ps b sc->zm (wd w h P F) f d b sc) hk (λas kd dd c1 c2 c3 k fe=>
  have p1:=ac k
  have p2:=ac p1.2
  have p3:=ac p2.2
  have hfa: (wd w h P F).fa f=e.a:=congrArg (λo=>jS o (λe:FE=>e.a) 0) he
  ⟨⟨_,F e.a,_,as,kd,dd,(congrArg h.get? hfa).trans fe.at_,rfl,rfl,fe.scope,fe.gl,fe.bu,fe.cl,fe.body,fe.code,fe.params,rfl,Pq HX k2 fe.df,of_decide_eq_true p1.1,XE p2.1,Wl p3.1,λn hn=>((Yq ..).mp (Xi.mp p3.2 n hn)).imp XE XE⟩,c1,c2,c3,NL,OX⟩) fe
theorem Fa{w:World}{h:Heap}{P:X4}{F:Nat->Yg}(HF:∀e∈fj,∃ps b sc,OW h F e ps b sc)(HX:FL h (xE P))(NL:h.NoLimit):Cs (wd w h P F) Mx.ΓP:=by
 refine⟨λf d hfd=>?_,λc k hc ne=>?_,λc hc=>?_,⟨⟨0,[]⟩,rfl,?_⟩,Ot HF HX⟩
 ·obtain⟨e,he,hk⟩:=D7 (I5 w h P F) hfd
  obtain⟨ps,b,sc,fe⟩:=HF e (WN he)
  have hk:=ac (a:=EI (wd w h P F) d ps sc) ((fe.tx _ _).symm.trans hk)
  exact⟨b,sc,PY HX NL he fe hk.1 (ac hk.2).1,(ac hk.2).2⟩
 ·show(Wo c 8&& !Wm c 2)=true
  have e1:Wo c 8=true:=Xv (Wv.mp hc).1
  rw[e1]
  cases q:Wm c 2 with
  |true=>exact absurd (Wq q) ne
  |false=>rfl
 ·have hc:=ac (a:=Wo c 8) (b:= !Wm c 2) hc
  have hl:c<jl.length:=Wl hc.1
  have ne:c≠2:=λq=>by rw[q]at hc;exact bN hc.2
  have z:=yO (n:=0) (HB w h P F) (Wt hl)
  rw[a03]at z
  exact⟨jl[c],Wt hl,ne,Ed (z ne)⟩
 ·have h1:=ac (Hf w h P F)
  have h2:=ac h1.2
  have h3:=ac h2.2
  have h4:=ac h3.2
  have h5:=ac h4.2
  refine⟨.mk _ ((HX (52,we) (cq (l:=xE P) (by kernel_rfl))).trans (congrArg some PW)) (by decide) (by decide) (by decide) (by decide) (by decide) λself=>?_,qD h1.1,XE h2.1,XE h3.1,XE h4.1,qE h5.1,gN h5.2,Ot HF HX⟩
  rw[refuseLoop_ref]
  exact PySem.F.store_Exception.passes self
noncomputable def wU(x:Nat):List Nat->Bool
 | []=>true
 |y::r=>match Wm x y with |true=>false|false=>wU x r
noncomputable def j4:List Nat->Bool
 | []=>true
 |x::r=>match wU x r with |true=>j4 r|false=>false
noncomputable def jK(s:Str):Nat:=PySem.W.Fast.code s.cps.toList
theorem mV{x:Nat}:∀{l:List Nat},wU x l=true->∀y∈l,x≠y
 |y::r,h,z,hz=>by
  unfold wU at h
  split at h
  ·cases h
  ·rename_i hb
   rcases WJ.mp hz with rfl|hz
   ·exact Xp hb
   ·exact mV h z hz
theorem kE{α:Type}{f:Str × α->Bool}:∀{l:List (Str × α)},(∀y∈l,f y=false)->l.filter f=[]
 | [],_=>rfl
 |y::r,h=>by rw[a0E,h y (.head _)];exact kE λz hz=>h z (.tail _ hz)
theorem lU{α:Type}:∀{l:List (Str × α)},j4 (l.map λp=>jK p.1)=true->∀p∈l,l.filter (·.1==p.1)=[p]
 |x::r,h,p,hp=>by
  unfold List.map j4 at h
  split at h
  ·rename_i ha
   have ha':=mV ha
   rcases WJ.mp hp with rfl|hp
   ·rw[a0E,beq_self_eq_true,if_pos rfl,kE]
    intro y hy
    refine beq_eq_false_iff_ne.mpr λe=>ha' _ (ZR hy) ?_
    show jK _=jK _
    rw[e]
   ·have: (x.1==p.1)=false:=beq_eq_false_iff_ne.mpr λe=>ha' _ (ZR hp) (by show jK _=jK _;rw[e])
    rw[a0E,this]
    exact lU h p hp
  ·cases h
theorem u3{sc:Scope}(h:j4 (sc.names.map λp=>jK p.1)=true):ZU sc=true:=by
 unfold ZU
 refine Xi.mpr λp hp=>?_
 obtain⟨n,k⟩:=p
 have e:=lU h (n,k) hp
 show(match sc.names.filter (·.1==n)with
  | [_]=>true
  | [(_,a),(_,b)]=>sc.kind== .class&&a != .free&&b== .free
  |_=>false)=true
 rw[e]
theorem nt:ZU pw_ok0103_01.main.scope=true:=u3 (by decide +kernel)
theorem ws:TablesWhole.wSs TablesWhole.holds pw_ok0103_01.main.scope ⟨pw_ok0103_01.main.scope,[],TablesWhole.wSs TablesWhole.gather pw_ok0103_01.main.scope ⟨pw_ok0103_01.main.scope,[],[],[],none⟩ pw_ok0103_01.main.scope pw_ok0103_01.main.body,[],none⟩ pw_ok0103_01.main.scope pw_ok0103_01.main.body=true:=by
 rw[PySem.W.Fast.te16421684217811934046];decide +kernel
open TablesWhole in
theorem OA{m:Module}(h1:noTwice m.scope=true)(h2:wSs holds m.scope ⟨m.scope,[],wSs gather m.scope ⟨m.scope,[],[],[],none⟩ m.scope m.body,[],none⟩ m.scope m.body=true):wModule holds m=true:=by
 unfold wModule
 have e:∀(x y:Bool),x=true->y=true->holds.all [holds.enter m.scope,holds.check "no name twice in a table, but a class's lawful pair" m.scope ("(the table)":Str) x,y]=true:=by
  intro x y hx hy;subst hx;subst hy;rfl
 exact e _ _ h1 h2
open TablesWhole in
theorem OF{p:Yz}(h:wModule holds p.main=true)(h1:p.modules=[])(h2:p.parses=[])(h3:p.harvested=[]):p.tablesWhole=true:=by
 unfold Yz.tablesWhole wProgram
 rw[h1,h2,h3,h];rfl
theorem tw:pw_ok0103_01.tablesWhole=true:=OF (OA nt ws) rfl rfl rfl
theorem Wc:chainsOk aS=true:=by decide +kernel
theorem W9: (frees rw_ok0103_01.row.toRowW&&rw_ok0103_01.row.within.isEmpty)=true:=by decide +kernel
theorem UI:opensWell rw_ok0103_01.row.prog=true:=by decide +kernel
theorem UV: (chainsOk aS&&opensWell rw_ok0103_01.row.prog&&(frees rw_ok0103_01.row.toRowW&&rw_ok0103_01.row.within.isEmpty))=true:=by
 rw[Wc,UI,W9];rfl
theorem RC(s:Wp):RecFacts rw_ok0103_01.row.records s.heap:=recFacts_nil rfl
theorem x1: ((importedModules rw_ok0103_01.row.prog.main.body).all cThrough.contains)=true:=by decide +kernel
theorem r1:readsOut rw_ok0103_01.row.prog rw_ok0103_01.row.prog.main.body (Wi "vars")=false:=by
 unfold readsOut;rw[XG];decide +kernel
theorem r2:readsOut rw_ok0103_01.row.prog rw_ok0103_01.row.prog.main.body (Wi "dir")=false:=by
 unfold readsOut;rw[XG];decide +kernel
theorem r3:readsOut rw_ok0103_01.row.prog rw_ok0103_01.row.prog.main.body (Wi "locals")=false:=by
 unfold readsOut;rw[XG];decide +kernel
theorem Sg{f:Str->Bool}{a b c:Str}(h1:f a=false)(h2:f b=false)(h3:f c=false):List.filter f [a,b,c]=[]:=by
 simp[h1,h2,h3]
theorem RQ:noRoadLSs {strict:=false,foot:=none,bare:=[]} rw_ok0103_01.row.prog.main.body=true:=by
 rw[Zh];decide +kernel
theorem Uh:noRoadLSs {strict:= !(importedModules rw_ok0103_01.row.prog.main.body).all cThrough.contains,foot:=none,bare:=List.filter (readsOut rw_ok0103_01.row.prog rw_ok0103_01.row.prog.main.body) [Wi "vars",Wi "dir",Wi "locals"]} rw_ok0103_01.row.prog.main.body=true:=by
 rw[Sg r1 r2 r3,x1];exact RQ
theorem FN:OpenLaw.wellSaid rw_ok0103_01=true:=by
 unfold OpenLaw.wellSaid OpenRow.wellSaid OpenRow.partSaid looksOpen
 repeat' (with_reducible refine look_both ?_ ?_)
 all_goals first| (with_reducible exact Uh)|skip
 all_goals (try rw[PySem.W.Fast.te8377067652309620493])
 all_goals (try rw[Zh])
 all_goals (try rw[XG])
 all_goals decide +kernel
theorem A9{R:WRecords}{xs:List WData}(h:WShape.hasItems R xs .int=true):∃l:List Int,xs=l.map .int:=by
 induction xs with
 |nil=>exact⟨[],rfl⟩
 |cons x xs ih=>
  have h:=ac (a:=WShape.has R x .int) (b:=WShape.hasItems R xs .int) h
  exact(hasW_int h.1).elim λi e=>(ih h.2).elim λl e2=>⟨i::l,e▸e2▸rfl⟩
theorem xt{R:WRecords}{cl:YG->Option Addr}{h:Heap}{ι:List Addr}{l:List Int}:∀{vs:List Value} {as:List Addr},ReadsAllW R cl h vs (l.map .int) as->aB ι h (l.map .int) vs:=by
 induction l with
 |nil=>exact λH=>(readsAllW_nil_inv H).1▸trivial
 |cons i l ih=>
  intro vs as H
  obtain⟨v,us,a1,a2,e,_,r1,r2⟩:=readsAllW_cons_inv H
  subst e
  exact⟨(readsW_int_inv r1).imp λ_ z=>z.1,ih r2⟩
inductive zC(h:Heap)(vals:List Value)(args:List WData):Prop
 |mk (l:List Int) (x:Addr) (vs:List Value):vals=[.ref x]->args=[.list (l.map .int)]->h.IsList x (X0 vs)->aB [x] h (l.map .int) vs->zC h vals args
theorem yE{R:WRecords}{cl:YG->Option Addr}{h:Heap}{args:List WData}{vals:List Value}{as:List Addr}(hs:WShape.hasAll R args [.list .int]=true)(r:ReadsAllW R cl h vals args as):zC h vals args:=by
 obtain⟨d,r',e,h1,h2⟩:=hasAllW_cons hs
 subst e
 cases hasAllW_nil h2
 obtain⟨xs,e,h3⟩:=hasW_list h1
 subst e
 obtain⟨l,e⟩:=A9 h3
 subst e
 obtain⟨v,us,_,_,e,_,r1,r2⟩:=readsAllW_cons_inv r
 subst e
 cases(readsAllW_nil_inv r2).1
 obtain⟨a,o,its,n,ai,e,ho,hc,hd,hr,_⟩:=readsW_list_open r1
 subst e
 exact⟨l,a,its.toList,rfl,rfl,⟨o,ho,hc,n,hd⟩,xt hr⟩
theorem Eu{l:List Int}(hp:rw_ok0103_01.row.pre.holds rw_ok0103_01.row.records {args:=[WData.list (l.map .int)]}=true):l.length<=100001:=by
 have h1:=(holds_andW hp).1
 have hv: (WTm.not (.lt (.lit (.int 63)) (.len (.arg 0)))).value rw_ok0103_01.row.records {args:=[WData.list (l.map .int)]}=some (.bool (!decide ((63:Int)<((l.map WData.int).length:Int)))):=rfl
 have h2:=condW_of h1 hv
 simp at h2
 omega
theorem C8(P:X4):∃es ep,(QQ P).data=.dict es ep/\nsFind es (Wi "law")=some (.ref 1787):=⟨_,_,rfl,by kernel_rfl⟩
theorem Dl:∃fd,Ez.data=.func fd/\fd.scope=Aw/\fd.body=.stmts Bf:=⟨G6,rfl,by kernel_rfl,by kernel_rfl⟩
theorem BM(run:∀l:List Int,∃σ,rj Mx.ΓP 691 103 [.ref 0] [.arg (l.map .int)]=.ok (.bool true) σ){d:DefRec}{kwd:List (YG × Wk)}(hdn:d.name=Wi "law"):WalkO aS cP (λ_ _=>True) (λ_ h=>ie h) rw_ok0103_01.row.toRowW d kwd λf vs=>PySem.call f vs:=by
 intro w s₀ s₁ mg mb G Y a o pm cd doc dV kV ho hd hcr hdf hmg hgens args vals as hpre hlay hrd hwl hno
 obtain⟨P,HF,HX⟩:=Y
 have at_:∀{x:Addr} {ob:Obj},bI (xE P) x=some ob->s₁.heap.get? x=some ob:=λ{x ob} e=>HX (x,ob) (cq (l:=xE P) e)
 obtain⟨hs,hp⟩:=pre_splitW hpre
 cases yE hs hrd with |mk l x vs e1 e2 hL hV=>
 subst e1 e2
 have hl:=Eu hp
 obtain⟨es,ep,h1,h2⟩:=C8 P
 obtain⟨om,em,nm,k1,k2,k3,k4⟩:=G.T.g
 have k5:s₁.heap.get? mainGlobals=some (QQ P):=at_ (x:=3) rfl
 rw[k5]at k1
 cases k1
 rw[h1]at k2
 cases k2
 have ha:a=1787:=by
  have:=k4 d.name
  rw[hmg,hdn,h2]at this
  cases this
  rfl
 subst ha
 have GD:=Fa (w:=w) (λe he=>Kl (HF e he)) HX G.T.nolimit
 obtain⟨bd,sc,FO,_⟩:=GD.fn 103 i8 rfl
 obtain⟨fo,fd,ns,as,kd,dd,q1,q2,q3,q4,q5,q6,q7,q8,_⟩:=FO.obj
 obtain⟨fd',r1,r2,r3⟩:=Dl
 have q1:s₁.heap.get? 1787=some fo:=q1
 rw[at_ (x:=1787) (ob:=Ez) rfl]at q1
 cases q1
 rw[r1]at q3
 cases q3
 have e1:sc=Aw:=q4.symm.trans r2
 have e2:bd=Bf:=by
  have:=q8.symm.trans r3
  cases this
  rfl
 subst e1 e2
 have I:ay (wd w s₁.heap P (BX s₁.heap)) [x] [.arg (l.map .int)] s₁.heap:=by
  refine⟨rfl,by simp,⟨_,at_ (x:=1) rfl⟩,λi o a e1 e2 ne=>?_,λ_ _ e=>e,λi o a e1 e2=>?_⟩
  ·cases i with
   |zero=>cases e1;exact absurd rfl (ne _)
   |succ i=>cases e1
  ·cases i with
   |zero=>
    cases e1
    cases e2
    exact⟨by simpa using hl,vs,hL,hV⟩
   |succ i=>cases e1
 have V0:aB [x] s₁.heap [V.ref 0] [.ref x]:=⟨⟨x,rfl,rfl⟩,trivial⟩
 obtain⟨σ',run⟩:=run l
 have R:hM callerA (691+1):=⟨rfl,by decide,by decide⟩
 refine a0a (YE (yu GD FO (.head _) (La w s₁.heap P (BX s₁.heap)) R rfl I V0 rfl run) λr s' z=>?_)
 cases r with
 |error e=>exact z.elim
 |ok f=>
  cases f with
  |ret v=>
   obtain⟨rfl,hk,hsm⟩:=z
   obtain⟨hh,t,rfl⟩:=hsm
   exact⟨.inl ⟨.bool true,.bool true,[],rfl,λcls=>rfl,.bool true,postW_of rfl rfl (by first|decide +kernel| (unfold same;rfl)|simp[same]),λ_=>⟨Yw,λ_ h=>(nomatch h)⟩⟩,OldK.of_keep hk,rfl,AllBare.of_eq hgens⟩
  |_=>exact z.elim
end Mine
end
section
namespace Mx
open Mine
noncomputable def ck(a n:Nat):Bool:=qb n λq=>CF (WW a q)
noncomputable def tv(a b:Nat):Prop:=∀i,a<=i->i<b->CF i=true
theorem fQ{a:Nat}:tv a a:=λ_ h k=>absurd h (Yy k)
theorem a5{a b:Nat}(n:Nat)(h:ck a n=true)(k:tv (WW a n) b):tv a b:=λi l u=>(Xl i (a+n)).elim (λz=>by
 obtain⟨j,e⟩:=WM l
 subst e
 exact gw h j (Nat.lt_of_add_lt_add_left z)) λz=>k i z u
theorem cM{P:Nat->Prop}{k n:Nat}(h:P k)(r:∀g,k+1<=g->g<n->P g):∀g,k<=g->g<n->P g:=λg l u=>(Nat.eq_or_lt_of_le l).elim (λe=>e▸h) λz=>r g z u
theorem FD{P:Nat->Prop}{n:Nat}:∀g,n<=g->g<n->P g:=λ_ l u=>absurd l (Yy u)
theorem c0:ck 0 30=true:=by decide +kernel
theorem UT:ck 30 10=true:=by decide +kernel
theorem V7:ck 40 10=true:=by decide +kernel
theorem M8:ck 10000 10=true:=by decide +kernel
theorem KY:ck 10010 5=true:=by decide +kernel
theorem Mr:ck 10015 5=true:=by decide +kernel
theorem Ny:ck 10020 4=true:=by decide +kernel
theorem MQ:ck 10024 2=true:=by decide +kernel
theorem Go:ck 10026 2=true:=by decide +kernel
theorem Io:ck 10028 2=true:=by decide +kernel
theorem KX:ck 10030 2=true:=by decide +kernel
theorem MW:ck 10032 2=true:=by decide +kernel
theorem Jz:ck 10034 2=true:=by decide +kernel
theorem LV:ck 10036 2=true:=by decide +kernel
theorem Id:ck 10038 2=true:=by decide +kernel
theorem IS:ck 10040 30=true:=by decide +kernel
theorem Nz:ck 10070 20=true:=by decide +kernel
theorem M7:ck 10090 5=true:=by decide +kernel
theorem HE:ck 10095 15=true:=by decide +kernel
theorem Jp:ck 10110 5=true:=by decide +kernel
theorem Nm:ck 10115 5=true:=by decide +kernel
theorem Ld:ck 10120 15=true:=by decide +kernel
theorem Lf:ck 10135 5=true:=by decide +kernel
theorem II:ck 20000 55=true:=by decide +kernel
theorem LI:ck 20055 22=true:=by decide +kernel
theorem JI:ck 20077 33=true:=by decide +kernel
theorem Hl:ck 20110 33=true:=by decide +kernel
theorem HZ:ck 20143 22=true:=by decide +kernel
theorem N5:ck 20165 11=true:=by decide +kernel
theorem Ma:ck 30000 15=true:=by decide +kernel
theorem Jb:ck 30015 35=true:=by decide +kernel
theorem HH:ck 30050 5=true:=by decide +kernel
theorem HL:ck 30055 25=true:=by decide +kernel
theorem IJ:ck 30080 10=true:=by decide +kernel
theorem LX:ck 30090 10=true:=by decide +kernel
theorem MI:ck 30100 5=true:=by decide +kernel
theorem HN:ck 30105 45=true:=by decide +kernel
theorem GQ:ck 30150 5=true:=by decide +kernel
theorem GU:ck 30155 45=true:=by decide +kernel
theorem Iq:ck 30200 5=true:=by decide +kernel
theorem Gx:ck 30205 45=true:=by decide +kernel
theorem NZ:ck 30250 5=true:=by decide +kernel
theorem Lh:ck 30255 25=true:=by decide +kernel
theorem Lo:ck 30280 20=true:=by decide +kernel
theorem H7:ck 30300 5=true:=by decide +kernel
theorem NF:ck 30305 25=true:=by decide +kernel
theorem LE:ck 30330 20=true:=by decide +kernel
theorem Kh:ck 30350 5=true:=by decide +kernel
theorem KH:ck 30355 45=true:=by decide +kernel
theorem MC:ck 30400 5=true:=by decide +kernel
theorem JQ:ck 30405 45=true:=by decide +kernel
theorem NC:ck 30450 5=true:=by decide +kernel
theorem Jh:ck 30455 20=true:=by decide +kernel
theorem L7:ck 30475 25=true:=by decide +kernel
theorem HT:ck 30500 5=true:=by decide +kernel
theorem GN:ck 30505 20=true:=by decide +kernel
theorem J3:ck 30525 25=true:=by decide +kernel
theorem GK:ck 30550 5=true:=by decide +kernel
theorem MV:ck 30555 20=true:=by decide +kernel
theorem Ip:ck 30575 15=true:=by decide +kernel
theorem Jl:ck 30590 195=true:=by decide +kernel
theorem LU:ck 30785 75=true:=by decide +kernel
theorem LO:ck 30860 55=true:=by decide +kernel
theorem Hp:ck 30915 40=true:=by decide +kernel
theorem I6:ck 30955 35=true:=by decide +kernel
theorem IG:ck 30990 35=true:=by decide +kernel
theorem He:ck 31025 30=true:=by decide +kernel
theorem Gy:ck 31055 25=true:=by decide +kernel
theorem Lk:ck 31080 25=true:=by decide +kernel
theorem I0:ck 31105 25=true:=by decide +kernel
theorem IQ:ck 31130 30=true:=by decide +kernel
theorem Nu:ck 31160 30=true:=by decide +kernel
theorem MS:ck 31190 30=true:=by decide +kernel
theorem N8:ck 31220 25=true:=by decide +kernel
theorem GC:ck 31245 15=true:=by decide +kernel
theorem J9:ck 31260 40=true:=by decide +kernel
theorem NT:ck 31300 5=true:=by decide +kernel
theorem Gp:ck 31305 35=true:=by decide +kernel
theorem Mv:ck 31340 10=true:=by decide +kernel
theorem Ly:ck 31350 5=true:=by decide +kernel
theorem Gv:ck 31355 25=true:=by decide +kernel
theorem LQ:ck 31380 15=true:=by decide +kernel
theorem Np:ck 31395 5=true:=by decide +kernel
theorem JM:ck 31400 5=true:=by decide +kernel
theorem MM:ck 31405 25=true:=by decide +kernel
theorem Jn:ck 31430 10=true:=by decide +kernel
theorem GW:ck 31440 10=true:=by decide +kernel
theorem Nv:ck 31450 5=true:=by decide +kernel
theorem Nr:ck 31455 25=true:=by decide +kernel
theorem Hv:ck 31480 10=true:=by decide +kernel
theorem HI:ck 31490 10=true:=by decide +kernel
theorem Kg:ck 31500 5=true:=by decide +kernel
theorem Mf:ck 31505 25=true:=by decide +kernel
theorem GO:ck 31530 15=true:=by decide +kernel
theorem Mn:ck 31545 35=true:=by decide +kernel
theorem Gu:ck 31580 20=true:=by decide +kernel
theorem Jx:ck 31600 5=true:=by decide +kernel
theorem MH:ck 31605 15=true:=by decide +kernel
theorem Gz:ck 31620 10=true:=by decide +kernel
theorem Lv:ck 31630 5=true:=by decide +kernel
theorem KW:ck 31635 10=true:=by decide +kernel
theorem K1:ck 31645 5=true:=by decide +kernel
theorem HU:ck 31650 5=true:=by decide +kernel
theorem JL:ck 31655 15=true:=by decide +kernel
theorem Ik:ck 31670 10=true:=by decide +kernel
theorem JD:ck 31680 10=true:=by decide +kernel
theorem H8:ck 31690 10=true:=by decide +kernel
theorem H9:ck 31700 5=true:=by decide +kernel
theorem Mq:ck 31705 15=true:=by decide +kernel
theorem Jr:ck 31720 5=true:=by decide +kernel
theorem Md:ck 31725 10=true:=by decide +kernel
theorem HA:ck 31735 5=true:=by decide +kernel
theorem K8:ck 31740 10=true:=by decide +kernel
theorem It:ck 31750 50=true:=by decide +kernel
theorem Iu:ck 31800 5=true:=by decide +kernel
theorem J5:ck 31805 45=true:=by decide +kernel
theorem Nj:ck 31850 5=true:=by decide +kernel
theorem Ib:ck 31855 45=true:=by decide +kernel
theorem ND:ck 31900 10=true:=by decide +kernel
theorem Ki:ck 31910 40=true:=by decide +kernel
theorem LH:ck 31950 5=true:=by decide +kernel
theorem Je:ck 31955 160=true:=by decide +kernel
theorem MN:ck 32115 150=true:=by decide +kernel
theorem GX:ck 32265 50=true:=by decide +kernel
theorem Ks:ck 32315 20=true:=by decide +kernel
theorem L9:ck 32335 15=true:=by decide +kernel
theorem IV:ck 32350 15=true:=by decide +kernel
theorem Mg:ck 32365 30=true:=by decide +kernel
theorem GS:ck 32395 40=true:=by decide +kernel
theorem Nn:ck 32435 45=true:=by decide +kernel
theorem IE:ck 32480 35=true:=by decide +kernel
theorem JZ:ck 32515 35=true:=by decide +kernel
theorem MZ:ck 40000 3=true:=by decide +kernel
theorem NQ:ck 40003 2=true:=by decide +kernel
theorem Lx:ck 40005 1=true:=by decide +kernel
theorem GP:ck 40006 1=true:=by decide +kernel
theorem H0:ck 40007 1=true:=by decide +kernel
theorem MF:ck 40008 1=true:=by decide +kernel
theorem Iv:ck 40009 1=true:=by decide +kernel
theorem I9:ck 40010 2=true:=by decide +kernel
theorem NJ:ck 40012 3=true:=by decide +kernel
theorem GJ:ck 40015 6=true:=by decide +kernel
theorem LM:ck 40021 9=true:=by decide +kernel
theorem Lz:ck 40030 9=true:=by decide +kernel
theorem Ht:ck 40039 9=true:=by decide +kernel
theorem Jv:ck 40048 9=true:=by decide +kernel
theorem O0:ck 40057 22=true:=by decide +kernel
theorem H6:ck 40079 26=true:=by decide +kernel
theorem IZ:ck 40105 39=true:=by decide +kernel
theorem KR:ck 40144 51=true:=by decide +kernel
theorem HY:ck 50000 40=true:=by decide +kernel
theorem MD:ck 50040 40=true:=by decide +kernel
theorem M1:ck 50080 20=true:=by decide +kernel
theorem IN:ck 50100 30=true:=by decide +kernel
theorem KA:ck 50130 5=true:=by decide +kernel
theorem LA:ck 50135 20=true:=by decide +kernel
theorem Ij:ck 50155 15=true:=by decide +kernel
theorem Hn:ck 50170 5=true:=by decide +kernel
theorem Jq:ck 50175 5=true:=by decide +kernel
theorem Kx:ck 50180 30=true:=by decide +kernel
theorem KO:ck 50210 5=true:=by decide +kernel
theorem GM:ck 50215 5=true:=by decide +kernel
theorem NE:ck 50220 10=true:=by decide +kernel
theorem Hi:ck 50230 5=true:=by decide +kernel
theorem Hw:ck 50235 5=true:=by decide +kernel
theorem HR:ck 50240 10=true:=by decide +kernel
theorem N6:ck 50250 5=true:=by decide +kernel
theorem My:ck 50255 5=true:=by decide +kernel
theorem Kn:ck 50260 15=true:=by decide +kernel
theorem K3:ck 50275 5=true:=by decide +kernel
theorem Hd:ck 50280 15=true:=by decide +kernel
theorem N9:ck 50295 5=true:=by decide +kernel
theorem Ji:ck 50300 10=true:=by decide +kernel
theorem NP:ck 50310 5=true:=by decide +kernel
theorem J1:ck 50315 5=true:=by decide +kernel
theorem Mj:ck 50320 10=true:=by decide +kernel
theorem HV:ck 50330 5=true:=by decide +kernel
theorem Li:ck 50335 5=true:=by decide +kernel
theorem GG:ck 50340 15=true:=by decide +kernel
theorem N7:ck 50355 5=true:=by decide +kernel
theorem IC:ck 50360 10=true:=by decide +kernel
theorem Jt:ck 50370 5=true:=by decide +kernel
theorem NW:ck 50375 5=true:=by decide +kernel
theorem Kv:ck 50380 15=true:=by decide +kernel
theorem KZ:ck 50395 5=true:=by decide +kernel
theorem Ie:ck 50400 80=true:=by decide +kernel
theorem J6:ck 50480 20=true:=by decide +kernel
theorem IU:ck 50500 30=true:=by decide +kernel
theorem GA:ck 50530 5=true:=by decide +kernel
theorem MO:ck 50535 20=true:=by decide +kernel
theorem JO:ck 50555 15=true:=by decide +kernel
theorem Jo:ck 50570 5=true:=by decide +kernel
theorem Mm:ck 50575 5=true:=by decide +kernel
theorem NB:ck 50580 60=true:=by decide +kernel
theorem LD:ck 50640 40=true:=by decide +kernel
theorem J4:ck 50680 20=true:=by decide +kernel
theorem JS:ck 50700 35=true:=by decide +kernel
theorem Kb:ck 50735 20=true:=by decide +kernel
theorem Ju:ck 50755 15=true:=by decide +kernel
theorem Mb:ck 50770 5=true:=by decide +kernel
theorem Ll:ck 50775 5=true:=by decide +kernel
theorem Jy:ck 50780 30=true:=by decide +kernel
theorem Lq:ck 50810 5=true:=by decide +kernel
theorem KI:ck 50815 10=true:=by decide +kernel
theorem GF:ck 50825 10=true:=by decide +kernel
theorem JU:ck 50835 15=true:=by decide +kernel
theorem Hy:ck 50850 25=true:=by decide +kernel
theorem ID:ck 50875 25=true:=by decide +kernel
theorem Hg:ck 60000 1=true:=by decide +kernel
theorem HC:ck 60001 1=true:=by decide +kernel
theorem Hb:ck 60002 1=true:=by decide +kernel
theorem JB:ck 60003 1=true:=by decide +kernel
theorem Jg:ck 60004 1=true:=by decide +kernel
theorem Jw:ck 60005 1=true:=by decide +kernel
theorem Gl:ck 60006 1=true:=by decide +kernel
theorem Lu:ck 60007 1=true:=by decide +kernel
theorem Hj:ck 60008 1=true:=by decide +kernel
theorem Iy:ck 60009 1=true:=by decide +kernel
theorem LN:ck 60010 1=true:=by decide +kernel
theorem KU:ck 60011 1=true:=by decide +kernel
theorem Hc:ck 60012 1=true:=by decide +kernel
theorem Mp:ck 60013 1=true:=by decide +kernel
theorem Nf:ck 60014 1=true:=by decide +kernel
theorem K5:ck 60015 1=true:=by decide +kernel
theorem N0:ck 70000 1=true:=by decide +kernel
theorem Ni:ck 70001 1=true:=by decide +kernel
theorem Ms:ck 70002 1=true:=by decide +kernel
theorem I2:ck 70003 1=true:=by decide +kernel
theorem Na:ck 70004 2=true:=by decide +kernel
theorem M9:ck 70006 4=true:=by decide +kernel
theorem Kj:ck 70010 1=true:=by decide +kernel
theorem JP:ck 70011 7=true:=by decide +kernel
theorem N4:ck 70018 12=true:=by decide +kernel
theorem LL:ck 70030 1=true:=by decide +kernel
theorem K7:ck 70031 12=true:=by decide +kernel
theorem Gw:ck 70043 3=true:=by decide +kernel
theorem Ix:ck 70046 3=true:=by decide +kernel
theorem JE:ck 70049 3=true:=by decide +kernel
theorem Gj:ck 70052 9=true:=by decide +kernel
theorem MA:ck 70061 3=true:=by decide +kernel
theorem Kc:ck 70064 3=true:=by decide +kernel
theorem NM:ck 70067 3=true:=by decide +kernel
theorem Jf:ck 70070 9=true:=by decide +kernel
theorem J0:ck 70079 3=true:=by decide +kernel
theorem Kt:ck 70082 3=true:=by decide +kernel
theorem Ha:ck 70085 3=true:=by decide +kernel
theorem Js:ck 70088 3=true:=by decide +kernel
theorem Ln:ck 70091 12=true:=by decide +kernel
theorem GH:ck 70103 3=true:=by decide +kernel
theorem Jm:ck 70106 3=true:=by decide +kernel
theorem MT:ck 70109 3=true:=by decide +kernel
theorem NX:ck 70112 12=true:=by decide +kernel
theorem GY:ck 70124 3=true:=by decide +kernel
theorem LW:ck 70127 3=true:=by decide +kernel
theorem Nk:ck 70130 12=true:=by decide +kernel
theorem IF:ck 70142 3=true:=by decide +kernel
theorem Ml:ck 70145 3=true:=by decide +kernel
theorem GR:ck 70148 3=true:=by decide +kernel
theorem JJ:ck 70151 12=true:=by decide +kernel
theorem Gk:ck 70163 3=true:=by decide +kernel
theorem L6:ck 70166 3=true:=by decide +kernel
theorem L8:ck 70169 3=true:=by decide +kernel
theorem Ig:ck 70172 12=true:=by decide +kernel
theorem J2:ck 70184 3=true:=by decide +kernel
theorem Ho:ck 70187 3=true:=by decide +kernel
theorem KD:ck 70190 9=true:=by decide +kernel
theorem K2:ck 70199 3=true:=by decide +kernel
theorem Km:ck 70202 3=true:=by decide +kernel
theorem Hx:ck 70205 3=true:=by decide +kernel
theorem GV:ck 70208 3=true:=by decide +kernel
theorem Iw:ck 70211 3=true:=by decide +kernel
theorem Ls:ck 70214 9=true:=by decide +kernel
theorem Mc:ck 70223 3=true:=by decide +kernel
theorem Lb:ck 70226 3=true:=by decide +kernel
theorem JH:ck 70229 2=true:=by decide +kernel
theorem GB:ck 80000 1=true:=by decide +kernel
theorem LY:ck 80001 10=true:=by decide +kernel
theorem NV:ck 80011 20=true:=by decide +kernel
theorem Mu:ck 80031 10=true:=by decide +kernel
theorem K0:ck 80041 9=true:=by decide +kernel
theorem MY:ck 90000 1=true:=by decide +kernel
theorem Il:ck 90001 1=true:=by decide +kernel
theorem NK:ck 90002 1=true:=by decide +kernel
theorem Hz:ck 90003 1=true:=by decide +kernel
theorem Jk:ck 90004 3=true:=by decide +kernel
theorem Ng:ck 90007 1=true:=by decide +kernel
theorem Fh:ck 100000 1=true:=by decide +kernel
theorem Dg:ck 100001 1=true:=by decide +kernel
theorem Ek:ck 100002 1=true:=by decide +kernel
theorem Ep:ck 100003 1=true:=by decide +kernel
theorem DJ:ck 100004 1=true:=by decide +kernel
theorem E9:ck 110000 1=true:=by decide +kernel
theorem Dk:ck 110001 1=true:=by decide +kernel
theorem F9:ck 110002 1=true:=by decide +kernel
theorem EV:ck 110003 1=true:=by decide +kernel
theorem EG:ck 110004 1=true:=by decide +kernel
theorem r0:tv 0 50:=a5 30 c0 (a5 10 UT (a5 10 V7 fQ))
theorem r1:tv 10000 10140:=a5 10 M8 (a5 5 KY (a5 5 Mr (a5 4 Ny (a5 2 MQ (a5 2 Go (a5 2 Io (a5 2 KX (a5 2 MW (a5 2 Jz (a5 2 LV (a5 2 Id (a5 30 IS (a5 20 Nz (a5 5 M7 (a5 15 HE (a5 5 Jp (a5 5 Nm (a5 15 Ld (a5 5 Lf fQ)))))))))))))))))))
theorem r2:tv 20000 20176:=a5 55 II (a5 22 LI (a5 33 JI (a5 33 Hl (a5 22 HZ (a5 11 N5 fQ)))))
theorem r3:tv 30000 32550:=a5 15 Ma (a5 35 Jb (a5 5 HH (a5 25 HL (a5 10 IJ (a5 10 LX (a5 5 MI (a5 45 HN (a5 5 GQ (a5 45 GU (a5 5 Iq (a5 45 Gx (a5 5 NZ (a5 25 Lh (a5 20 Lo (a5 5 H7 (a5 25 NF (a5 20 LE (a5 5 Kh (a5 45 KH (a5 5 MC (a5 45 JQ (a5 5 NC (a5 20 Jh (a5 25 L7 (a5 5 HT (a5 20 GN (a5 25 J3 (a5 5 GK (a5 20 MV (a5 15 Ip (a5 195 Jl (a5 75 LU (a5 55 LO (a5 40 Hp (a5 35 I6 (a5 35 IG (a5 30 He (a5 25 Gy (a5 25 Lk (a5 25 I0 (a5 30 IQ (a5 30 Nu (a5 30 MS (a5 25 N8 (a5 15 GC (a5 40 J9 (a5 5 NT (a5 35 Gp (a5 10 Mv (a5 5 Ly (a5 25 Gv (a5 15 LQ (a5 5 Np (a5 5 JM (a5 25 MM (a5 10 Jn (a5 10 GW (a5 5 Nv (a5 25 Nr (a5 10 Hv (a5 10 HI (a5 5 Kg (a5 25 Mf (a5 15 GO (a5 35 Mn (a5 20 Gu (a5 5 Jx (a5 15 MH (a5 10 Gz (a5 5 Lv (a5 10 KW (a5 5 K1 (a5 5 HU (a5 15 JL (a5 10 Ik (a5 10 JD (a5 10 H8 (a5 5 H9 (a5 15 Mq (a5 5 Jr (a5 10 Md (a5 5 HA (a5 10 K8 (a5 50 It (a5 5 Iu (a5 45 J5 (a5 5 Nj (a5 45 Ib (a5 10 ND (a5 40 Ki (a5 5 LH (a5 160 Je (a5 150 MN (a5 50 GX (a5 20 Ks (a5 15 L9 (a5 15 IV (a5 30 Mg (a5 40 GS (a5 45 Nn (a5 35 IE (a5 35 JZ fQ))))))))))))))))))))))))))))))))))))))))))))))))))))))))))))))))))))))))))))))))))))))))))))))))))))))
theorem r4:tv 40000 40195:=a5 3 MZ (a5 2 NQ (a5 1 Lx (a5 1 GP (a5 1 H0 (a5 1 MF (a5 1 Iv (a5 2 I9 (a5 3 NJ (a5 6 GJ (a5 9 LM (a5 9 Lz (a5 9 Ht (a5 9 Jv (a5 22 O0 (a5 26 H6 (a5 39 IZ (a5 51 KR fQ)))))))))))))))))
theorem r5:tv 50000 50900:=a5 40 HY (a5 40 MD (a5 20 M1 (a5 30 IN (a5 5 KA (a5 20 LA (a5 15 Ij (a5 5 Hn (a5 5 Jq (a5 30 Kx (a5 5 KO (a5 5 GM (a5 10 NE (a5 5 Hi (a5 5 Hw (a5 10 HR (a5 5 N6 (a5 5 My (a5 15 Kn (a5 5 K3 (a5 15 Hd (a5 5 N9 (a5 10 Ji (a5 5 NP (a5 5 J1 (a5 10 Mj (a5 5 HV (a5 5 Li (a5 15 GG (a5 5 N7 (a5 10 IC (a5 5 Jt (a5 5 NW (a5 15 Kv (a5 5 KZ (a5 80 Ie (a5 20 J6 (a5 30 IU (a5 5 GA (a5 20 MO (a5 15 JO (a5 5 Jo (a5 5 Mm (a5 60 NB (a5 40 LD (a5 20 J4 (a5 35 JS (a5 20 Kb (a5 15 Ju (a5 5 Mb (a5 5 Ll (a5 30 Jy (a5 5 Lq (a5 10 KI (a5 10 GF (a5 15 JU (a5 25 Hy (a5 25 ID fQ)))))))))))))))))))))))))))))))))))))))))))))))))))))))))
theorem r6:tv 60000 60016:=a5 1 Hg (a5 1 HC (a5 1 Hb (a5 1 JB (a5 1 Jg (a5 1 Jw (a5 1 Gl (a5 1 Lu (a5 1 Hj (a5 1 Iy (a5 1 LN (a5 1 KU (a5 1 Hc (a5 1 Mp (a5 1 Nf (a5 1 K5 fQ)))))))))))))))
theorem r7:tv 70000 70231:=a5 1 N0 (a5 1 Ni (a5 1 Ms (a5 1 I2 (a5 2 Na (a5 4 M9 (a5 1 Kj (a5 7 JP (a5 12 N4 (a5 1 LL (a5 12 K7 (a5 3 Gw (a5 3 Ix (a5 3 JE (a5 9 Gj (a5 3 MA (a5 3 Kc (a5 3 NM (a5 9 Jf (a5 3 J0 (a5 3 Kt (a5 3 Ha (a5 3 Js (a5 12 Ln (a5 3 GH (a5 3 Jm (a5 3 MT (a5 12 NX (a5 3 GY (a5 3 LW (a5 12 Nk (a5 3 IF (a5 3 Ml (a5 3 GR (a5 12 JJ (a5 3 Gk (a5 3 L6 (a5 3 L8 (a5 12 Ig (a5 3 J2 (a5 3 Ho (a5 9 KD (a5 3 K2 (a5 3 Km (a5 3 Hx (a5 3 GV (a5 3 Iw (a5 9 Ls (a5 3 Mc (a5 3 Lb (a5 2 JH fQ))))))))))))))))))))))))))))))))))))))))))))))))))
theorem r8:tv 80000 80050:=a5 1 GB (a5 10 LY (a5 20 NV (a5 10 Mu (a5 9 K0 fQ))))
theorem r9:tv 90000 90008:=a5 1 MY (a5 1 Il (a5 1 NK (a5 1 Hz (a5 3 Jk (a5 1 Ng fQ)))))
theorem U5:tv 100000 100005:=a5 1 Fh (a5 1 Dg (a5 1 Ek (a5 1 Ep (a5 1 DJ fQ))))
theorem VE:tv 110000 110005:=a5 1 E9 (a5 1 Dk (a5 1 F9 (a5 1 EV (a5 1 EG fQ))))
theorem RA:∀g,0<=g->g<12->tv (Zz 10000 g) (WW (Zz 10000 g) (Re g)):=cM r0 (cM r1 (cM r2 (cM r3 (cM r4 (cM r5 (cM r6 (cM r7 (cM r8 (cM r9 (cM U5 (cM VE FD)))))))))))
theorem MB:∀i,DQ 14 i=true->CF i=true:=λi h=>by
 have h:=aT (aT h).2
 refine RA (i / 10000) (Xu _) (Wl h.1) i ?_ ?_
 ·exact Nat.mul_div_le i 10000
 ·show i<10000*(i / 10000)+Re (i / 10000)
  have e: 10000*(i / 10000)+i % 10000=i:=Nat.div_add_mod i 10000
  have z:=Nat.add_lt_add_left (Wl h.2) (10000*(i / 10000))
  rwa[show 10000*(i / 10000)+Za i 10000=i from e]at z
theorem k0:dk 0=true:=by decide +kernel
theorem k1:dk 1=true:=by decide +kernel
theorem k2:dk 2=true:=by decide +kernel
theorem k3:dk 3=true:=by decide +kernel
theorem k4:dk 4=true:=by decide +kernel
theorem k5:dk 5=true:=by decide +kernel
theorem k6:dk 6=true:=by decide +kernel
theorem k7:dk 7=true:=by decide +kernel
theorem k8:dk 8=true:=by decide +kernel
theorem k9:dk 9=true:=by decide +kernel
theorem Uy:dk 10=true:=by decide +kernel
theorem U3:dk 11=true:=by decide +kernel
theorem UC:dk 12=true:=by decide +kernel
theorem Uk:dk 13=true:=by decide +kernel
theorem UP:dk 14=true:=by decide +kernel
theorem BN:∀j,j<15->dk j=true:=λj=>(show ∀j,0<=j->j<15->dk j=true from cM k0 (cM k1 (cM k2 (cM k3 (cM k4 (cM k5 (cM k6 (cM k7 (cM k8 (cM k9 (cM Uy (cM U3 (cM UC (cM Uk (cM UP FD))))))))))))))) j (Xu _)
end Mx
end
section
open PySem PySem.W PyProof.Rows
namespace Mine
open PySem.Challenge
theorem hY(w:World)(s:Wp)(e: (ie s.heap)=True):ie s.heap:=e▸trivial
theorem bare:rw_ok0103_01.row.prog.bare:=⟨rfl,rfl,rfl,rfl,rfl,tw⟩
theorem Rh:rw_ok0103_01.row.toRowW.promised:=by w_witness2
end Mine
theorem PySem.Challenge.cw_ok0103_01_holds : PySem.Challenge.rw_ok0103_01.Holds :=
 
 ⟨Mine.FN,PySem.W.holds_open (r:=PySem.Challenge.rw_ok0103_01.row) (q:=Mine.aS) (loose:=Mine.cP) (Xt:=λ_=>true) (XP:=λ_ _=>True) (α:=Prop) (Yf:=λs=>Mine.ie s.heap) (Ya:=λ_=>True) (YP:=λ_ h=>Mine.ie h) (N:=60000)
  Mine.left Mine.hY (λ_ _ _ x k=>x.keeps k) (λ_ _=>trivial) (λ_ _ _ _ _=>trivial) (by rfl) (by rfl) (by rfl) (λs _=>Mine.RC s) (by rfl) (PySem.W.row_said Mine.FN) Mine.UV Mine.bare Mine.Rh (Mine.BM (Mx.B9 Mx.MB Mx.BN) rfl)⟩
end
